import PyProof.Rows.All
import HandS.ForMost
import HandS.ForExc
import HandS.Walk
import HandS.TupAny
import HandS.TupMul
import HandS.Wide
import HandS.Deep
import HandS.IsInst
import HandS.Zip
import HandS.Style
import HandS.Small
import HandS.ListItems
import KE.GoesEnum
import HandS.SortInts
import HandS.CallLocal
import HandS.Conv
import HandS.Text
import HandS.WordsExc
import HandS.Flow
import HandS.ExcIs
import HandS.TryMany
import HandS.ExcBuiltin
import KE.KDictZip
import KE.KDictList
import HandS.ExcValue
import PySem.Challenge.RW_orderedcodes_k74_main_rows_of_lengths_st
section PvA_
set_option Elab.async false
set_option linter.all false
set_option maxRecDepth 100000
set_option maxHeartbeats 4000000
/-! Plain values over the hand layer: data without addresses, a state of slots, one monad; each construct once. -/
namespace Pv
open PySem PySem.Spec PyProof.Rows L2

/-- data: what a value stands for, whatever its address -/
inductive D where
  | non | bl (b : Bool) | int (i : Int) | str (x : Str) | tup (xs : List D) | lst (xs : List D)
  | fn (a : Addr) | box | scr (ns : List Int) | dk (kvs : List (Key × D)) | dt (kvs : List (List Key × D))
  deriving Inhabited

/-- what is frozen (never written again), and where the box of draws stands -/
structure Wd where
  F : Hp
  bp : Option Addr

mutual
def Rep (K : PySem.W.Frag) (w : Wd) : D → V → Prop
  | .non, v => v = .non
  | .bl b, v => v = .bl b
  | .int i, v => v = .int i
  | .str x, v => v = .str x
  | .tup ds, v => ∃ a vs, v = .ref a ∧ SqT K w.F a vs ∧ RepAll K w ds vs
  | .lst ds, v => ∃ a vs, v = .ref a ∧ w.F a = some (.lst vs) ∧ RepAll K w ds vs
  | .fn a, v => v = .ref a
  | .box, v => ∃ a, v = .ref a ∧ w.bp = some a
  | .scr ns, v => ∃ a, v = .ref a ∧ SqL K w.F a (ns.map V.int)
  | .dk kvs, v => ∃ a us, v = .ref a ∧ w.F a = some (.dK us) ∧ RepK K w kvs us
  | .dt kvs, v => ∃ a us, v = .ref a ∧ w.F a = some (.dT us) ∧ RepT K w kvs us
def RepAll (K : PySem.W.Frag) (w : Wd) : List D → List V → Prop
  | [], vs => vs = []
  | d :: ds, vs => ∃ v r, vs = v :: r ∧ Rep K w d v ∧ RepAll K w ds r
def RepK (K : PySem.W.Frag) (w : Wd) : List (Key × D) → List (Key × V) → Prop
  | [], vs => vs = []
  | (k, d) :: ds, vs => ∃ v r, vs = (k, v) :: r ∧ Rep K w d v ∧ RepK K w ds r
def RepT (K : PySem.W.Frag) (w : Wd) : List (List Key × D) → List (List Key × V) → Prop
  | [], vs => vs = []
  | (k, d) :: ds, vs => ∃ v r, vs = (k, v) :: r ∧ Rep K w d v ∧ RepT K w ds r
end

/-- more is frozen -/
structure Ext (w w' : Wd) : Prop where
  same : Same w.F w'.F
  bp : ∀ p, w.bp = some p → w'.bp = some p
theorem Ext.refl (w : Wd) : Ext w w := ⟨Same.refl _, fun _ h => h⟩
theorem Ext.trans {a b c : Wd} (h : Ext a b) (g : Ext b c) : Ext a c := ⟨h.same.trans g.same, fun p e => g.bp p (h.bp p e)⟩

theorem same_seqT {K : PySem.W.Frag} {H H' : Hp} {a : Addr} {xs : List V} (e : Same H H') (h : SqT K H a xs) : SqT K H' a xs := by
  rcases h with (h | ⟨o, h⟩) | h
  · exact .inl (.inl (e _ _ h))
  · exact .inl (.inr ⟨o, e _ _ h⟩)
  · exact .inr h

mutual
theorem Rep.mono {K : PySem.W.Frag} {w w' : Wd} (e : Ext w w') : ∀ {d : D} {v : V}, Rep K w d v → Rep K w' d v
  | .non, _, h => h
  | .bl _, _, h => h
  | .int _, _, h => h
  | .str _, _, h => h
  | .tup ds, v, h => by
    obtain ⟨a, vs, e1, e2, e3⟩ := h
    exact ⟨a, vs, e1, same_seqT e.same e2, RepAll.mono e e3⟩
  | .lst ds, v, h => by
    obtain ⟨a, vs, e1, e2, e3⟩ := h
    exact ⟨a, vs, e1, e.same _ _ e2, RepAll.mono e e3⟩
  | .fn _, _, h => h
  | .box, v, h => by
    obtain ⟨a, e1, e2⟩ := h
    exact ⟨a, e1, e.bp _ e2⟩
  | .scr ns, v, h => by
    obtain ⟨a, e1, e2⟩ := h
    exact ⟨a, e1, e.same.seq e2⟩
  | .dk kvs, v, h => by
    obtain ⟨a, us, e1, e2, e3⟩ := h
    exact ⟨a, us, e1, e.same _ _ e2, RepK.mono e e3⟩
  | .dt kvs, v, h => by
    obtain ⟨a, us, e1, e2, e3⟩ := h
    exact ⟨a, us, e1, e.same _ _ e2, RepT.mono e e3⟩
theorem RepAll.mono {K : PySem.W.Frag} {w w' : Wd} (e : Ext w w') : ∀ {ds : List D} {vs : List V}, RepAll K w ds vs → RepAll K w' ds vs
  | [], _, h => h
  | d :: ds, vs, h => by
    obtain ⟨v, r, e1, e2, e3⟩ := h
    exact ⟨v, r, e1, Rep.mono e e2, RepAll.mono e e3⟩
theorem RepK.mono {K : PySem.W.Frag} {w w' : Wd} (e : Ext w w') : ∀ {ds : List (Key × D)} {vs : List (Key × V)}, RepK K w ds vs → RepK K w' ds vs
  | [], _, h => h
  | (k, d) :: ds, vs, h => by
    obtain ⟨v, r, e1, e2, e3⟩ := h
    exact ⟨v, r, e1, Rep.mono e e2, RepK.mono e e3⟩
theorem RepT.mono {K : PySem.W.Frag} {w w' : Wd} (e : Ext w w') : ∀ {ds : List (List Key × D)} {vs : List (List Key × V)}, RepT K w ds vs → RepT K w' ds vs
  | [], _, h => h
  | (k, d) :: ds, vs, h => by
    obtain ⟨v, r, e1, e2, e3⟩ := h
    exact ⟨v, r, e1, Rep.mono e e2, RepT.mono e e3⟩
end

section
variable {K : PySem.W.Frag} {w : Wd}
theorem RepAll.length : ∀ {ds : List D} {vs : List V}, RepAll K w ds vs → vs.length = ds.length
  | [], _, h => by rw [show _ = [] from h]; rfl
  | d :: ds, vs, h => by
    obtain ⟨v, r, e1, _, e3⟩ := h
    rw [e1, List.length_cons, List.length_cons, RepAll.length e3]
theorem RepAll.get : ∀ {ds : List D} {vs : List V} {i : Nat} {d : D}, RepAll K w ds vs → ds[i]? = some d → ∃ v, vs[i]? = some v ∧ Rep K w d v
  | [], _, _, _, _, e => by simp at e
  | d :: ds, vs, 0, x, h, e => by
    obtain ⟨v, r, e1, e2, _⟩ := h
    simp at e
    subst e
    exact ⟨v, by rw [e1]; rfl, e2⟩
  | d :: ds, vs, i + 1, x, h, e => by
    obtain ⟨v, r, e1, _, e3⟩ := h
    obtain ⟨u, q1, q2⟩ := RepAll.get (i := i) e3 (by simpa using e)
    exact ⟨u, by rw [e1]; simpa using q1, q2⟩
theorem RepAll.append : ∀ {ds es : List D} {vs us : List V}, RepAll K w ds vs → RepAll K w es us → RepAll K w (ds ++ es) (vs ++ us)
  | [], _, _, _, h, g => by rw [show _ = [] from h]; exact g
  | d :: ds, es, vs, us, h, g => by
    obtain ⟨v, r, e1, e2, e3⟩ := h
    rw [e1]
    exact ⟨v, r ++ us, rfl, e2, RepAll.append e3 g⟩
theorem RepAll.take : ∀ {ds : List D} {vs : List V} (n : Nat), RepAll K w ds vs → RepAll K w (ds.take n) (vs.take n)
  | ds, vs, 0, _ => by simp; rfl
  | [], vs, n + 1, h => by rw [show vs = [] from h]; simp; rfl
  | d :: ds, vs, n + 1, h => by
    obtain ⟨v, r, e1, e2, e3⟩ := h
    rw [e1]
    exact ⟨v, r.take n, rfl, e2, RepAll.take n e3⟩
theorem RepAll.drop : ∀ {ds : List D} {vs : List V} (n : Nat), RepAll K w ds vs → RepAll K w (ds.drop n) (vs.drop n)
  | ds, vs, 0, h => by simpa using h
  | [], vs, n + 1, h => by rw [show vs = [] from h]; simp; rfl
  | d :: ds, vs, n + 1, h => by
    obtain ⟨v, r, e1, e2, e3⟩ := h
    rw [e1]
    exact RepAll.drop n e3
theorem RepAll.one {d : D} {v : V} (h : Rep K w d v) : RepAll K w [d] [v] := ⟨v, [], rfl, h, rfl⟩
theorem RepAll.nil : RepAll K w [] [] := rfl
theorem RepAll.cons {d : D} {v : V} {ds : List D} {vs : List V} (h : Rep K w d v) (g : RepAll K w ds vs) : RepAll K w (d :: ds) (v :: vs) := ⟨v, vs, rfl, h, g⟩
theorem RepAll.cons_inv {d : D} {ds : List D} {vs : List V} (h : RepAll K w (d :: ds) vs) : ∃ v r, vs = v :: r ∧ Rep K w d v ∧ RepAll K w ds r := h
theorem RepAll.reverse : ∀ {ds : List D} {vs : List V}, RepAll K w ds vs → RepAll K w ds.reverse vs.reverse
  | [], vs, h => by rw [show vs = [] from h]; exact RepAll.nil
  | d :: ds, vs, h => by
    obtain ⟨v, r, e1, e2, e3⟩ := h
    rw [e1, List.reverse_cons, List.reverse_cons]
    exact RepAll.append (RepAll.reverse e3) (RepAll.one e2)
theorem RepAll.dropLast {ds : List D} {vs : List V} (h : RepAll K w ds vs) : RepAll K w ds.dropLast vs.dropLast := by
  rw [List.dropLast_eq_take, List.dropLast_eq_take, h.length]
  exact RepAll.take _ h
theorem RepAll.set : ∀ {ds : List D} {vs : List V} {d : D} {v : V} (i : Nat), RepAll K w ds vs → Rep K w d v → RepAll K w (ds.set i d) (vs.set i v)
  | [], vs, _, _, _, h, _ => by rw [show vs = [] from h]; exact RepAll.nil
  | d :: ds, vs, x, u, 0, h, g => by
    obtain ⟨v, r, e1, e2, e3⟩ := h
    rw [e1]
    exact ⟨u, r, rfl, g, e3⟩
  | d :: ds, vs, x, u, i + 1, h, g => by
    obtain ⟨v, r, e1, e2, e3⟩ := h
    rw [e1]
    exact ⟨v, r.set i u, rfl, e2, RepAll.set i e3 g⟩
theorem RepAll.eraseIdx : ∀ {ds : List D} {vs : List V} (i : Nat), RepAll K w ds vs → RepAll K w (ds.eraseIdx i) (vs.eraseIdx i)
  | [], vs, _, h => by rw [show vs = [] from h]; exact RepAll.nil
  | d :: ds, vs, 0, h => by
    obtain ⟨v, r, e1, e2, e3⟩ := h
    rw [e1]
    exact e3
  | d :: ds, vs, i + 1, h => by
    obtain ⟨v, r, e1, e2, e3⟩ := h
    rw [e1]
    exact ⟨v, r.eraseIdx i, rfl, e2, RepAll.eraseIdx i e3⟩
theorem RepAll.ints : ∀ {ns : List Int} {vs : List V}, RepAll K w (ns.map D.int) vs → vs = ns.map V.int
  | [], vs, h => h
  | n :: ns, vs, h => by
    obtain ⟨v, r, e1, e2, e3⟩ := h
    rw [e1, show v = .int n from e2, RepAll.ints e3]
    rfl
theorem RepAll.of_ints : ∀ (ns : List Int), RepAll K w (ns.map D.int) (ns.map V.int)
  | [] => rfl
  | n :: ns => ⟨.int n, ns.map V.int, rfl, rfl, RepAll.of_ints ns⟩
theorem RepAll.strs : ∀ {xs : List Str} {vs : List V}, RepAll K w (xs.map D.str) vs → vs = xs.map V.str
  | [], vs, h => h
  | n :: ns, vs, h => by
    obtain ⟨v, r, e1, e2, e3⟩ := h
    rw [e1, show v = .str n from e2, RepAll.strs e3]
    rfl
theorem RepAll.of_strs : ∀ (ns : List Str), RepAll K w (ns.map D.str) (ns.map V.str)
  | [] => rfl
  | n :: ns => ⟨.str n, ns.map V.str, rfl, rfl, RepAll.of_strs ns⟩
theorem RepAll.bls : ∀ {bs : List Bool} {vs : List V}, RepAll K w (bs.map D.bl) vs → vs = bs.map V.bl
  | [], vs, h => h
  | n :: ns, vs, h => by
    obtain ⟨v, r, e1, e2, e3⟩ := h
    rw [e1, show v = .bl n from e2, RepAll.bls e3]
    rfl
end

/-- what a slot holds -/
inductive SV where
  | no | d (x : D) | o (xs : List D) | bx | ok (kvs : List (Key × D)) | ot (kvs : List (List Key × D))
  deriving Inhabited
def SV.own : SV → Bool
  | .o _ => true
  | .ok _ => true
  | .ot _ => true
  | _ => false

structure S where
  env : List SV
  box : Int × Int × Int

/-- an exception: its class, and its own attribute where it has one -/
inductive Exn where
  | pl (c : Value) | at (c : Value) (n : Str) (x : D)

inductive Out (α : Type) where
  | ok (a : α) (s : S) | exc (e : Exn) (s : S) | no
abbrev M (α : Type) := S → Out α
def Out.bind {α β : Type} (x : Out α) (f : α → S → Out β) : Out β := match x with
  | .ok a s => f a s
  | .exc e s => .exc e s
  | .no => .no
def mpure {α : Type} (a : α) : M α := fun s => .ok a s
def mbind {α β : Type} (m : M α) (f : α → M β) : M β := fun s => (m s).bind f
def ofO {α : Type} (x : Option α) : M α := fun s => match x with
  | some a => .ok a s
  | none => .no

/-- a def's entry: the heap, what was frozen, the box -/
structure Fm where
  H0 : Hp
  F0 : Hp
  b0 : Option Addr
  fx : Bool

def SlotOk (K : PySem.W.Frag) (f : Fm) (w : Wd) (H : Hp) (x : SV) (v : Option V) : Prop := match x with
  | .no => True
  | .d x => ∃ u, v = some u ∧ Rep K w x u
  | .o xs => ∃ p vs, v = some (.ref p) ∧ H p = some (.lst vs) ∧ RepAll K w xs vs ∧ w.F p = none ∧ w.bp ≠ some p ∧ f.H0 p = none
  | .bx => ∃ p, v = some (.ref p) ∧ w.bp = some p
  | .ok kvs => ∃ p us, v = some (.ref p) ∧ H p = some (.dK us) ∧ RepK K w kvs us ∧ w.F p = none ∧ w.bp ≠ some p ∧ f.H0 p = none
  | .ot kvs => ∃ p us, v = some (.ref p) ∧ H p = some (.dT us) ∧ RepT K w kvs us ∧ w.F p = none ∧ w.bp ≠ some p ∧ f.H0 p = none

def boxV (b : Int × Int × Int) : HO := .lst [.int b.1, .int b.2.1, .int b.2.2]

structure StOk (K : PySem.W.Frag) (f : Fm) (w : Wd) (s : S) (σ : L2.St) (H : Hp) : Prop where
  sub : Same w.F H
  fr : ∀ a o, f.H0 a = some o → f.b0 ≠ some a → H a = some o
  ff : ∀ a, f.H0 a ≠ none → f.F0 a = none → w.F a = none
  f0 : Same f.F0 w.F
  bb : ∀ p, f.b0 = some p → w.bp = some p
  bf : f.fx = true → w.bp = f.b0
  len : s.env.length = σ.length
  slot : ∀ (i : Nat) (x : SV), s.env[i]? = some x → SlotOk K f w H x (σ[i]?.join)
  bx : ∀ (p : Addr), w.bp = some p → H p = some (boxV s.box) ∧ w.F p = none ∧ (f.b0 = some p ∨ f.H0 p = none)
  dist : ∀ (i j : Nat) (x y : SV) (p : Addr), i ≠ j → s.env[i]? = some x → s.env[j]? = some y → x.own = true → y.own = true → σ[i]?.join = some (.ref p) → σ[j]?.join ≠ some (.ref p)
end Pv
end PvA_

section PvB_
set_option Elab.async false
set_option linter.all false
set_option maxRecDepth 100000
set_option maxHeartbeats 4000000
namespace Pv
open PySem PySem.Spec PyProof.Rows L2

def RepX (K : PySem.W.Frag) (w : Wd) (H : Hp) : Exn → Value → Option Addr → Prop
  | .pl c, c', dd => c' = c ∧ dd = none
  | .at c n x, c', dd => c' = c ∧ ∃ a v, dd = some a ∧ H a = some (.xd [(n, v)]) ∧ Rep K w x v

/-- what is wanted behind m: of its value by R, of its exception by W -/
def Po {α β : Type} (K : PySem.W.Frag) (f : Fm) (W : WX) (R : Fm → Wd → S → L2.St → Hp → α → β → Prop) (w : Wd) (σ : L2.St) (Q : β → Hp → Prop) : Out α → Prop
  | .ok a s' => ∀ w' H' b, Ext w w' → StOk K f w' s' σ H' → R f w' s' σ H' a b → Q b H'
  | .exc e s' => ∀ w' H' c dd, Ext w w' → StOk K f w' s' σ H' → RepX K w' H' e c dd → W c dd σ H'
  | .no => False
def tG {α β : Type} (K : PySem.W.Frag) (W : WX) (R : Fm → Wd → S → L2.St → Hp → α → β → Prop) (m : M α) : L2.St → Hp → (β → Hp → Prop) → Prop :=
  fun σ H Q => ∃ f w s, StOk K f w s σ H ∧ Po K f W R w σ Q (m s)

abbrev RD (K : PySem.W.Frag) : Fm → Wd → S → L2.St → Hp → D → V → Prop := fun _ w _ _ _ d v => Rep K w d v
abbrev RB : Fm → Wd → S → L2.St → Hp → Bool → Bool → Prop := fun _ _ _ _ _ a b => b = a
abbrev RA (K : PySem.W.Frag) : Fm → Wd → S → L2.St → Hp → List D → List V → Prop := fun _ w _ _ _ d v => RepAll K w d v
/-- a new list, nobody's yet -/
def RF (K : PySem.W.Frag) : Fm → Wd → S → L2.St → Hp → List D → V → Prop := fun f w s σ H xs v => ∃ p vs, v = .ref p ∧ H p = some (.lst vs) ∧ RepAll K w xs vs ∧ w.F p = none ∧ w.bp ≠ some p ∧ f.H0 p = none ∧
  ∀ (i : Nat) (x : SV), s.env[i]? = some x → x.own = true → σ[i]?.join ≠ some (.ref p)
abbrev tM (K : PySem.W.Frag) (W : WX) (m : M D) : TE := tG K W (RD K) m
abbrev tT (K : PySem.W.Frag) (W : WX) (m : M Bool) : TT := tG K W RB m
abbrev tA (K : PySem.W.Frag) (W : WX) (m : M (List D)) : TA := tG K W (RA K) m
abbrev tF (K : PySem.W.Frag) (W : WX) (m : M (List D)) : TE := tG K W (RF K) m

section
variable {α β γ δ : Type} {K : PySem.W.Frag} {f : Fm} {W : WX} {R : Fm → Wd → S → L2.St → Hp → α → β → Prop} {R' : Fm → Wd → S → L2.St → Hp → γ → δ → Prop} {w w' : Wd} {σ : L2.St} {H : Hp} {Q Q' : β → Hp → Prop}
theorem Po.ext {o : Out α} (h : Po K f W R w σ Q o) (e : Ext w w') : Po K f W R w' σ Q o := by
  cases o with
  | ok a s => exact fun w2 H2 b e2 => h w2 H2 b (e.trans e2)
  | exc x s => exact fun w2 H2 c dd e2 => h w2 H2 c dd (e.trans e2)
  | no => exact h
theorem Po.imp {o : Out α} (h : Po K f W R w σ Q o) (q : ∀ b H, Q b H → Q' b H) : Po K f W R w σ Q' o := by
  cases o with
  | ok a s => exact fun w2 H2 b e2 s2 r => q _ _ (h w2 H2 b e2 s2 r)
  | exc x s => exact h
  | no => exact h
/-- one behind the other -/
theorem Po.seq {o : Out α} {m2 : α → S → Out γ} {P : δ → Hp → Prop} (h : Po K f W R' w σ P (o.bind m2)) :
    Po K f W R w σ (fun b H1 => ∃ a w1 s1, Ext w w1 ∧ StOk K f w1 s1 σ H1 ∧ R f w1 s1 σ H1 a b ∧ Po K f W R' w1 σ P (m2 a s1)) o := by
  cases o with
  | ok a s => exact fun w2 H2 b e2 s2 r => ⟨a, w2, s, e2, s2, r, h.ext e2⟩
  | exc x s => exact h
  | no => exact h
/-- .. and what follows is wanted at once -/
theorem Po.thn {o : Out α} {m2 : α → S → Out γ} {P : δ → Hp → Prop} (h : Po K f W R' w σ P (o.bind m2)) (q : ∀ a w1 s1 b H1, Ext w w1 → StOk K f w1 s1 σ H1 → R f w1 s1 σ H1 a b → Po K f W R' w1 σ P (m2 a s1) → Q b H1) :
    Po K f W R w σ Q o := (Po.seq h).imp fun b H1 ⟨a, w1, s1, e1, st, r, p⟩ => q a w1 s1 b H1 e1 st r p
theorem ofO_some {a : α} {s : S} {x : Option α} (h : x = some a) : ofO x s = .ok a s := by subst h; rfl
theorem Po.ofO {x : Option α} {s : S} (h : Po K f W R w σ Q (ofO x s)) : ∃ a, x = some a ∧ ∀ w' H' b, Ext w w' → StOk K f w' s σ H' → R f w' s σ H' a b → Q b H' := by
  cases x with
  | none => exact h.elim
  | some a => exact ⟨a, rfl, h⟩
end

section
variable {X : Cx} {e : Expr} {t t' : TE} {u u' : TT} {es : List Expr} {ta ta' : TA}
theorem pe_imp (h : PE X e t) (q : ∀ σ H Q, t' σ H Q → t σ H Q) : PE X e t' := ⟨fun pins s σ H Q I hw => h.run pins s σ H Q I (q σ H Q hw)⟩
theorem pt_imp (h : PT X e u) (q : ∀ σ H Q, u' σ H Q → u σ H Q) : PT X e u' := ⟨fun pins s σ H Q I hw => h.run pins s σ H Q I (q σ H Q hw)⟩
theorem pw_imp (h : PW X e u) (q : ∀ σ H Q, u' σ H Q → u σ H Q) : PW X e u' := ⟨fun wh pins s σ H Q I hw => h.run wh pins s σ H Q I (q σ H Q hw)⟩
theorem pa_imp (h : PA X es ta) (q : ∀ σ H Q, ta' σ H Q → ta σ H Q) : PA X es ta' := ⟨fun pos pins s σ H Q I hw => h.run pos pins s σ H Q I (q σ H Q hw)⟩
end

/-! ### states -/
section
variable {K : PySem.W.Frag} {f : Fm} {w w' : Wd} {s s' : S} {σ : L2.St} {H H' : Hp}
theorem SlotOk.ext {x : SV} {v : Option V} (h : SlotOk K f w H x v) (e : Ext w w') (hH : ∀ p, x.own = true → v = some (.ref p) → H' p = H p ∧ w'.F p = none ∧ w'.bp ≠ some p) : SlotOk K f w' H' x v := by
  cases x with
  | no => exact trivial
  | d x =>
    obtain ⟨u, e1, e2⟩ := h
    exact ⟨u, e1, e2.mono e⟩
  | o xs =>
    obtain ⟨p, vs, e1, e2, e3, e4, e5, e6⟩ := h
    obtain ⟨q1, q2, q3⟩ := hH p rfl e1
    exact ⟨p, vs, e1, q1.trans e2, RepAll.mono e e3, q2, q3, e6⟩
  | bx =>
    obtain ⟨p, e1, e2⟩ := h
    exact ⟨p, e1, e.bp _ e2⟩
  | ok kvs =>
    obtain ⟨p, vs, e1, e2, e3, e4, e5, e6⟩ := h
    obtain ⟨q1, q2, q3⟩ := hH p rfl e1
    exact ⟨p, vs, e1, q1.trans e2, RepK.mono e e3, q2, q3, e6⟩
  | ot kvs =>
    obtain ⟨p, vs, e1, e2, e3, e4, e5, e6⟩ := h
    obtain ⟨q1, q2, q3⟩ := hH p rfl e1
    exact ⟨p, vs, e1, q1.trans e2, RepT.mono e e3, q2, q3, e6⟩
/-- where an own slot's thing stands -/
theorem SlotOk.at {x : SV} {v : Option V} (h : SlotOk K f w H x v) (o : x.own = true) : ∃ p, v = some (.ref p) ∧ H p ≠ none ∧ w.F p = none ∧ w.bp ≠ some p ∧ f.H0 p = none := by
  cases x with
  | no => cases o
  | d x => cases o
  | bx => cases o
  | o xs =>
    obtain ⟨p, vs, e1, e2, e3, e4, e5, e6⟩ := h
    exact ⟨p, e1, (by rw [e2]; exact fun z => nomatch z), e4, e5, e6⟩
  | ok xs =>
    obtain ⟨p, vs, e1, e2, e3, e4, e5, e6⟩ := h
    exact ⟨p, e1, (by rw [e2]; exact fun z => nomatch z), e4, e5, e6⟩
  | ot xs =>
    obtain ⟨p, vs, e1, e2, e3, e4, e5, e6⟩ := h
    exact ⟨p, e1, (by rw [e2]; exact fun z => nomatch z), e4, e5, e6⟩

/-- a new thing that is frozen at once -/
def Wd.put (w : Wd) (p : Addr) (o : HO) : Wd := ⟨upd w.F p o, w.bp⟩
theorem StOk.freshF (h : StOk K f w s σ H) {p : Addr} (hp : H p = none) : w.F p = none := by
  cases q : w.F p with
  | none => rfl
  | some o => rw [h.sub _ _ q] at hp; cases hp
theorem StOk.fresh0 (h : StOk K f w s σ H) {p : Addr} (hp : H p = none) : f.H0 p = none := by
  cases q : f.H0 p with
  | none => rfl
  | some o =>
    by_cases e : f.b0 = some p
    · obtain ⟨z, _⟩ := h.bx p (h.bb p e)
      rw [z] at hp
      cases hp
    · rw [h.fr _ _ q e] at hp
      cases hp
theorem ext_put {p : Addr} {o : HO} (hp : w.F p = none) : Ext w (w.put p o) := ⟨fun b u e => by
    show upd w.F p o b = some u
    rw [upd_ne (ne_of_none e hp)]
    exact e, fun _ e => e⟩
theorem StOk.put (h : StOk K f w s σ H) {p : Addr} {o : HO} (hp : H p = none) : StOk K f (w.put p o) s σ (upd H p o) where
  sub := fun b u e => by
    have e' : upd w.F p o b = some u := e
    by_cases hb : b = p
    · subst hb
      rw [upd_same] at e' ⊢
      exact e'
    · rw [upd_ne hb] at e' ⊢
      exact h.sub _ _ e'
  fr := fun a u e1 e2 => by
    have e := h.fr a u e1 e2
    rw [upd_ne (ne_of_none e hp)]
    exact e
  ff := fun a e1 e2 => by
    show upd w.F p o a = none
    have ne : a ≠ p := fun z => e1 (by rw [z]; exact h.fresh0 hp)
    rw [upd_ne ne]
    exact h.ff a e1 e2
  f0 := h.f0.trans (ext_put (h.freshF hp)).same
  bb := h.bb
  bf := h.bf
  len := h.len
  slot := fun i x e => (h.slot i x e).ext (ext_put (h.freshF hp)) fun q hq e1 => by
    obtain ⟨q', e2, e3, e4, e5, e6⟩ := (h.slot i x e).at hq
    rw [e1] at e2
    cases e2
    have ne : q ≠ p := fun z => e3 (by rw [z]; exact hp)
    exact ⟨upd_ne ne, by show upd w.F p o q = none; rw [upd_ne ne]; exact e4, e5⟩
  bx := fun q e => by
    obtain ⟨e1, e2, e3⟩ := h.bx q e
    have ne : q ≠ p := ne_of_none e1 hp
    exact ⟨by rw [upd_ne ne]; exact e1, by show upd w.F p o q = none; rw [upd_ne ne]; exact e2, e3⟩
  dist := h.dist
theorem Wd.put_at {p : Addr} {o : HO} : (w.put p o).F p = some o := upd_same
end
end Pv
end PvB_

section PvC_
set_option Elab.async false
set_option linter.all false
set_option maxRecDepth 100000
set_option maxHeartbeats 4000000
namespace Pv
open PySem PySem.Spec PyProof.Rows L2

/-! ### slots read -/
def getS (i : Nat) (s : S) : SV := s.env.getD i .no
def setS (i : Nat) (x : SV) (s : S) : S := { s with env := s.env.set i x }
/-- a name as a value: what was its own is frozen -/
def rd (i : Nat) : M D := fun s => match getS i s with
  | .no => .no
  | .d x => .ok x s
  | .o xs => .ok (.lst xs) (setS i (.d (.lst xs)) s)
  | .bx => .ok .box s
  | .ok kvs => .ok (.dk kvs) (setS i (.d (.dk kvs)) s)
  | .ot kvs => .ok (.dt kvs) (setS i (.d (.dt kvs)) s)
theorem getS_some {i : Nat} {s : S} {x : SV} (h : getS i s = x) (n : x ≠ .no) : s.env[i]? = some x := by
  unfold getS at h
  rw [List.getD_eq_getElem?_getD] at h
  cases e : s.env[i]? with
  | none => rw [e] at h; exact absurd h.symm n
  | some y => rw [e] at h; exact congrArg some h

section
variable {K : PySem.W.Frag} {f : Fm} {w w' : Wd} {s s' : S} {σ : L2.St} {H H' : Hp}
theorem getElem?_set_cases {α : Type} {l : List α} {i j : Nat} {x y : α} (h : (l.set i x)[j]? = some y) : (i = j ∧ y = x) ∨ (i ≠ j ∧ l[j]? = some y) := by
  by_cases e : i = j
  · subst e
    rw [List.getElem?_set] at h
    simp at h
    exact .inl ⟨rfl, h.2.symm⟩
  · rw [List.getElem?_set_ne e] at h
    exact .inr ⟨e, h⟩
/-- what was a slot's own is frozen -/
theorem StOk.freeze (h : StOk K f w s σ H) {i : Nat} {x : SV} {y : D} {p : Addr} {o : HO} (hi : s.env[i]? = some x) (hx : x.own = true) (hv : σ[i]?.join = some (.ref p)) (hp : H p = some o)
    (hy : Rep K (w.put p o) y (.ref p)) : StOk K f (w.put p o) (setS i (.d y) s) σ H := by
  obtain ⟨q, e2, e3, e4, e5, e6⟩ := (h.slot i x hi).at hx
  rw [hv] at e2
  cases e2
  refine ⟨fun b u e => ?_, h.fr, fun a e1 e2 => ?_, h.f0.trans (ext_put e4).same, h.bb, h.bf, ?_, fun j z e => ?_, fun q e => ?_, fun j k z u q n e1 e2 o1 o2 e7 => ?_⟩
  · have e' : upd w.F p o b = some u := e
    by_cases hb : b = p
    · subst hb
      rw [upd_same] at e'
      rw [← e']
      exact hp
    · rw [upd_ne hb] at e'
      exact h.sub _ _ e'
  · show upd w.F p o a = none
    have ne : a ≠ p := fun z => e1 (by rw [z]; exact e6)
    rw [upd_ne ne]
    exact h.ff a e1 e2
  · simpa [setS] using h.len
  · rcases getElem?_set_cases e with ⟨rfl, rfl⟩ | ⟨n, e⟩
    · exact ⟨.ref p, hv, hy⟩
    · refine (h.slot j z e).ext (ext_put e4) fun q hq e1 => ?_
      obtain ⟨q', e7, e8, e9, e10, e11⟩ := (h.slot j z e).at hq
      rw [e1] at e7
      cases e7
      have ne : q ≠ p := fun zz => h.dist i j x z p n hi e hx hq hv (by rw [← zz]; exact e1)
      exact ⟨rfl, by show upd w.F p o q = none; rw [upd_ne ne]; exact e9, e10⟩
  · obtain ⟨e1, e2, e3⟩ := h.bx q e
    have ne : q ≠ p := fun z => e5 (by rw [← z]; exact e)
    exact ⟨e1, by show upd w.F p o q = none; rw [upd_ne ne]; exact e2, e3⟩
  · rcases getElem?_set_cases e1 with ⟨rfl, rfl⟩ | ⟨n1, e1⟩
    · cases o1
    · rcases getElem?_set_cases e2 with ⟨rfl, rfl⟩ | ⟨n2, e2⟩
      · cases o2
      · exact h.dist j k z u q n e1 e2 o1 o2 e7
theorem join_some {i : Nat} {v : V} (h : σ[i]?.join = some v) : σ[i]? = some (some v) := by
  cases e : σ[i]? with
  | none => rw [e] at h; cases h
  | some y =>
    rw [e] at h
    exact congrArg some h
end

section
variable {X : Cx} {f : Fm} {W : WX}
theorem q_rd (i : Nat) {x : Str} {pos : Pos} (hN : X.N[i]? = some x := by rfl) (hv : Vis X.env.scope x := by first | exact Or.inl rfl | exact Or.inr (Or.inl rfl) | exact Or.inr (Or.inr rfl)) (hd : (x == ("__debug__" : Str)) = false := by decide)
    (hcd : (x == ("__classdict__" : Str)) = false := by decide) : PE X (.Name x pos) (tM X.K W (rd i)) := by
  refine pe_imp (pe_var hN hv hd hcd) fun σ H Q h => ?_
  obtain ⟨f, w, s, st, p⟩ := h
  unfold rd at p
  cases e : getS i s with
  | no => rw [e] at p; exact p.elim
  | d y =>
    rw [e] at p
    obtain ⟨u, e1, e2⟩ := st.slot i _ (getS_some e (fun z => nomatch z))
    exact ⟨u, join_some e1, p w H u (Ext.refl w) st e2⟩
  | o xs =>
    rw [e] at p
    have gi := getS_some e (fun z => nomatch z)
    obtain ⟨q, vs, e1, e2, e3, e4, e5, e6⟩ := st.slot i _ gi
    have hr : Rep X.K (w.put q (.lst vs)) (.lst xs) (.ref q) := ⟨q, vs, rfl, Wd.put_at, RepAll.mono (ext_put e4) e3⟩
    exact ⟨_, join_some e1, p _ H _ (ext_put e4) (st.freeze gi rfl e1 e2 hr) hr⟩
  | bx =>
    rw [e] at p
    obtain ⟨q, e1, e2⟩ := st.slot i _ (getS_some e (fun z => nomatch z))
    exact ⟨_, join_some e1, p w H _ (Ext.refl w) st ⟨q, rfl, e2⟩⟩
  | ok xs =>
    rw [e] at p
    have gi := getS_some e (fun z => nomatch z)
    obtain ⟨q, vs, e1, e2, e3, e4, e5, e6⟩ := st.slot i _ gi
    have hr : Rep X.K (w.put q (.dK vs)) (.dk xs) (.ref q) := ⟨q, vs, rfl, Wd.put_at, RepK.mono (ext_put e4) e3⟩
    exact ⟨_, join_some e1, p _ H _ (ext_put e4) (st.freeze gi rfl e1 e2 hr) hr⟩
  | ot xs =>
    rw [e] at p
    have gi := getS_some e (fun z => nomatch z)
    obtain ⟨q, vs, e1, e2, e3, e4, e5, e6⟩ := st.slot i _ gi
    have hr : Rep X.K (w.put q (.dT vs)) (.dt xs) (.ref q) := ⟨q, vs, rfl, Wd.put_at, RepT.mono (ext_put e4) e3⟩
    exact ⟨_, join_some e1, p _ H _ (ext_put e4) (st.freeze gi rfl e1 e2 hr) hr⟩

/-! ### constants -/
abbrev con (d : D) : M D := fun s => .ok d s
theorem q_con {e : Expr} {v : V} {d : D} (h : PE X e (tC v)) (hd : ∀ w, Rep X.K w d v) : PE X e (tM X.K W (con d)) := by
  refine pe_imp h fun σ H Q ⟨f, w, s, st, p⟩ => ?_
  exact p w H v (Ext.refl w) st (hd w)
theorem q_int {i : Int} {j pos} : PE X (.Constant (.int i) j pos) (tM X.K W (con (.int i))) := q_con pe_int fun _ => rfl
theorem q_bl {b : Bool} {j pos} : PE X (.Constant (.bool b) j pos) (tM X.K W (con (.bl b))) := q_con pe_bl fun _ => rfl
theorem q_non {j pos} : PE X (.Constant .none j pos) (tM X.K W (con .non)) := q_con pe_non fun _ => rfl
theorem q_str {x : Str} {j pos} : PE X (.Constant (.str x) j pos) (tM X.K W (con (.str x))) := q_con pe_str fun _ => rfl
/-- a module's int -/
theorem q_gint {x : Str} {i : Int} {t : Tok} {pos : Pos} (hg : Gl X x) (hm : X.mg x = some (.int i t)) (hd : (x == ("__debug__" : Str)) = false := by decide) : PE X (.Name x pos) (tM X.K W (con (.int i))) := q_con (pe_glob hg hm (v := .int i) ⟨_, rfl⟩ hd) fun _ => rfl
/-- a module's text -/
theorem q_gstr {x z : Str} {t : Tok} {pos : Pos} (hg : Gl X x) (hm : X.mg x = some (.str z t)) (hd : (x == ("__debug__" : Str)) = false := by decide) : PE X (.Name x pos) (tM X.K W (con (.str z))) := q_con (pe_glob hg hm (v := .str z) ⟨_, rfl⟩ hd) fun _ => rfl
/-- a def as a value -/
theorem q_gfn {x : Str} {a : Addr} {pos : Pos} (hg : Gl X x) (hm : X.mg x = some (.ref a)) (hd : (x == ("__debug__" : Str)) = false := by decide) : PE X (.Name x pos) (tM X.K W (con (.fn a))) := q_con (pe_glob hg hm (v := .ref a) rfl hd) fun _ => rfl

/-! ### two-place operations on values -/
def m2 (g : D → D → Option D) (a b : M D) : M D := fun s => (a s).bind fun x s1 => (b s1).bind fun y s2 => ofO (g x y) s2
/-- what a two-place rule must bring -/
def R2Ok (K : PySem.W.Frag) (r : R2) (g : D → D → Option D) : Prop := ∀ (f : Fm) (w : Wd) (s : S) (σ : L2.St) (H : Hp) (x y z : D) (v u : V) (Q : VK), StOk K f w s σ H → Rep K w x v → Rep K w y u → g x y = some z →
  (∀ w' H' t, Ext w w' → StOk K f w' s σ H' → Rep K w' z t → Q t H') → r v u H Q
theorem q_op {op : Operator} {a b : Expr} {pos : Pos} {r : R2} {g : D → D → Option D} {ma mb : M D} (ho : OpR X (binaryOp op) r) (hr : R2Ok X.K r g) (ha : PE X a (tM X.K W ma)) (hb : PE X b (tM X.K W mb)) :
    PE X (.BinOp a op b pos) (tM X.K W (m2 g ma mb)) := by
  refine pe_imp (pe_op ho ha hb) fun σ H Q ⟨f, w, s, st, p⟩ => ?_
  refine ⟨f, w, s, st, Po.thn p fun x w1 s1 v H1 e1 st1 r1 p1 => ⟨f, w1, s1, st1, Po.thn p1 fun y w2 s2 u H2 e2 st2 r2 p2 => ?_⟩⟩
  obtain ⟨z, ez, pz⟩ := p2.ofO
  exact hr f w2 s2 σ H2 x y z v u Q st2 (Rep.mono e2 r1) r2 ez fun w' H' t e' st' rt => pz w' H' t e' st' rt
theorem R2Ok.or {K : PySem.W.Frag} {r r' : R2} {g g' : D → D → Option D} (h : R2Ok K r g) (h' : R2Ok K r' g') : R2Ok K (fun x y H Q => r x y H Q ∨ r' x y H Q) (fun x y => match g x y with | some z => some z | none => g' x y) := by
  intro f w s σ H x y z v u Q st rv ru e q
  cases e1 : g x y with
  | some z' =>
    simp only [e1] at e
    exact .inl (h f w s σ H x y z v u Q st rv ru (e1.trans e) q)
  | none =>
    simp only [e1] at e
    exact .inr (h' f w s σ H x y z v u Q st rv ru e q)
theorem R2Ok.g {K : PySem.W.Frag} {r : R2} {g g' : D → D → Option D} (h : R2Ok K r g) (e : ∀ x y, g' x y = g x y) : R2Ok K r g' := by
  intro f w s σ H x y z v u Q st rv ru ez q
  exact h f w s σ H x y z v u Q st rv ru ((e x y).symm.trans ez) q
section
variable {K : PySem.W.Frag}
def gII (c : Int → Int → Option D) (x y : D) : Option D := match x, y with
  | .int i, .int j => c i j
  | _, _ => none
theorem rI0_ok {g : Int → Int → V} {h : Int → Int → D} (e : ∀ w i j, Rep K w (h i j) (g i j)) : R2Ok K (rI0 g) (gII fun i j => some (h i j)) := by
  intro f w s σ H x y z v u Q st rv ru ez q
  unfold gII at ez
  split at ez
  · rename_i i j
    cases ez
    exact ⟨i, j, rv, ru, q w H _ (Ext.refl w) st (e w i j)⟩
  · cases ez
open Classical in
theorem rI_ok {C : Int → Int → Prop} {g : Int → Int → V} {h : Int → Int → D} {c : Int → Int → Option D} (e : ∀ w i j, Rep K w (h i j) (g i j)) (hc : ∀ i j z, c i j = some z → C i j ∧ z = h i j) : R2Ok K (rI C g) (gII c) := by
  intro f w s σ H x y z v u Q st rv ru ez q
  unfold gII at ez
  split at ez
  · rename_i i j
    obtain ⟨h1, h2⟩ := hc i j z ez
    subst h2
    exact ⟨i, j, rv, ru, h1, q w H _ (Ext.refl w) st (e w i j)⟩
  · cases ez
end

/-! ### + -/
def dAdd (x y : D) : Option D := match x, y with
  | .int i, .int j => some (.int (i + j))
  | .str a, .str b => if a.length + b.length ≤ sizeLine then some (.str (a ++ b)) else none
  | .tup a, .tup b => if a.length + b.length ≤ sizeLine then some (.tup (a ++ b)) else none
  | .lst a, .lst b => if a.length + b.length ≤ sizeLine then some (.lst (a ++ b)) else none
  | _, _ => none
end
end Pv
end PvC_

section PvD_
set_option Elab.async false
set_option linter.all false
set_option maxRecDepth 100000
set_option maxHeartbeats 4000000
namespace Pv
open PySem PySem.Spec PyProof.Rows L2
section
variable {K : PySem.W.Frag} {f : Fm} {w : Wd} {s : S} {σ : L2.St} {H : Hp}
/-- a tuple that is read stands in the heap, too -/
theorem StOk.tup (st : StOk K f w s σ H) {a : Addr} {vs : List V} (h : SqT K w.F a vs) : SqT K H a vs := same_seqT st.sub h
/-- what a new tuple brings -/
theorem StOk.newT (st : StOk K f w s σ H) {Q : VK} {z : List D} {vs : List V} (r : RepAll K w z vs) (q : ∀ w' H' t, Ext w w' → StOk K f w' s σ H' → Rep K w' (.tup z) t → Q t H') :
    ∀ p, H p = none → Q (.ref p) (upd H p (.tup vs)) := fun p hp => by
  have e := ext_put (o := .tup vs) (st.freshF hp)
  exact q _ _ _ e (st.put hp) ⟨p, vs, rfl, .inl (.inl Wd.put_at), RepAll.mono e r⟩
theorem StOk.newL (st : StOk K f w s σ H) {Q : VK} {z : List D} {vs : List V} (r : RepAll K w z vs) (q : ∀ w' H' t, Ext w w' → StOk K f w' s σ H' → Rep K w' (.lst z) t → Q t H') :
    ∀ p, H p = none → Q (.ref p) (upd H p (.lst vs)) := fun p hp => by
  have e := ext_put (o := .lst vs) (st.freshF hp)
  exact q _ _ _ e (st.put hp) ⟨p, vs, rfl, Wd.put_at, RepAll.mono e r⟩
theorem RepAll.len_eq {a b : List D} {va vb : List V} (h : RepAll K w a va) (g : RepAll K w b vb) : va.length + vb.length = a.length + b.length := by rw [h.length, g.length]
theorem RepAll.nil_iff {a : List D} {va : List V} (h : RepAll K w a va) : va = [] ↔ a = [] := by
  have e := h.length
  constructor
  · intro z
    rw [z] at e
    exact List.length_eq_zero_iff.mp e.symm
  · intro z
    rw [z] at e
    exact List.length_eq_zero_iff.mp e
def rAddA (K : PySem.W.Frag) : R2 := fun x y H Q => rI0 (fun i j => .int (i + j)) x y H Q ∨ ((∃ i j, x = .str i ∧ y = .str j ∧ i.length + j.length ≤ sizeLine ∧ Q (.str (i ++ j)) H) ∨ (rCatA K x y H Q ∨ rCat x y H Q))
theorem op_addA {X : Cx} : OpR X (binaryOp .Add) (rAddA X.K) := op_add.or (op_add_str.or (op_catA.or op_cat))
theorem catA_ok {a b : List D} {v u : V} {Q : VK} (st : StOk K f w s σ H) (rv : Rep K w (.tup a) v) (ru : Rep K w (.tup b) u) (hz : a.length + b.length ≤ sizeLine)
    (q : ∀ w' H' t, Ext w w' → StOk K f w' s σ H' → Rep K w' (.tup (a ++ b)) t → Q t H') : rCatA K v u H Q := by
  obtain ⟨p, va, e1, e2, e3⟩ := rv
  obtain ⟨p', vb, e1', e2', e3'⟩ := ru
  refine ⟨p, p', va, vb, e1, e1', st.tup e2, st.tup e2', by rw [e3.len_eq e3']; exact hz, fun h => ?_, fun _ h => ?_, fun _ _ => st.newT (RepAll.append e3 e3') q⟩
  · have ha := e3.nil_iff.mp h
    subst ha
    exact q w H _ (Ext.refl w) st ⟨p', vb, rfl, e2', e3'⟩
  · have hb := e3'.nil_iff.mp h
    subst hb
    refine q w H _ (Ext.refl w) st ⟨p, va, rfl, e2, ?_⟩
    rw [List.append_nil]
    exact e3
theorem cat_ok {a b : List D} {v u : V} {Q : VK} (st : StOk K f w s σ H) (rv : Rep K w (.lst a) v) (ru : Rep K w (.lst b) u) (hz : a.length + b.length ≤ sizeLine)
    (q : ∀ p, H p = none → ∀ vs, RepAll K w (a ++ b) vs → Q (.ref p) (upd H p (.lst vs))) : rCat v u H Q := by
  obtain ⟨p, va, e1, e2, e3⟩ := rv
  obtain ⟨p', vb, e1', e2', e3'⟩ := ru
  exact ⟨p, p', va, vb, e1, e1', st.sub _ _ e2, st.sub _ _ e2', by rw [e3.len_eq e3']; exact hz, fun l hl => q l hl _ (RepAll.append e3 e3')⟩
theorem add_ok : R2Ok K (rAddA K) dAdd := by
  intro f w s σ H x y z v u Q st rv ru ez q
  unfold dAdd at ez
  split at ez
  · rename_i i j
    cases ez
    exact .inl ⟨i, j, rv, ru, q w H _ (Ext.refl w) st rfl⟩
  · rename_i a b
    split at ez
    · cases ez
      rename_i hz
      exact .inr (.inl ⟨a, b, rv, ru, hz, q w H _ (Ext.refl w) st rfl⟩)
    · cases ez
  · split at ez
    · cases ez
      rename_i hz
      exact .inr (.inr (.inl (catA_ok st rv ru hz q)))
    · cases ez
  · split at ez
    · cases ez
      rename_i hz
      exact .inr (.inr (.inr (cat_ok st rv ru hz fun p hp vs r => st.newL r q p hp)))
    · cases ez
  · cases ez

/-! ### - * // % ** -/
def dSub : D → D → Option D := gII fun i j => some (.int (i - j))
theorem sub_ok : R2Ok K (rI0 fun i j => .int (i - j)) dSub := rI0_ok fun _ _ _ => rfl
/-- * of ints (any size), of a list or a tuple and an int -/
def dMul (x y : D) : Option D := match x, y with
  | .int i, .int j => if i.natAbs.log2 + j.natAbs.log2 < 1000000 ∨ (i.natAbs < 2 ^ 64 ∨ j.natAbs < 2 ^ 64) then some (.int (i * j)) else none
  | .lst a, .int k => if -(2 ^ 63) ≤ k ∧ k < 2 ^ 63 ∧ a.length * k.toNat ≤ sizeLine then some (.lst (List.replicate k.toNat a).flatten) else none
  | .tup a, .int k => if a ≠ [] ∧ 2 ≤ k ∧ k ≤ 1000 ∧ a.length ≤ 1000 then some (.tup (List.replicate k.toNat a).flatten) else none
  | _, _ => none
def rMulA (K : PySem.W.Frag) : R2 := fun x y H Q => rI CMulW (fun i j => .int (i * j)) x y H Q ∨ (rI CMul (fun i j => .int (i * j)) x y H Q ∨ (rRep x y H Q ∨ rRepT K x y H Q))
theorem op_mulA {X : Cx} : OpR X (binaryOp .Mult) (rMulA X.K) := op_mulW.or (op_mul.or (op_rep.or op_repT))
theorem RepAll.rep {a : List D} {va : List V} (h : RepAll K w a va) : ∀ k : Nat, RepAll K w (List.replicate k a).flatten (List.replicate k va).flatten
  | 0 => rfl
  | k + 1 => by
    rw [List.replicate_succ, List.replicate_succ, List.flatten_cons, List.flatten_cons]
    exact RepAll.append h (RepAll.rep h k)
theorem mul_ok : R2Ok K (rMulA K) dMul := by
  intro f w s σ H x y z v u Q st rv ru ez q
  unfold dMul at ez
  split at ez
  · rename_i i j
    split at ez
    · rename_i hz
      cases ez
      rcases hz with hz | hz
      · exact .inl ⟨i, j, rv, ru, hz, q w H _ (Ext.refl w) st rfl⟩
      · refine .inr (.inl ⟨i, j, rv, ru, ?_, q w H _ (Ext.refl w) st rfl⟩)
        unfold CMul
        rcases hz with hz | hz
        · exact .inl (by omega)
        · exact .inr (by omega)
    · cases ez
  · rename_i a k
    split at ez
    · rename_i hz
      cases ez
      obtain ⟨p, va, e1, e2, e3⟩ := rv
      exact .inr (.inr (.inl ⟨p, k, va, e1, ru, st.sub _ _ e2, hz.1, hz.2.1, by rw [e3.length]; exact hz.2.2, st.newL (e3.rep _) q⟩))
    · cases ez
  · rename_i a k
    split at ez
    · rename_i hz
      cases ez
      obtain ⟨p, va, e1, e2, e3⟩ := rv
      exact .inr (.inr (.inr ⟨p, k, va, e1, ru, st.tup e2, fun z => hz.1 (e3.nil_iff.mp z), hz.2.1, hz.2.2.1, by rw [e3.length]; exact hz.2.2.2, st.newT (e3.rep _) q⟩))
    · cases ez
  · cases ez
/-- // by a divisor above 0, of less than 9000 bits -/
def dDiv : D → D → Option D := gII fun i j => if 0 < j ∧ j.natAbs.log2 < 9000 then some (.int (i / j)) else none
theorem div_ok : R2Ok K (rI CDivW fun i j => .int (i / j)) dDiv := rI_ok (h := fun i j => .int (i / j)) (fun _ _ _ => rfl) fun i j z e => by
  split at e
  · rename_i h
    cases e
    exact ⟨h, rfl⟩
  · cases e
/-- % by a divisor above 0 -/
def dMod : D → D → Option D := gII fun i j => if 0 < j then some (.int (i % j)) else none
theorem mod_ok : R2Ok K (rI (fun _ j => 0 < j) fun i j => .int (i % j)) dMod := rI_ok (h := fun i j => .int (i % j)) (fun _ _ _ => rfl) fun i j z e => by
  split at e
  · rename_i h
    cases e
    exact ⟨h, rfl⟩
  · cases e
def dPow : D → D → Option D := gII fun i j => if 0 ≤ j ∧ j ≤ 1000000 ∧ i.natAbs < 2 ^ 64 then some (.int (i ^ j.toNat)) else none
theorem pow_ok : R2Ok K (rI CPow fun i j => .int (i ^ j.toNat)) dPow := rI_ok (h := fun i j => .int (i ^ j.toNat)) (fun _ _ _ => rfl) fun i j z e => by
  split at e
  · rename_i h
    cases e
    exact ⟨h, rfl⟩
  · cases e
end
section
variable {X : Cx} {f : Fm} {W : WX} {a b : Expr} {pos : Pos} {ma mb : M D}
theorem q_add (ha : PE X a (tM X.K W ma)) (hb : PE X b (tM X.K W mb)) : PE X (.BinOp a .Add b pos) (tM X.K W (m2 dAdd ma mb)) := q_op op_addA add_ok ha hb
theorem q_sub (ha : PE X a (tM X.K W ma)) (hb : PE X b (tM X.K W mb)) : PE X (.BinOp a .Sub b pos) (tM X.K W (m2 dSub ma mb)) := q_op op_sub sub_ok ha hb
theorem q_mul (ha : PE X a (tM X.K W ma)) (hb : PE X b (tM X.K W mb)) : PE X (.BinOp a .Mult b pos) (tM X.K W (m2 dMul ma mb)) := q_op op_mulA mul_ok ha hb
theorem q_div (ha : PE X a (tM X.K W ma)) (hb : PE X b (tM X.K W mb)) : PE X (.BinOp a .FloorDiv b pos) (tM X.K W (m2 dDiv ma mb)) := q_op op_fdivW div_ok ha hb
theorem q_mod (ha : PE X a (tM X.K W ma)) (hb : PE X b (tM X.K W mb)) : PE X (.BinOp a .Mod b pos) (tM X.K W (m2 dMod ma mb)) := q_op op_mod mod_ok ha hb
theorem q_pow (ha : PE X a (tM X.K W ma)) (hb : PE X b (tM X.K W mb)) : PE X (.BinOp a .Pow b pos) (tM X.K W (m2 dPow ma mb)) := q_op op_pow pow_ok ha hb
/-- -a -/
def mNeg (a : M D) : M D := fun s => (a s).bind fun x s1 => match x with
  | .int i => .ok (.int (-i)) s1
  | _ => .no
theorem q_neg (ha : PE X a (tM X.K W ma)) : PE X (.UnaryOp .USub a pos) (tM X.K W (mNeg ma)) := by
  refine pe_imp (pe_un un_neg ha) fun σ H Q ⟨f, w, s, st, p⟩ => ?_
  refine ⟨f, w, s, st, Po.thn p fun x w1 s1 v H1 e1 st1 r1 p1 => ?_⟩
  cases x with
  | int i => exact ⟨i, r1, p1 w1 H1 _ (Ext.refl _) st1 rfl⟩
  | _ => exact p1.elim
end
end Pv
end PvD_

section PvE_
set_option Elab.async false
set_option linter.all false
set_option maxRecDepth 100000
set_option maxHeartbeats 4000000
namespace Pv
open PySem PySem.Spec PyProof.Rows L2

/-! ### == of data -/
mutual
def eqD : D → D → Bool
  | .non, .non => true
  | .bl a, .bl b => a == b
  | .bl a, .int j => (if a then 1 else 0) == j
  | .int i, .bl b => i == (if b then 1 else 0)
  | .int i, .int j => i == j
  | .str x, .str y => x == y
  | .lst xs, .lst ys => eqDs xs ys
  | .tup xs, .tup ys => eqDs xs ys
  | _, _ => false
def eqDs : List D → List D → Bool
  | [], [] => true
  | x :: xs, y :: ys => eqD x y && eqDs xs ys
  | _, _ => false
end
mutual
/-- plain data: None, bools, ints, texts, lists, tuples -/
def okD : D → Bool
  | .non => true
  | .bl _ => true
  | .int _ => true
  | .str x => x.cps.all (· < 0x110000)
  | .lst xs => okDs xs
  | .tup xs => okDs xs
  | _ => false
def okDs : List D → Bool
  | [] => true
  | x :: xs => okD x && okDs xs
end
mutual
def depthD : D → Nat
  | .lst xs => depthDs xs + 1
  | .tup xs => depthDs xs + 1
  | _ => 0
def depthDs : List D → Nat
  | [] => 0
  | x :: xs => max (depthD x) (depthDs xs)
end
mutual
def toP : D → PyData
  | .non => .none
  | .bl b => .bool b
  | .int i => .int i
  | .str x => .str x
  | .lst xs => .list (toPs xs)
  | .tup xs => .tuple (toPs xs)
  | _ => .none
def toPs : List D → List PyData
  | [] => []
  | x :: xs => toP x :: toPs xs
end
mutual
theorem toP_lay : ∀ {d : D}, okD d = true → (toP d).canLay0 = true
  | .non, _ => rfl
  | .bl _, _ => rfl
  | .int _, _ => rfl
  | .str x, h => h
  | .lst xs, h => toPs_lay (d := xs) h
  | .tup xs, h => toPs_lay (d := xs) h
  | .fn _, h => by cases h
  | .box, h => by cases h
  | .scr _, h => by cases h
  | .dk _, h => by cases h
  | .dt _, h => by cases h
theorem toPs_lay : ∀ {d : List D}, okDs d = true → PyData.canLayAll0 (toPs d) = true
  | [], _ => rfl
  | x :: xs, h => by
    have h' := Bool.and_eq_true_iff.mp (show (okD x && okDs xs) = true from h)
    show (PyData.canLay0 (toP x) && PyData.canLayAll0 (toPs xs)) = true
    rw [toP_lay h'.1, toPs_lay h'.2]
    rfl
end
mutual
theorem toP_depth : ∀ (d : D), (toP d).depth = depthD d
  | .non => rfl
  | .bl _ => rfl
  | .int _ => rfl
  | .str _ => rfl
  | .lst xs => congrArg (· + 1) (toPs_depth xs)
  | .tup xs => congrArg (· + 1) (toPs_depth xs)
  | .fn _ => rfl
  | .box => rfl
  | .scr _ => rfl
  | .dk _ => rfl
  | .dt _ => rfl
theorem toPs_depth : ∀ (d : List D), PyData.depthAll (toPs d) = depthDs d
  | [] => rfl
  | x :: xs => by
    show max (toP x).depth (PyData.depthAll (toPs xs)) = max (depthD x) (depthDs xs)
    rw [toP_depth x, toPs_depth xs]
end
mutual
theorem toP_eqv : ∀ {d e : D}, okD d = true → okD e = true → PyData.eqv (toP d) (toP e) = eqD d e
  | .lst xs, e, hd, he => by
    cases e with
    | lst ys => exact toPs_eqv (d := xs) (e := ys) hd he
    | fn _ => cases he
    | box => cases he
    | scr _ => cases he
    | dk _ => cases he
    | dt _ => cases he
    | _ => rfl
  | .tup xs, e, hd, he => by
    cases e with
    | tup ys => exact toPs_eqv (d := xs) (e := ys) hd he
    | fn _ => cases he
    | box => cases he
    | scr _ => cases he
    | dk _ => cases he
    | dt _ => cases he
    | _ => rfl
  | .non, e, _, he => by cases e <;> first | rfl | cases he
  | .bl _, e, _, he => by cases e <;> first | rfl | cases he
  | .int _, e, _, he => by cases e <;> first | rfl | cases he
  | .str _, e, _, he => by cases e <;> first | rfl | cases he
  | .fn _, _, h, _ => by cases h
  | .box, _, h, _ => by cases h
  | .scr _, _, h, _ => by cases h
  | .dk _, _, h, _ => by cases h
  | .dt _, _, h, _ => by cases h
theorem toPs_eqv : ∀ {d e : List D}, okDs d = true → okDs e = true → PyData.eqvAll (toPs d) (toPs e) = eqDs d e
  | [], [], _, _ => rfl
  | [], _ :: _, _, _ => rfl
  | _ :: _, [], _, _ => rfl
  | x :: xs, y :: ys, hd, he => by
    have h1 := Bool.and_eq_true_iff.mp (show (okD x && okDs xs) = true from hd)
    have h2 := Bool.and_eq_true_iff.mp (show (okD y && okDs ys) = true from he)
    show (PyData.eqv (toP x) (toP y) && PyData.eqvAll (toPs xs) (toPs ys)) = (eqD x y && eqDs xs ys)
    rw [toP_eqv h1.1 h2.1, toPs_eqv h1.2 h2.2]
end
mutual
theorem Rep.dp {K : PySem.W.Frag} {w : Wd} {H : Hp} (e : Same w.F H) : ∀ {d : D} {v : V}, okD d = true → Rep K w d v → Dp K H v (toP d)
  | .non, v, _, h => by rw [show v = .non from h]; exact .non
  | .bl b, v, _, h => by rw [show v = .bl b from h]; exact .bl b
  | .int b, v, _, h => by rw [show v = .int b from h]; exact .int b
  | .str b, v, _, h => by rw [show v = .str b from h]; exact .str b
  | .lst xs, v, ho, h => by
    obtain ⟨a, vs, e1, e2, e3⟩ := h
    rw [e1]
    exact .lst (SqL.of (e _ _ e2)) (RepAll.dp e (ds := xs) ho e3)
  | .tup xs, v, ho, h => by
    obtain ⟨a, vs, e1, e2, e3⟩ := h
    rw [e1]
    exact .tup (same_seqT e e2) (RepAll.dp e (ds := xs) ho e3)
  | .fn _, _, h, _ => by cases h
  | .box, _, h, _ => by cases h
  | .scr _, _, h, _ => by cases h
  | .dk _, _, h, _ => by cases h
  | .dt _, _, h, _ => by cases h
theorem RepAll.dp {K : PySem.W.Frag} {w : Wd} {H : Hp} (e : Same w.F H) : ∀ {ds : List D} {vs : List V}, okDs ds = true → RepAll K w ds vs → DpAll K H vs (toPs ds)
  | [], vs, _, h => by rw [show vs = [] from h]; exact .nil
  | x :: xs, vs, ho, h => by
    obtain ⟨v, r, e1, e2, e3⟩ := h
    have h1 := Bool.and_eq_true_iff.mp (show (okD x && okDs xs) = true from ho)
    rw [e1]
    exact .cons (Rep.dp e h1.1 e2) (RepAll.dp e h1.2 e3)
end
theorem shaped_of {d : D} (h : okD d = true) (g : depthD d ≤ 64) : SeqAt.shaped (toP d) = true := by
  show (PyData.canLay0 (toP d) && decide ((toP d).depth ≤ 64)) = true
  rw [toP_lay h, toP_depth, decide_eq_true g]
  rfl
def dEq (x y : D) : Option Bool := match x, y with
  | .str a, .str b => some (a == b)
  | .int a, .int b => some (a == b)
  | .bl a, .bl b => some (a == b)
  | x, y => if (okD x && okD y) = true ∧ depthD x ≤ 64 ∧ depthD y ≤ 64 then some (eqD x y) else none
def oB (x : Option Bool) : Option D := x.map D.bl
section
variable {K : PySem.W.Frag}
def rEqA (K : PySem.W.Frag) : R2 := fun x y H Q => rEq x y H Q ∨ rEqD K x y H Q
def rNeA (K : PySem.W.Frag) : R2 := fun x y H Q => rNe x y H Q ∨ rNeD K x y H Q
theorem eqA_ok : R2Ok K (rEqA K) (fun x y => oB (dEq x y)) := by
  intro f w s σ H x y z v u Q st rv ru ez q
  replace ez : oB (dEq x y) = some z := ez
  unfold dEq at ez
  split at ez
  · rename_i a b
    cases ez
    refine .inl ⟨by rw [show v = .str a from rv, show u = .str b from ru]; rfl, ?_⟩
    rw [show v = .str a from rv, show u = .str b from ru, dec_str]
    exact q w H _ (Ext.refl w) st rfl
  · rename_i a b
    cases ez
    refine .inl ⟨by rw [show v = .int a from rv, show u = .int b from ru]; rfl, ?_⟩
    rw [show v = .int a from rv, show u = .int b from ru, dec_int]
    exact q w H _ (Ext.refl w) st rfl
  · rename_i a b
    cases ez
    refine .inl ⟨by rw [show v = .bl a from rv, show u = .bl b from ru]; rfl, ?_⟩
    rw [show v = .bl a from rv, show u = .bl b from ru, dec_bl]
    exact q w H _ (Ext.refl w) st rfl
  · split at ez
    · rename_i h
      cases ez
      have ho := Bool.and_eq_true_iff.mp h.1
      refine .inr ⟨_, _, Rep.dp st.sub ho.1 rv, Rep.dp st.sub ho.2 ru, shaped_of ho.1 h.2.1, shaped_of ho.2 h.2.2, ?_⟩
      rw [toP_eqv ho.1 ho.2]
      exact q w H _ (Ext.refl w) st rfl
    · cases ez
theorem neA_ok : R2Ok K (rNeA K) (fun x y => oB ((dEq x y).map (!·))) := by
  intro f w s σ H x y z v u Q st rv ru ez q
  replace ez : oB ((dEq x y).map (!·)) = some z := ez
  unfold dEq at ez
  split at ez
  · rename_i a b
    cases ez
    refine .inl ⟨by rw [show v = .str a from rv, show u = .str b from ru]; rfl, ?_⟩
    rw [show v = .str a from rv, show u = .str b from ru, dec_str]
    exact q w H _ (Ext.refl w) st rfl
  · rename_i a b
    cases ez
    refine .inl ⟨by rw [show v = .int a from rv, show u = .int b from ru]; rfl, ?_⟩
    rw [show v = .int a from rv, show u = .int b from ru, dec_int]
    exact q w H _ (Ext.refl w) st rfl
  · rename_i a b
    cases ez
    refine .inl ⟨by rw [show v = .bl a from rv, show u = .bl b from ru]; rfl, ?_⟩
    rw [show v = .bl a from rv, show u = .bl b from ru, dec_bl]
    exact q w H _ (Ext.refl w) st rfl
  · split at ez
    · rename_i h
      cases ez
      have ho := Bool.and_eq_true_iff.mp h.1
      refine .inr ⟨_, _, Rep.dp st.sub ho.1 rv, Rep.dp st.sub ho.2 ru, shaped_of ho.1 h.2.1, shaped_of ho.2 h.2.2, ?_⟩
      rw [toP_eqv ho.1 ho.2]
      exact q w H _ (Ext.refl w) st rfl
    · cases ez

/-! ### order -/
def strLt (a b : Str) : Bool := decide (a.cps.toList < b.cps.toList)
def dLt (x y : D) : Option Bool := match x, y with
  | .int i, .int j => some (decide (i < j))
  | .str a, .str b => some (strLt a b)
  | _, _ => none
def dLe (x y : D) : Option Bool := match x, y with
  | .int i, .int j => some (decide (i ≤ j))
  | .str a, .str b => some (!strLt b a)
  | _, _ => none
def dGt (x y : D) : Option Bool := match x, y with
  | .int i, .int j => some (decide (j < i))
  | .str a, .str b => some (strLt b a)
  | _, _ => none
def dGe (x y : D) : Option Bool := match x, y with
  | .int i, .int j => some (decide (j ≤ i))
  | .str a, .str b => some (!strLt a b)
  | _, _ => none
/-- an order of ints, one of texts -/
def rOrd (g : Int → Int → Bool) (h : Str → Str → Bool) : R2 := fun x y H Q => rI0 (fun i j => .bl (g i j)) x y H Q ∨ ∃ i j, x = .str i ∧ y = .str j ∧ Q (.bl (h i j)) H
def dOrd (g : Int → Int → Bool) (h : Str → Str → Bool) (x y : D) : Option Bool := match x, y with
  | .int i, .int j => some (g i j)
  | .str a, .str b => some (h a b)
  | _, _ => none
theorem ord_ok (g : Int → Int → Bool) (h : Str → Str → Bool) : R2Ok K (rOrd g h) (fun x y => oB (dOrd g h x y)) := by
  intro f w s σ H x y z v u Q st rv ru ez q
  replace ez : oB (dOrd g h x y) = some z := ez
  unfold dOrd at ez
  split at ez
  · rename_i i j
    cases ez
    exact .inl ⟨i, j, rv, ru, q w H _ (Ext.refl w) st rfl⟩
  · rename_i i j
    cases ez
    exact .inr ⟨i, j, rv, ru, q w H _ (Ext.refl w) st rfl⟩
  · cases ez
end
section
variable {X : Cx}
theorem op_eqA (hu : X.A.units + 64 < cLine) : OpR X (compareOp .Eq) (rEqA X.K) := op_eq.or (op_eqD hu)
theorem op_neA (hu : X.A.units + 64 < cLine) : OpR X (compareOp .NotEq) (rNeA X.K) := op_ne.or (op_neD hu)
theorem op_ltA : OpR X (compareOp .Lt) (rOrd (fun i j => decide (i < j)) strLt) := op_lt.or op_lt_str
theorem op_leA : OpR X (compareOp .LtE) (rOrd (fun i j => decide (i ≤ j)) fun a b => !strLt b a) := op_le.or op_le_str
theorem op_gtA : OpR X (compareOp .Gt) (rOrd (fun i j => decide (j < i)) fun a b => strLt b a) := op_gt.or op_gt_str
theorem op_geA : OpR X (compareOp .GtE) (rOrd (fun i j => decide (j ≤ i)) fun a b => !strLt a b) := op_ge.or op_ge_str
theorem dLt_eq (x y : D) : dLt x y = dOrd (fun i j => decide (i < j)) strLt x y := by cases x <;> cases y <;> rfl
theorem dLe_eq (x y : D) : dLe x y = dOrd (fun i j => decide (i ≤ j)) (fun a b => !strLt b a) x y := by cases x <;> cases y <;> rfl
theorem dGt_eq (x y : D) : dGt x y = dOrd (fun i j => decide (j < i)) (fun a b => strLt b a) x y := by cases x <;> cases y <;> rfl
theorem dGe_eq (x y : D) : dGe x y = dOrd (fun i j => decide (j ≤ i)) (fun a b => !strLt a b) x y := by cases x <;> cases y <;> rfl

/-! ### in, is None -/
def flatD : D → Bool
  | .non => true
  | .bl _ => true
  | .int _ => true
  | .str _ => true
  | _ => false
def oneSign (x : Str) : Option Nat := match x.cps.toList with
  | [c] => some c
  | _ => none
/-- in: a flat thing in a list or a tuple of flat things; data in a list of data; a sign in a text -/
def dIn (x y : D) : Option Bool := match x, y with
  | x, .tup ds => if flatD x = true ∧ ds.all flatD = true then some (ds.any fun z => eqD z x) else none
  | x, .lst ds => if flatD x = true ∧ ds.all flatD = true then some (ds.any fun z => eqD z x) else if (okD x && okDs ds) = true ∧ depthD x ≤ 64 ∧ depthDs ds < 64 then some (ds.any fun z => eqD z x) else none
  | .str a, .str z => (oneSign a).map fun c => decide (c ∈ z.cps.toList)
  | _, _ => none
theorem flat_rep {K : PySem.W.Frag} {w : Wd} {d : D} {v : V} (h : flatD d = true) (r : Rep K w d v) : flatV v = true := by
  cases d with
  | non => rw [show v = .non from r]; rfl
  | bl b => rw [show v = .bl b from r]; rfl
  | int i => rw [show v = .int i from r]; rfl
  | str i => rw [show v = .str i from r]; rfl
  | _ => cases h
theorem flat_eq {K : PySem.W.Frag} {w : Wd} {d e : D} {v u : V} (h : flatD d = true) (g : flatD e = true) (r : Rep K w d v) (q : Rep K w e u) : eqV v u = eqD d e := by
  cases d with
  | non => rw [show v = .non from r]; cases e <;> first | (rw [show u = _ from q]; rfl) | cases g
  | bl b => rw [show v = .bl b from r]; cases e <;> first | (rw [show u = _ from q]; rfl) | cases g
  | int i => rw [show v = .int i from r]; cases e <;> first | (rw [show u = _ from q]; rfl) | cases g
  | str i => rw [show v = .str i from r]; cases e <;> first | (rw [show u = _ from q]; rfl) | cases g
  | _ => cases h
theorem flat_all {K : PySem.W.Frag} {w : Wd} : ∀ {ds : List D} {vs : List V}, ds.all flatD = true → RepAll K w ds vs → vs.all flatV = true
  | [], vs, _, h => by rw [show vs = [] from h]; rfl
  | d :: ds, vs, h, g => by
    obtain ⟨v, r, e1, e2, e3⟩ := g
    have h' := Bool.and_eq_true_iff.mp (show (flatD d && ds.all flatD) = true from h)
    rw [e1]
    show (flatV v && r.all flatV) = true
    rw [flat_rep h'.1 e2, flat_all h'.2 e3]
    rfl
theorem flat_any {K : PySem.W.Frag} {w : Wd} {x : D} {u : V} (hx : flatD x = true) (rx : Rep K w x u) : ∀ {ds : List D} {vs : List V}, ds.all flatD = true → RepAll K w ds vs → inV u vs = ds.any fun z => eqD z x
  | [], vs, _, h => by rw [show vs = [] from h]; rfl
  | d :: ds, vs, h, g => by
    obtain ⟨v, r, e1, e2, e3⟩ := g
    have h' := Bool.and_eq_true_iff.mp (show (flatD d && ds.all flatD) = true from h)
    rw [e1]
    show (eqV v u || inV u r) = (eqD d x || ds.any fun z => eqD z x)
    rw [flat_eq h'.1 hx e2 rx, flat_any hx rx h'.2 e3]
theorem any_eqv {x : D} (hx : okD x = true) : ∀ {ds : List D}, okDs ds = true → ((toPs ds).any fun z => PyData.eqv z (toP x)) = ds.any fun z => eqD z x
  | [], _ => rfl
  | d :: ds, h => by
    have h' := Bool.and_eq_true_iff.mp (show (okD d && okDs ds) = true from h)
    show (PyData.eqv (toP d) (toP x) || (toPs ds).any fun z => PyData.eqv z (toP x)) = (eqD d x || ds.any fun z => eqD z x)
    rw [toP_eqv h'.1 hx, any_eqv hx h'.2]
theorem oneSign_eq {x : Str} {c : Nat} (h : oneSign x = some c) : x = ⟨#[c]⟩ := by
  obtain ⟨a⟩ := x
  unfold oneSign at h
  split at h
  · rename_i d e
    cases h
    have e' : a.toList = [c] := e
    have : a = #[c] := by
      apply Array.ext'
      simpa using e'
    rw [this]
  · cases h
def rInA (K : PySem.W.Frag) (neg : Bool) : R2 := fun x y H Q => rIn K neg x y H Q ∨ ((if neg then rNotInD K x y H Q else rInD K x y H Q) ∨ ∃ (c : Nat) (z : Str), x = .str ⟨#[c]⟩ ∧ y = .str z ∧ Q (.bl (if neg then !decide (c ∈ z.cps.toList) else decide (c ∈ z.cps.toList))) H)
theorem op_inA (hu : X.A.units + 65 < cLine) : OpR X (compareOp .In) (rInA X.K false) := op_in_seq.or ((op_inD hu).or op_in_sign)
theorem op_notInA (hu : X.A.units + 65 < cLine) : OpR X (compareOp .NotIn) (rInA X.K true) := op_notIn_seq.or ((op_notInD hu).or op_notIn_sign)
theorem inA_ok {K : PySem.W.Frag} (neg : Bool) : R2Ok K (rInA K neg) (fun x y => oB ((dIn x y).map fun b => if neg then !b else b)) := by
  intro f w s σ H x y z v u Q st rv ru ez q
  replace ez : oB ((dIn x y).map fun b => if neg then !b else b) = some z := ez
  cases hd : dIn x y with
  | none => rw [hd] at ez; cases ez
  | some b =>
    have ez' : D.bl (if neg then !b else b) = z := by rw [hd] at ez; exact Option.some.inj ez
    have fin : Q (.bl (if neg then !b else b)) H := by
      subst ez'
      exact q w H _ (Ext.refl w) st rfl
    unfold dIn at hd
    split at hd
    · rename_i x ds
      split at hd
      · rename_i h
        injection hd with hd
        subst hd
        obtain ⟨a, vs, e1, e2, e3⟩ := ru
        refine .inl ⟨a, vs, e1, .inr (st.tup e2), flat_rep h.1 rv, flat_all h.2 e3, ?_⟩
        rw [flat_any h.1 rv h.2 e3]
        exact fin
      · cases hd
    · rename_i x ds
      split at hd
      · rename_i h
        injection hd with hd
        subst hd
        obtain ⟨a, vs, e1, e2, e3⟩ := ru
        refine .inl ⟨a, vs, e1, .inl (SqL.of (st.sub _ _ e2)), flat_rep h.1 rv, flat_all h.2 e3, ?_⟩
        rw [flat_any h.1 rv h.2 e3]
        exact fin
      · split at hd
        · rename_i h
          injection hd with hd
          subst hd
          have ho := Bool.and_eq_true_iff.mp h.1
          have h1 := Rep.dp st.sub ho.1 rv
          have h2 := Rep.dp st.sub (d := .lst ds) ho.2 ru
          have h3 := shaped_of ho.1 h.2.1
          have h4 : SeqAt.shaped (.list (toPs ds)) = true := shaped_of (d := .lst ds) ho.2 h.2.2
          have h5 := any_eqv ho.1 ho.2
          refine .inr (.inl ?_)
          cases neg with
          | false => exact ⟨_, _, h1, h2, h3, h4, by rw [h5]; exact fin⟩
          | true => exact ⟨_, _, h1, h2, h3, h4, by rw [h5]; exact fin⟩
        · cases hd
    · rename_i a z'
      cases hc : oneSign a with
      | none => rw [hc] at hd; cases hd
      | some c =>
        rw [hc] at hd
        injection hd with hd
        subst hd
        exact .inr (.inr ⟨c, z', by rw [show v = .str a from rv, oneSign_eq hc], ru, fin⟩)
    · cases hd
def isNonD : D → Bool
  | .non => true
  | _ => false
theorem isNon_rep {K : PySem.W.Frag} {w : Wd} {d : D} {v : V} (r : Rep K w d v) : decide (v = .non) = isNonD d := by
  cases d with
  | non => rw [show v = .non from r]; rfl
  | bl b => rw [show v = .bl b from r]; rfl
  | int i => rw [show v = .int i from r]; rfl
  | str i => rw [show v = .str i from r]; rfl
  | tup _ => obtain ⟨a, _, e, _⟩ := r; rw [e]; rfl
  | lst _ => obtain ⟨a, _, e, _⟩ := r; rw [e]; rfl
  | fn a => rw [show v = .ref a from r]; rfl
  | box => obtain ⟨a, e, _⟩ := r; rw [e]; rfl
  | scr _ => obtain ⟨a, e, _⟩ := r; rw [e]; rfl
  | dk _ => obtain ⟨a, _, e, _⟩ := r; rw [e]; rfl
  | dt _ => obtain ⟨a, _, e, _⟩ := r; rw [e]; rfl
theorem isN_ok {K : PySem.W.Frag} : R2Ok K (fun x y H Q => y = .non ∧ Q (.bl (decide (x = .non))) H) (fun x y => match y with | .non => some (.bl (isNonD x)) | _ => none) := by
  intro f w s σ H x y z v u Q st rv ru ez q
  cases y with
  | non =>
    injection ez with ez
    subst ez
    exact ⟨ru, by rw [isNon_rep rv]; exact q w H _ (Ext.refl w) st rfl⟩
  | _ => cases ez
theorem notN_ok {K : PySem.W.Frag} : R2Ok K (fun x y H Q => y = .non ∧ Q (.bl (!decide (x = .non))) H) (fun x y => match y with | .non => some (.bl (!isNonD x)) | _ => none) := by
  intro f w s σ H x y z v u Q st rv ru ez q
  cases y with
  | non =>
    injection ez with ez
    subst ez
    exact ⟨ru, by rw [isNon_rep rv]; exact q w H _ (Ext.refl w) st rfl⟩
  | _ => cases ez
end
end Pv
end PvE_

section PvF_
set_option Elab.async false
set_option linter.all false
set_option maxRecDepth 100000
set_option maxHeartbeats 4000000
namespace Pv
open PySem PySem.Spec PyProof.Rows L2
section
variable {X : Cx} {f : Fm} {W : WX} {a b c e : Expr} {es rest : List Expr} {pos : Pos} {ma mb mc : M D} {ta tb tc : M Bool}

/-- a truth as a value -/
def mB (m : M Bool) : M D := fun s => (m s).bind fun k s1 => .ok (.bl k) s1
/-- a value that is a truth -/
def mT (m : M D) : M Bool := fun s => (m s).bind fun x s1 => match x with
  | .bl k => .ok k s1
  | _ => .no
def m2b (g : D → D → Option Bool) (a b : M D) : M Bool := fun s => (a s).bind fun x s1 => (b s1).bind fun y s2 => ofO (g x y) s2

/-! ### comparisons -/
theorem q_cmp {op : CmpOp} {r : R2} {g : D → D → Option Bool} (ho : OpR X (compareOp op) r) (hr : R2Ok X.K r fun x y => oB (g x y)) (hm : behindInMarks op b = false) (ha : PE X a (tM X.K W ma)) (hb : PE X b (tM X.K W mb)) :
    PE X (.Compare a [op] [b] pos) (tM X.K W (mB (m2b g ma mb))) := by
  refine pe_imp (pe_cmpR ho ha hb hm) fun σ H Q ⟨f, w, s, st, p⟩ => ?_
  unfold mB m2b at p
  cases e1 : ma s with
  | no => rw [e1] at p; exact p.elim
  | exc x s1 =>
    rw [e1] at p
    exact ⟨f, w, s, st, by rw [e1]; exact p⟩
  | ok x s1 =>
    rw [e1] at p
    refine ⟨f, w, s, st, ?_⟩
    rw [e1]
    intro w1 H1 v x1 st1 r1
    refine ⟨f, w1, s1, st1, ?_⟩
    cases e2 : mb s1 with
    | no => rw [show ((Out.ok x s1).bind fun x s1 => (mb s1).bind fun y s2 => ofO (g x y) s2) = Out.no from by show (mb s1).bind _ = _; rw [e2]; rfl] at p; exact p.elim
    | exc y s2 =>
      rw [show ((Out.ok x s1).bind fun x s1 => (mb s1).bind fun y s2 => ofO (g x y) s2) = .exc y s2 from by show (mb s1).bind _ = _; rw [e2]; rfl] at p
      exact fun w' H' c dd e' => p w' H' c dd (x1.trans e')
    | ok y s2 =>
      rw [show ((Out.ok x s1).bind fun x s1 => (mb s1).bind fun y s2 => ofO (g x y) s2) = ofO (g x y) s2 from by show (mb s1).bind _ = _; rw [e2]; rfl] at p
      intro w2 H2 u x2 st2 r2
      cases e3 : g x y with
      | none => rw [e3] at p; exact p.elim
      | some k =>
        rw [e3] at p
        exact hr f w2 s2 σ H2 x y (.bl k) v u Q st2 (Rep.mono x2 r1) r2 (by show oB (g x y) = _; rw [e3]; rfl) fun w' H' t e' st' rt => p w' H' t (x1.trans (x2.trans e')) st' rt
theorem t_cmp {op : CmpOp} {r : R2} {g : D → D → Option Bool} (ho : OpR X (compareOp op) r) (hr : R2Ok X.K r fun x y => oB (g x y)) (hm : behindInMarks op b = false) (ha : PE X a (tM X.K W ma)) (hb : PE X b (tM X.K W mb)) :
    PT X (.Compare a [op] [b] pos) (tT X.K W (m2b g ma mb)) := by
  refine pt_imp (pt_cmpR ho ha hb hm) fun σ H Q ⟨f, w, s, st, p⟩ => ?_
  refine ⟨f, w, s, st, Po.thn p fun x w1 s1 v H1 e1 st1 r1 p1 => ⟨f, w1, s1, st1, Po.thn p1 fun y w2 s2 u H2 e2 st2 r2 p2 => ?_⟩⟩
  obtain ⟨k, ek, pk⟩ := p2.ofO
  refine hr f w2 s2 σ H2 x y (.bl k) v u _ st2 (Rep.mono e2 r1) r2 (by show oB (g x y) = _; rw [ek]; rfl) fun w' H' t e' st' rt => ?_
  exact ⟨k, rt, pk w' H' k e' st' rfl⟩
/-- a value that is a truth, as a test -/
theorem t_val (h : PE X e (tM X.K W ma)) (he : ∀ whole, isTrue e X.env whole = (do let v ← whole; standAt e.pos; holding [v] (truthy v)) := by intro _; rfl) : PT X e (tT X.K W (mT ma)) := by
  refine pt_imp (pt_val h he) fun σ H Q ⟨f, w, s, st, p⟩ => ?_
  refine ⟨f, w, s, st, Po.thn p fun x w1 s1 v H1 e1 st1 r1 p1 => ?_⟩
  cases x with
  | bl k => exact ⟨k, r1, p1 w1 H1 k (Ext.refl _) st1 rfl⟩
  | _ => exact p1.elim

/-! ### and, or, not, if else -/
def tAndM (ta tb : M Bool) : M Bool := fun s => (ta s).bind fun k s1 => if k then tb s1 else .ok false s1
def tOrM (ta tb : M Bool) : M Bool := fun s => (ta s).bind fun k s1 => if k then .ok true s1 else tb s1
def tNotM (ta : M Bool) : M Bool := fun s => (ta s).bind fun k s1 => .ok (!k) s1
theorem t_and1 (ha : PT X a (tT X.K W ta)) : PW X (.BoolOp .And [a] pos) (tT X.K W ta) := pw_and1 ha
theorem t_or1 (ha : PT X a (tT X.K W ta)) : PW X (.BoolOp .Or [a] pos) (tT X.K W ta) := pw_or1 ha
theorem t_and (ha : PT X a (tT X.K W ta)) (hb : PW X (.BoolOp .And (b :: rest) pos) (tT X.K W tb)) : PW X (.BoolOp .And (a :: b :: rest) pos) (tT X.K W (tAndM ta tb)) := by
  refine pw_imp (pw_and ha hb) fun σ H Q ⟨f, w, s, st, p⟩ => ?_
  refine ⟨f, w, s, st, Po.thn p fun x w1 s1 v H1 e1 st1 r1 p1 => ?_⟩
  have r1' : v = x := r1
  subst r1'
  cases v with
  | true =>
    rw [if_pos rfl]
    exact ⟨f, w1, s1, st1, p1⟩
  | false =>
    rw [if_neg Bool.false_ne_true]
    exact p1 w1 H1 false (Ext.refl _) st1 rfl
theorem t_or (ha : PT X a (tT X.K W ta)) (hb : PW X (.BoolOp .Or (b :: rest) pos) (tT X.K W tb)) : PW X (.BoolOp .Or (a :: b :: rest) pos) (tT X.K W (tOrM ta tb)) := by
  refine pw_imp (pw_or ha hb) fun σ H Q ⟨f, w, s, st, p⟩ => ?_
  refine ⟨f, w, s, st, Po.thn p fun x w1 s1 v H1 e1 st1 r1 p1 => ?_⟩
  have r1' : v = x := r1
  subst r1'
  cases v with
  | true =>
    rw [if_pos rfl]
    exact p1 w1 H1 true (Ext.refl _) st1 rfl
  | false =>
    rw [if_neg Bool.false_ne_true]
    exact ⟨f, w1, s1, st1, p1⟩
theorem t_not (ha : PT X a (tT X.K W ta)) : PT X (.UnaryOp .Not a pos) (tT X.K W (tNotM ta)) := by
  refine pt_imp (pt_not ha) fun σ H Q ⟨f, w, s, st, p⟩ => ?_
  refine ⟨f, w, s, st, Po.thn p fun x w1 s1 v H1 e1 st1 r1 p1 => ?_⟩
  have r1' : v = x := r1
  subst r1'
  exact p1 w1 H1 _ (Ext.refl _) st1 rfl
/-- as values: truths -/
def mAnd (ma mb : M D) : M D := fun s => (ma s).bind fun x s1 => match x with
  | .bl true => mb s1
  | .bl false => .ok (.bl false) s1
  | _ => .no
def mOr (ma mb : M D) : M D := fun s => (ma s).bind fun x s1 => match x with
  | .bl true => .ok (.bl true) s1
  | .bl false => mb s1
  | _ => .no
def mNot (ma : M D) : M D := fun s => (ma s).bind fun x s1 => match x with
  | .bl k => .ok (.bl (!k)) s1
  | _ => .no
theorem q_one {op} (ha : PE X a (tM X.K W ma)) : PE X (.BoolOp op [a] pos) (tM X.K W ma) := pe_one ha
theorem q_and (ha : PE X a (tM X.K W ma)) (hb : PE X (.BoolOp .And (b :: rest) pos) (tM X.K W mb)) : PE X (.BoolOp .And (a :: b :: rest) pos) (tM X.K W (mAnd ma mb)) := by
  refine pe_imp (pe_and ha hb) fun σ H Q ⟨f, w, s, st, p⟩ => ?_
  refine ⟨f, w, s, st, Po.thn p fun x w1 s1 v H1 e1 st1 r1 p1 => ?_⟩
  cases x with
  | bl k =>
    refine ⟨k, r1, ?_⟩
    cases k with
    | true =>
      rw [if_pos rfl]
      exact ⟨f, w1, s1, st1, p1⟩
    | false =>
      rw [if_neg Bool.false_ne_true]
      exact p1 w1 H1 _ (Ext.refl _) st1 rfl
  | _ => exact p1.elim
theorem q_or (ha : PE X a (tM X.K W ma)) (hb : PE X (.BoolOp .Or (b :: rest) pos) (tM X.K W mb)) : PE X (.BoolOp .Or (a :: b :: rest) pos) (tM X.K W (mOr ma mb)) := by
  refine pe_imp (pe_or ha hb) fun σ H Q ⟨f, w, s, st, p⟩ => ?_
  refine ⟨f, w, s, st, Po.thn p fun x w1 s1 v H1 e1 st1 r1 p1 => ?_⟩
  cases x with
  | bl k =>
    refine ⟨k, r1, ?_⟩
    cases k with
    | true =>
      rw [if_pos rfl]
      exact p1 w1 H1 _ (Ext.refl _) st1 rfl
    | false =>
      rw [if_neg Bool.false_ne_true]
      exact ⟨f, w1, s1, st1, p1⟩
  | _ => exact p1.elim
theorem q_not (ha : PE X a (tM X.K W ma)) : PE X (.UnaryOp .Not a pos) (tM X.K W (mNot ma)) := by
  refine pe_imp (pe_not ha) fun σ H Q ⟨f, w, s, st, p⟩ => ?_
  refine ⟨f, w, s, st, Po.thn p fun x w1 s1 v H1 e1 st1 r1 p1 => ?_⟩
  cases x with
  | bl k => exact ⟨k, r1, p1 w1 H1 _ (Ext.refl _) st1 rfl⟩
  | _ => exact p1.elim
def mIf (tc : M Bool) (ma mb : M D) : M D := fun s => (tc s).bind fun k s1 => if k then ma s1 else mb s1
theorem q_if (hc : PT X c (tT X.K W tc)) (ha : PE X a (tM X.K W ma)) (hb : PE X b (tM X.K W mb)) : PE X (.IfExp c a b pos) (tM X.K W (mIf tc ma mb)) := by
  refine pe_imp (pe_ifExp hc ha hb) fun σ H Q ⟨f, w, s, st, p⟩ => ?_
  refine ⟨f, w, s, st, Po.thn p fun x w1 s1 v H1 e1 st1 r1 p1 => ?_⟩
  have r1' : v = x := r1
  subst r1'
  cases v with
  | true =>
    rw [if_pos rfl]
    exact ⟨f, w1, s1, st1, p1⟩
  | false =>
    rw [if_neg Bool.false_ne_true]
    exact ⟨f, w1, s1, st1, p1⟩
/-- x < y < z -/
def m3b (g h : D → D → Option Bool) (a b c : M D) : M Bool := fun s => (a s).bind fun x s1 => (b s1).bind fun y s2 => (ofO (g x y) s2).bind fun k s3 => if k then (c s3).bind fun z s4 => ofO (h y z) s4 else .ok false s3
theorem t_chain {op op' : CmpOp} {r r' : R2} {g h : D → D → Option Bool} (ho : OpR X (compareOp op) r) (hr : R2Ok X.K r fun x y => oB (g x y)) (ho' : OpR X (compareOp op') r') (hr' : R2Ok X.K r' fun x y => oB (h x y))
    (ha : PE X a (tM X.K W ma)) (hb : PE X b (tM X.K W mb)) (hc : PE X c (tM X.K W mc)) (hm : lastMarks [op, op'] [b, c] = false := by with_unfolding_all rfl) : PT X (.Compare a [op, op'] [b, c] pos) (tT X.K W (m3b g h ma mb mc)) := by
  refine pt_imp (pt_chain ho ho' ha hb hc hm) fun σ H Q ⟨f, w, s, st, p⟩ => ?_
  refine ⟨f, w, s, st, Po.thn p fun x w1 s1 v H1 e1 st1 r1 p1 => ⟨f, w1, s1, st1, Po.thn p1 fun y w2 s2 u H2 e2 st2 r2 p2 => ?_⟩⟩
  cases ek : g x y with
  | none => rw [ek] at p2; exact p2.elim
  | some k =>
    rw [ek] at p2
    refine hr f w2 s2 σ H2 x y (.bl k) v u _ st2 (Rep.mono e2 r1) r2 (by show oB (g x y) = _; rw [ek]; rfl) fun w' H' t e' st' rt => ?_
    refine ⟨k, rt, ?_⟩
    cases k with
    | true =>
      rw [if_pos rfl]
      refine ⟨f, w', s2, st', (Po.thn (p2.ext e') fun z w3 s3 vz H3 e3 st3 r3 p3 => ?_)⟩
      obtain ⟨j, ej, pj⟩ := p3.ofO
      refine hr' f w3 s3 σ H3 y z (.bl j) u vz _ st3 (Rep.mono (e'.trans e3) r2) r3 (by show oB (h y z) = _; rw [ej]; rfl) fun w'' H'' t' e'' st'' rt' => ?_
      exact ⟨j, rt', pj w'' H'' j e'' st'' rfl⟩
    | false =>
      rw [if_neg Bool.false_ne_true]
      exact ⟨false, rfl, p2 w' H' false e' st' rfl⟩
theorem q_chain {op op' : CmpOp} {r r' : R2} {g h : D → D → Option Bool} (ho : OpR X (compareOp op) r) (hr : R2Ok X.K r fun x y => oB (g x y)) (ho' : OpR X (compareOp op') r') (hr' : R2Ok X.K r' fun x y => oB (h x y))
    (ha : PE X a (tM X.K W ma)) (hb : PE X b (tM X.K W mb)) (hc : PE X c (tM X.K W mc)) (hm : lastMarks [op, op'] [b, c] = false := by with_unfolding_all rfl) : PE X (.Compare a [op, op'] [b, c] pos) (tM X.K W (mB (m3b g h ma mb mc))) := by
  refine pe_imp (pe_chain ho ho' ha hb hc hm) fun σ H Q ⟨f, w, s, st, p⟩ => ?_
  have p' : Po X.K f W (RD X.K) w σ Q ((ma s).bind fun x s1 => (mb s1).bind fun y s2 => (ofO (g x y) s2).bind fun k s3 => if k then (mc s3).bind fun z s4 => (ofO (h y z) s4).bind fun k s1 => .ok (.bl k) s1 else .ok (.bl false) s3) := by
    refine cast (congrArg _ ?_) p
    unfold mB m3b
    cases ma s with
    | no => rfl
    | exc _ _ => rfl
    | ok x s1 =>
      show ((mb s1).bind _).bind _ = (mb s1).bind _
      cases mb s1 with
      | no => rfl
      | exc _ _ => rfl
      | ok y s2 =>
        show ((ofO (g x y) s2).bind _).bind _ = (ofO (g x y) s2).bind _
        cases g x y with
        | none => rfl
        | some k =>
          cases k with
          | false => rfl
          | true =>
            show ((mc s2).bind _).bind _ = (mc s2).bind _
            cases mc s2 <;> rfl
  refine ⟨f, w, s, st, Po.thn p' fun x w1 s1 v H1 e1 st1 r1 p1 => ⟨f, w1, s1, st1, Po.thn p1 fun y w2 s2 u H2 e2 st2 r2 p2 => ?_⟩⟩
  cases ek : g x y with
  | none => rw [ek] at p2; exact p2.elim
  | some k =>
    rw [ek] at p2
    refine hr f w2 s2 σ H2 x y (.bl k) v u _ st2 (Rep.mono e2 r1) r2 (by show oB (g x y) = _; rw [ek]; rfl) fun w' H' t e' st' rt => ?_
    refine ⟨k, rt, ?_⟩
    cases k with
    | true =>
      rw [if_pos rfl]
      refine ⟨f, w', s2, st', (Po.thn (p2.ext e') fun z w3 s3 vz H3 e3 st3 r3 p3 => ?_)⟩
      cases ej : h y z with
      | none => rw [ej] at p3; exact p3.elim
      | some j =>
        rw [ej] at p3
        exact hr' f w3 s3 σ H3 y z (.bl j) u vz _ st3 (Rep.mono (e'.trans e3) r2) r3 (by show oB (h y z) = _; rw [ej]; rfl) fun w'' H'' t' e'' st'' rt' => p3 w'' H'' t' e'' st'' rt'
    | false =>
      rw [if_neg Bool.false_ne_true]
      exact p2 w' H' _ e' st' rfl

/-! ### arguments, displays -/
def aNil : M (List D) := fun s => .ok [] s
def aCons (m : M D) (r : M (List D)) : M (List D) := fun s => (m s).bind fun x s1 => (r s1).bind fun xs s2 => .ok (x :: xs) s2
theorem a_nil : PA X [] (tA X.K W aNil) := by
  refine pa_imp pa_nil fun σ H Q ⟨f, w, s, st, p⟩ => ?_
  exact p w H [] (Ext.refl _) st rfl
theorem a_cons {mr : M (List D)} (ha : PE X e (tM X.K W ma)) (hr : PA X es (tA X.K W mr)) (hs : starEach (e :: es) X.env = (false, eval e X.env) :: starEach es X.env := by rfl) : PA X (e :: es) (tA X.K W (aCons ma mr)) := by
  refine pa_imp (pa_cons ha hr hs) fun σ H Q ⟨f, w, s, st, p⟩ => ?_
  refine ⟨f, w, s, st, Po.thn p fun x w1 s1 v H1 e1 st1 r1 p1 => ⟨f, w1, s1, st1, Po.thn p1 fun xs w2 s2 vs H2 e2 st2 r2 p2 => ?_⟩⟩
  exact p2 w2 H2 _ (Ext.refl _) st2 ⟨v, vs, rfl, Rep.mono e2 r1, r2⟩
def mTup (m : M (List D)) : M D := fun s => (m s).bind fun xs s1 => if xs.length ≤ sizeLine then .ok (.tup xs) s1 else .no
theorem q_tup {m : M (List D)} {x1} (h : PA X es (tA X.K W m)) : PE X (.Tuple es x1 pos) (tM X.K W (mTup m)) := by
  refine pe_imp (pe_tup h) fun σ H Q ⟨f, w, s, st, p⟩ => ?_
  refine ⟨f, w, s, st, Po.thn p fun xs w1 s1 vs H1 e1 st1 r1 p1 => ?_⟩
  split at p1
  · rename_i hz
    exact ⟨by rw [r1.length]; exact hz, st1.newT r1 fun w' H' t e' st' rt => p1 w' H' t e' st' rt⟩
  · exact p1.elim
/-- a new list, nobody's -/
def lNew (m : M (List D)) : M (List D) := fun s => (m s).bind fun xs s1 => if xs.length ≤ sizeLine then .ok xs s1 else .no
section
variable {K : PySem.W.Frag} {w : Wd} {s : S} {σ : L2.St} {H : Hp}
/-- a new object, not frozen -/
theorem StOk.lay (h : StOk K f w s σ H) {p : Addr} {o : HO} (hp : H p = none) : StOk K f w s σ (upd H p o) where
  sub := fun b u e => by
    have e' := h.sub _ _ e
    rw [upd_ne (ne_of_none e' hp)]
    exact e'
  fr := fun a u e1 e2 => by
    have e := h.fr a u e1 e2
    rw [upd_ne (ne_of_none e hp)]
    exact e
  ff := h.ff
  f0 := h.f0
  bb := h.bb
  bf := h.bf
  len := h.len
  slot := fun i x e => (h.slot i x e).ext (Ext.refl w) fun q hq e1 => by
    obtain ⟨q', e2, e3, e4, e5, e6⟩ := (h.slot i x e).at hq
    rw [e1] at e2
    cases e2
    have ne : q ≠ p := fun z => e3 (by rw [z]; exact hp)
    exact ⟨upd_ne ne, e4, e5⟩
  bx := fun q e => by
    obtain ⟨e1, e2, e3⟩ := h.bx q e
    have ne : q ≠ p := ne_of_none e1 hp
    exact ⟨by rw [upd_ne ne]; exact e1, e2, e3⟩
  dist := h.dist
theorem StOk.newF (st : StOk K f w s σ H) {Q : VK} {z : List D} {vs : List V} (r : RepAll K w z vs) (q : ∀ w' H' t, Ext w w' → StOk K f w' s σ H' → RF K f w' s σ H' z t → Q t H') :
    ∀ p, H p = none → Q (.ref p) (upd H p (.lst vs)) := fun p hp => by
  refine q _ _ _ (Ext.refl w) (st.lay hp) ⟨p, vs, rfl, upd_same, r, st.freshF hp, fun z => ?_, st.fresh0 hp, fun i x e o z => ?_⟩
  · obtain ⟨e1, _⟩ := st.bx p z
    rw [hp] at e1
    cases e1
  · obtain ⟨q', e2, e3, _⟩ := (st.slot i x e).at o
    rw [z] at e2
    cases e2
    exact e3 hp
/-- a new list is frozen -/
theorem StOk.freezeF (st : StOk K f w s σ H) {p : Addr} {o : HO} (hp : H p = some o) (h1 : w.F p = none) (h2 : w.bp ≠ some p) (h3 : f.H0 p = none) (h4 : ∀ (i : Nat) (x : SV), s.env[i]? = some x → x.own = true → σ[i]?.join ≠ some (.ref p)) :
    StOk K f (w.put p o) s σ H where
  sub := fun b u e => by
    have e' : upd w.F p o b = some u := e
    by_cases hb : b = p
    · subst hb
      rw [upd_same] at e'
      rw [← e']
      exact hp
    · rw [upd_ne hb] at e'
      exact st.sub _ _ e'
  fr := st.fr
  ff := fun a e1 e2 => by
    show upd w.F p o a = none
    have ne : a ≠ p := fun z => e1 (by rw [z]; exact h3)
    rw [upd_ne ne]
    exact st.ff a e1 e2
  f0 := st.f0.trans (ext_put h1).same
  bb := st.bb
  bf := st.bf
  len := st.len
  slot := fun i x e => (st.slot i x e).ext (ext_put h1) fun q hq e1 => by
    obtain ⟨q', e2, e3, e4, e5, e6⟩ := (st.slot i x e).at hq
    rw [e1] at e2
    cases e2
    have ne : q ≠ p := fun z => h4 i x e hq (by rw [← z]; exact e1)
    exact ⟨rfl, by show upd w.F p o q = none; rw [upd_ne ne]; exact e4, e5⟩
  bx := fun q e => by
    obtain ⟨e1, e2, e3⟩ := st.bx q e
    have ne : q ≠ p := fun z => h2 (by rw [← z]; exact e)
    exact ⟨e1, by show upd w.F p o q = none; rw [upd_ne ne]; exact e2, e3⟩
  dist := st.dist
end
theorem f_lst {m : M (List D)} (h : PA X es (tA X.K W m)) : PE X (.List es pos) (tF X.K W (lNew m)) := by
  refine pe_imp (pe_lst h) fun σ H Q ⟨f, w, s, st, p⟩ => ?_
  refine ⟨f, w, s, st, Po.thn p fun xs w1 s1 vs H1 e1 st1 r1 p1 => ?_⟩
  split at p1
  · rename_i hz
    exact ⟨by rw [r1.length]; exact hz, st1.newF r1 fun w' H' t e' st' rt => p1 w' H' t e' st' rt⟩
  · exact p1.elim
/-- a new list as a value: frozen -/
def fz (m : M (List D)) : M D := fun s => (m s).bind fun xs s1 => .ok (.lst xs) s1
theorem q_fz {m : M (List D)} (h : PE X e (tF X.K W m)) : PE X e (tM X.K W (fz m)) := by
  refine pe_imp h fun σ H Q ⟨f, w, s, st, p⟩ => ?_
  refine ⟨f, w, s, st, Po.thn p fun xs w1 s1 v H1 e1 st1 r1 p1 => ?_⟩
  obtain ⟨q, vs, rfl, h1, h2, h3, h4, h5, h6⟩ := r1
  exact p1 _ H1 _ (ext_put h3) (st1.freezeF h1 h3 h4 h5 h6) ⟨q, vs, rfl, Wd.put_at, RepAll.mono (ext_put h3) h2⟩
end
end Pv
end PvF_

section PvG_
set_option Elab.async false
set_option linter.all false
set_option maxRecDepth 100000
set_option maxHeartbeats 4000000
namespace Pv
open PySem PySem.Spec PyProof.Rows L2

/-! ### statements -/
inductive SO where
  | nx (s : S) | rt (d : D) (s : S) | bk (s : S) | ct (s : S) | exc (e : Exn) (s : S) | no
abbrev MS := S → SO
def SO.bind (x : SO) (f : S → SO) : SO := match x with
  | .nx s => f s
  | x => x
def Out.toS {α : Type} (x : Out α) (k : α → S → SO) : SO := match x with
  | .ok a s => k a s
  | .exc e s => .exc e s
  | .no => .no
def PoS (K : PySem.W.Frag) (f : Fm) (W : WX) (w : Wd) (E : Ends) : SO → Prop
  | .nx s' => ∀ w' σ' H', Ext w w' → StOk K f w' s' σ' H' → E.nx σ' H'
  | .rt d s' => ∀ w' σ' H' v, Ext w w' → StOk K f w' s' σ' H' → Rep K w' d v → E.rt v H'
  | .bk s' => ∀ w' σ' H', Ext w w' → StOk K f w' s' σ' H' → E.bk σ' H'
  | .ct s' => ∀ w' σ' H', Ext w w' → StOk K f w' s' σ' H' → E.ct σ' H'
  | .exc e s' => ∀ w' σ' H' c dd, Ext w w' → StOk K f w' s' σ' H' → RepX K w' H' e c dd → W c dd σ' H'
  | .no => False
def tS (K : PySem.W.Frag) (W : WX) (m : MS) : TS := fun E σ H => ∃ f w s, StOk K f w s σ H ∧ PoS K f W w E (m s)
section
variable {K : PySem.W.Frag} {f : Fm} {W : WX} {w w' : Wd} {s s' : S} {σ : L2.St} {H H' : Hp} {E E' : Ends}
theorem PoS.ext {o : SO} (h : PoS K f W w E o) (e : Ext w w') : PoS K f W w' E o := by
  cases o with
  | nx s => exact fun w2 σ2 H2 e2 => h w2 σ2 H2 (e.trans e2)
  | rt d s => exact fun w2 σ2 H2 v e2 => h w2 σ2 H2 v (e.trans e2)
  | bk s => exact fun w2 σ2 H2 e2 => h w2 σ2 H2 (e.trans e2)
  | ct s => exact fun w2 σ2 H2 e2 => h w2 σ2 H2 (e.trans e2)
  | exc x s => exact fun w2 σ2 H2 c dd e2 => h w2 σ2 H2 c dd (e.trans e2)
  | no => exact h
theorem PoS.thn {α β : Type} {R : Fm → Wd → S → L2.St → Hp → α → β → Prop} {Q : β → Hp → Prop} {o : Out α} {k : α → S → SO} (h : PoS K f W w E (o.toS k))
    (q : ∀ a w1 s1 b H1, Ext w w1 → StOk K f w1 s1 σ H1 → R f w1 s1 σ H1 a b → PoS K f W w1 E (k a s1) → Q b H1) : Po K f W R w σ Q o := by
  cases o with
  | ok a s => exact fun w2 H2 b e2 st r => q a w2 s b H2 e2 st r (h.ext e2)
  | exc x s => exact fun w2 H2 c dd e2 st r => h w2 σ H2 c dd e2 st r
  | no => exact h
/-- a block's statement, then the rest -/
theorem PoS.seq {o : SO} {k : S → SO} (h : PoS K f W w E (o.bind k)) : PoS K f W w { E with nx := tS K W k E } o := by
  cases o with
  | nx s => exact fun w2 σ2 H2 e2 st => ⟨f, w2, s, st, PoS.ext h e2⟩
  | rt d s => exact h
  | bk s => exact h
  | ct s => exact h
  | exc x s => exact h
  | no => exact h
theorem PoS.endsTo {o : SO} (h : PoS K f W w E o) (h1 : ∀ σ H, E.nx σ H → E'.nx σ H) (h2 : ∀ v H, E.rt v H → E'.rt v H) (h3 : ∀ σ H, E.bk σ H → E'.bk σ H) (h4 : ∀ σ H, E.ct σ H → E'.ct σ H) : PoS K f W w E' o := by
  cases o with
  | nx s => exact fun w2 σ2 H2 e2 st => h1 _ _ (h w2 σ2 H2 e2 st)
  | rt d s => exact fun w2 σ2 H2 v e2 st r => h2 _ _ (h w2 σ2 H2 v e2 st r)
  | bk s => exact fun w2 σ2 H2 e2 st => h3 _ _ (h w2 σ2 H2 e2 st)
  | ct s => exact fun w2 σ2 H2 e2 st => h4 _ _ (h w2 σ2 H2 e2 st)
  | exc x s => exact h
  | no => exact h

/-! ### slots stored -/
theorem lt_of_get {i : Nat} {x : SV} (h : s.env[i]? = some x) : i < s.env.length := (List.getElem?_eq_some_iff.mp h).1
theorem StOk.set (st : StOk K f w s σ H) {i : Nat} {x : D} {v : V} (r : Rep K w x v) : StOk K f w (setS i (.d x) s) (σ.set i (some v)) H where
  sub := st.sub
  fr := st.fr
  ff := st.ff
  f0 := st.f0
  bb := st.bb
  bf := st.bf
  len := by simpa [setS] using st.len
  slot := fun j z e => by
    rcases getElem?_set_cases e with ⟨rfl, rfl⟩ | ⟨n, e⟩
    · have hi : i < σ.length := by
        have := lt_of_get (s := setS i (.d x) s) e
        rw [← st.len]
        simpa [setS] using this
      refine ⟨v, ?_, r⟩
      rw [List.getElem?_set_self hi]
      rfl
    · rw [List.getElem?_set_ne n]
      exact st.slot j z e
  bx := st.bx
  dist := fun j k z u q n e1 e2 o1 o2 e7 => by
    rcases getElem?_set_cases e1 with ⟨rfl, rfl⟩ | ⟨n1, e1⟩
    · cases o1
    · rcases getElem?_set_cases e2 with ⟨rfl, rfl⟩ | ⟨n2, e2⟩
      · cases o2
      · rw [List.getElem?_set_ne n1] at e7
        rw [List.getElem?_set_ne n2]
        exact st.dist j k z u q n e1 e2 o1 o2 e7
theorem StOk.setF (st : StOk K f w s σ H) {i : Nat} {xs : List D} {v : V} (r : RF K f w s σ H xs v) : StOk K f w (setS i (.o xs) s) (σ.set i (some v)) H := by
  obtain ⟨p, vs, rfl, h1, h2, h3, h4, h5, h6⟩ := r
  refine ⟨st.sub, st.fr, st.ff, st.f0, st.bb, st.bf, by simpa [setS] using st.len, fun j z e => ?_, st.bx, fun j k z u q n e1 e2 o1 o2 e7 => ?_⟩
  · rcases getElem?_set_cases e with ⟨rfl, rfl⟩ | ⟨n, e⟩
    · have hi : i < σ.length := by
        have := lt_of_get (s := setS i (.o xs) s) e
        rw [← st.len]
        simpa [setS] using this
      refine ⟨p, vs, ?_, h1, h2, h3, h4, h5⟩
      rw [List.getElem?_set_self hi]
      rfl
    · rw [List.getElem?_set_ne n]
      exact st.slot j z e
  · rcases getElem?_set_cases e1 with ⟨rfl, rfl⟩ | ⟨n1, e1⟩
    · have hi : i < σ.length := by
        have := lt_of_get (s := setS i (.o xs) s) e1
        rw [← st.len]
        simpa [setS] using this
      rcases getElem?_set_cases e2 with ⟨rfl, rfl⟩ | ⟨n2, e2⟩
      · exact absurd rfl n
      · rw [List.getElem?_set_self hi] at e7
        cases e7
        rw [List.getElem?_set_ne n2]
        exact h6 k u e2 o2
    · rcases getElem?_set_cases e2 with ⟨rfl, rfl⟩ | ⟨n2, e2⟩
      · have hi : i < σ.length := by
          have := lt_of_get (s := setS i (.o xs) s) e2
          rw [← st.len]
          simpa [setS] using this
        rw [List.getElem?_set_ne n1] at e7
        rw [List.getElem?_set_self hi]
        intro hz
        have hz' : (V.ref p) = V.ref q := Option.some.inj hz
        cases hz'
        exact h6 j z e1 o1 e7
      · rw [List.getElem?_set_ne n1] at e7
        rw [List.getElem?_set_ne n2]
        exact st.dist j k z u q n e1 e2 o1 o2 e7
end

section
variable {X : Cx} {f : Fm} {W : WX} {st st' : Stmt} {sts rest : List Stmt} {pos : Pos} {e c : Expr} {m : M D} {ms mr mt : MS} {t t' : TS}
theorem ps_imp (h : PS X st t) (q : ∀ E σ H, t' E σ H → t E σ H) : PS X st t' := ⟨fun pins s σ H E I hw => h.run pins s σ H E I (q E σ H hw)⟩
theorem pss_imp (h : PSs X sts t) (q : ∀ E σ H, t' E σ H → t E σ H) : PSs X sts t' := ⟨fun pins s σ H E I hw => h.run pins s σ H E I (q E σ H hw)⟩
def sNx : MS := fun s => .nx s
def sSeq (a b : MS) : MS := fun s => (a s).bind b
theorem s_nil : PSs X [] (tS X.K W sNx) := pss_imp pss_nil fun E σ H ⟨f, w, s, st, p⟩ => p w σ H (Ext.refl _) st
theorem s_one (h : PS X st (tS X.K W ms)) : PSs X [st] (tS X.K W ms) := pss_one h
theorem s_cons (h : PS X st (tS X.K W ms)) (g : PSs X rest (tS X.K W mr)) : PSs X (st :: rest) (tS X.K W (sSeq ms mr)) :=
  pss_imp (pss_cons h g) fun E σ H ⟨f, w, s, st, p⟩ => ⟨f, w, s, st, PoS.seq p⟩
theorem s_pass : PS X (.Pass pos) (tS X.K W sNx) := ps_imp ps_pass fun E σ H ⟨f, w, s, st, p⟩ => p w σ H (Ext.refl _) st
theorem s_break : PS X (.Break pos) (tS X.K W fun s => .bk s) := ps_imp ps_break fun E σ H ⟨f, w, s, st, p⟩ => p w σ H (Ext.refl _) st
theorem s_continue : PS X (.Continue pos) (tS X.K W fun s => .ct s) := ps_imp ps_continue fun E σ H ⟨f, w, s, st, p⟩ => p w σ H (Ext.refl _) st
def sDrop (m : M D) : MS := fun s => (m s).toS fun _ s1 => .nx s1
theorem s_expr (he : PE X e (tM X.K W m)) (hs : swapsWith e none pos.line X.env = pure false := by rfl) : PS X (.Expr e pos) (tS X.K W (sDrop m)) := by
  refine ps_imp (ps_expr he hs) fun E σ H ⟨f, w, s, st, p⟩ => ?_
  exact ⟨f, w, s, st, PoS.thn p fun a w1 s1 b H1 e1 st1 r1 p1 => p1 w1 σ H1 (Ext.refl _) st1⟩
def sRet (m : M D) : MS := fun s => (m s).toS fun x s1 => .rt x s1
theorem s_ret (he : PE X e (tM X.K W m)) : PS X (.Return (some e) pos) (tS X.K W (sRet m)) := by
  refine ps_imp (ps_ret he) fun E σ H ⟨f, w, s, st, p⟩ => ?_
  exact ⟨f, w, s, st, PoS.thn p fun a w1 s1 b H1 e1 st1 r1 p1 => p1 w1 σ H1 b (Ext.refl _) st1 r1⟩
theorem s_retN : PS X (.Return none pos) (tS X.K W fun s => .rt .non s) := ps_imp ps_retN fun E σ H ⟨f, w, s, st, p⟩ => p w σ H .non (Ext.refl _) st rfl
def sIf (tc : M Bool) (a b : MS) : MS := fun s => (tc s).toS fun k s1 => if k then a s1 else b s1
theorem s_if {tc : M Bool} {ma mb : MS} {as bs : List Stmt} (hc : PT X c (tT X.K W tc)) (ha : PSs X as (tS X.K W ma)) (hb : PSs X bs (tS X.K W mb)) : PS X (.If c as bs pos) (tS X.K W (sIf tc ma mb)) := by
  refine ps_imp (ps_if hc ha hb) fun E σ H ⟨f, w, s, st, p⟩ => ?_
  refine ⟨f, w, s, st, PoS.thn p fun a w1 s1 b H1 e1 st1 r1 p1 => ?_⟩
  have r1' : b = a := r1
  subst r1'
  cases b with
  | true =>
    rw [if_pos rfl]
    exact ⟨f, w1, s1, st1, p1⟩
  | false =>
    rw [if_neg Bool.false_ne_true]
    exact ⟨f, w1, s1, st1, p1⟩

/-! ### stores -/
def sSet (i : Nat) (m : M D) : MS := fun s => (m s).toS fun x s1 => .nx (setS i (.d x) s1)
theorem s_set {i : Nat} {x : Str} {pos' : Pos} (hN : X.N.Nodup) (hi : X.N[i]? = some x) (hx : Loc X.env.scope x) (he : PE X e (tM X.K W m)) (hs : swapsWith e (some (.Name x pos')) pos.line X.env = pure false := by rfl)
    (hf : X.fn x = true ∨ X.env.scope.names.lookup x = some .local := by first | exact .inl rfl | exact .inr rfl | assumption) : PS X (.Assign [.Name x pos'] e pos) (tS X.K W (sSet i m)) := by
  refine ps_imp (ps_set hN hi hx he hs hf) fun E σ H ⟨f, w, s, st, p⟩ => ?_
  exact ⟨f, w, s, st, PoS.thn p fun a w1 s1 b H1 e1 st1 r1 p1 => p1 w1 _ H1 (Ext.refl _) (st1.set r1)⟩
/-- a new list becomes the name's own -/
def sSetF (i : Nat) (m : M (List D)) : MS := fun s => (m s).toS fun xs s1 => .nx (setS i (.o xs) s1)
theorem s_setF {i : Nat} {x : Str} {pos' : Pos} {m : M (List D)} (hN : X.N.Nodup) (hi : X.N[i]? = some x) (hx : Loc X.env.scope x) (he : PE X e (tF X.K W m)) (hs : swapsWith e (some (.Name x pos')) pos.line X.env = pure false := by rfl)
    (hf : X.fn x = true ∨ X.env.scope.names.lookup x = some .local := by first | exact .inl rfl | exact .inr rfl | assumption) : PS X (.Assign [.Name x pos'] e pos) (tS X.K W (sSetF i m)) := by
  refine ps_imp (ps_set hN hi hx he hs hf) fun E σ H ⟨f, w, s, st, p⟩ => ?_
  exact ⟨f, w, s, st, PoS.thn p fun a w1 s1 b H1 e1 st1 r1 p1 => p1 w1 _ H1 (Ext.refl _) (st1.setF r1)⟩

/-! ### targets -/
/-- the slots as they were, but those of ts -/
def Off (ts : List Nat) (σ σ' : L2.St) : Prop := σ'.length = σ.length ∧ ∀ (j : Nat), j ∉ ts → σ'[j]? = σ[j]?
def tTg (K : PySem.W.Frag) (ts : List Nat) (g : D → S → Option S) : TG := fun v σ H Q => ∃ f w s d s', StOk K f w s σ H ∧ Rep K w d v ∧ g d s = some s' ∧ ∀ σ', Off ts σ σ' → StOk K f w s' σ' H → Q σ' H
def tTgs (K : PySem.W.Frag) (ts : List Nat) (g : List D → S → Option S) : TGs := fun vs σ H Q => ∃ f w s ds s', StOk K f w s σ H ∧ RepAll K w ds vs ∧ g ds s = some s' ∧ ∀ σ', Off ts σ σ' → StOk K f w s' σ' H → Q σ' H
theorem Off.refl (ts : List Nat) (σ : L2.St) : Off ts σ σ := ⟨rfl, fun _ _ => rfl⟩
theorem Off.one {i : Nat} {x : Option V} (σ : L2.St) : Off [i] σ (σ.set i x) := ⟨by simp, fun j h => List.getElem?_set_ne (fun e => h (by simp [e]))⟩
theorem Off.app {t u : List Nat} {a b c : L2.St} (h : Off t a b) (g : Off u b c) : Off (t ++ u) a c := ⟨g.1.trans h.1, fun j n => (g.2 j fun m => n (List.mem_append_right _ m)).trans (h.2 j fun m => n (List.mem_append_left _ m))⟩
def gN (i : Nat) : D → S → Option S := fun d s => some (setS i (.d d) s)
def gNil' : List D → S → Option S := fun ds s => match ds with
  | [] => some s
  | _ => none
def gCons' (g : D → S → Option S) (h : List D → S → Option S) : List D → S → Option S := fun ds s => match ds with
  | d :: r => (g d s).bind (h r)
  | [] => none
def gT (n : Nat) (h : List D → S → Option S) : D → S → Option S := fun d s => match d with
  | .tup ds => if ds.length = n then h ds s else none
  | _ => none
theorem pg_imp {tg : Expr} {g g' : TG} (h : PG X tg g) (q : ∀ v σ H Q, g' v σ H Q → g v σ H Q) : PG X tg g' := ⟨fun pins s σ H v u Q I r hw => h.run pins s σ H v u Q I r (q v σ H Q hw)⟩
theorem pgs_imp {tg : List Expr} {g g' : TGs} (h : PGs X tg g) (q : ∀ v σ H Q, g' v σ H Q → g v σ H Q) : PGs X tg g' := ⟨fun pins s σ H v u Q I r hw => h.run pins s σ H v u Q I r (q v σ H Q hw)⟩
theorem g_name {i : Nat} {x : Str} (hN : X.N.Nodup) (hi : X.N[i]? = some x) (hx : Loc X.env.scope x) (hf : X.fn x = true ∨ X.env.scope.names.lookup x = some .local := by first | exact .inl rfl | exact .inr rfl | assumption) :
    PG X (.Name x pos) (tTg X.K [i] (gN i)) := by
  refine pg_imp (pg_name hN hi hx hf) fun v σ H Q ⟨f, w, s, d, s', st, r, e, q⟩ => ?_
  cases e
  exact q _ (Off.one σ) (st.set r)
theorem g_nil : PGs X [] (tTgs X.K [] gNil') := by
  refine pgs_imp pgs_nil fun v σ H Q ⟨f, w, s, d, s', st, r, e, q⟩ => ?_
  cases d with
  | nil =>
    cases e
    exact ⟨r, q _ (Off.refl _ σ) st⟩
  | cons _ _ => cases e
theorem g_cons {tg : Expr} {tgs : List Expr} {g : D → S → Option S} {h : List D → S → Option S} {t1 t2 : List Nat} (h1 : PG X tg (tTg X.K t1 g)) (h2 : PGs X tgs (tTgs X.K t2 h)) (hs : (assignEach (tg :: tgs) X.env).map (·.2) = assign tg X.env :: (assignEach tgs X.env).map (·.2) := by rfl) :
    PGs X (tg :: tgs) (tTgs X.K (t1 ++ t2) (gCons' g h)) := by
  refine pgs_imp (pgs_cons h1 h2 hs) fun v σ H Q ⟨f, w, s, d, s', st, r, e, q⟩ => ?_
  cases d with
  | nil => cases e
  | cons d ds =>
    obtain ⟨x, xs, e1, e2, e3⟩ := r
    cases e4 : g d s with
    | none =>
      have e' : (g d s).bind (h ds) = some s' := e
      rw [e4] at e'
      cases e'
    | some s1 =>
      have e' : (g d s).bind (h ds) = some s' := e
      rw [e4] at e'
      exact ⟨x, xs, e1, f, w, s, d, s1, st, e2, e4, fun σ1 o1 st1 => ⟨f, w, s1, ds, s', st1, e3, e', fun σ2 o2 st2 => q σ2 (Off.app o1 o2) st2⟩⟩
theorem g_tup {es : List Expr} {k : Nat} {n : Nat} {h : List D → S → Option S} {ts : List Nat} (hc : X.calm = true) (hg : PGs X es (tTgs X.K ts h))
    (hn : (assignEach es X.env).length = n := by rfl) (hst : (assignEach es X.env).findIdx? (·.1) = none := by rfl) : PG X (.Tuple es k pos) (tTg X.K ts (gT n h)) := by
  refine pg_imp (pg_tup hc hg hn hst) fun v σ H Q ⟨f, w, s, d, s', st, r, e, q⟩ => ?_
  cases d with
  | tup ds =>
    have e' : (if ds.length = n then h ds s else none) = some s' := e
    split at e'
    · rename_i hl
      obtain ⟨a, vs, rfl, h2, h3⟩ := r
      exact ⟨a, vs, rfl, st.tup h2, by rw [h3.length]; exact hl, f, w, s, ds, s', st, h3, e', q⟩
    · cases e'
  | _ => cases e
/-- target = value -/
def sAsg (g : D → S → Option S) (m : M D) : MS := fun s => (m s).toS fun x s1 => match g x s1 with
  | some s2 => .nx s2
  | none => .no
theorem s_asg {tg : Expr} {g : D → S → Option S} {ts : List Nat} (he : PE X e (tM X.K W m)) (hg : PG X tg (tTg X.K ts g)) (hs : swapsWithSole [tg] e pos.line X.env = pure false := by rfl) (hw : swappedStores [tg] e X.env = pure none := by rfl)
    (h1 : (assignEach [tg] X.env).map (·.2) = [assign tg X.env] := by rfl) : PS X (.Assign [tg] e pos) (tS X.K W (sAsg g m)) := by
  refine ps_imp (ps_asg he hg hs hw h1) fun E σ H ⟨f, w, s, st, p⟩ => ?_
  refine ⟨f, w, s, st, PoS.thn p fun a w1 s1 b H1 e1 st1 r1 p1 => ?_⟩
  cases eg : g a s1 with
  | none => rw [eg] at p1; exact p1.elim
  | some s2 =>
    rw [eg] at p1
    exact ⟨f, w1, s1, a, s2, st1, r1, eg, fun σ' _ st' => p1 w1 σ' H1 (Ext.refl _) st'⟩
/-- a, b = x, y of plain local names -/
def sPar (i j : Nat) (ma mb : M D) : MS := fun s => (ma s).toS fun x s1 => (mb s1).toS fun y s2 => .nx (setS j (.d y) (setS i (.d x) s2))
theorem s_par {i j : Nat} {x y : Str} {a b : Expr} {ma mb : M D} {px py pt : Pos} {kt k2 pt2} (hc : X.calm = true) (hN : X.N.Nodup) (hi : X.N[i]? = some x) (hj : X.N[j]? = some y) (hij : i ≠ j)
    (hx : X.env.scope.names.lookup x = some .local) (hy : X.env.scope.names.lookup y = some .local) (ha : PE X a (tM X.K W ma)) (hb : PE X b (tM X.K W mb))
    (hw : swappedStores [.Tuple [.Name x px, .Name y py] kt pt] (.Tuple [a, b] k2 pt2) X.env = pure (some [x, y]) := by rfl)
    (hs : swapsWithSole [.Tuple [.Name x px, .Name y py] kt pt] (.Tuple [a, b] k2 pt2) pos.line X.env = pure false := by rfl)
    (n1 : starEach [a, b] X.env = (false, eval a X.env) :: starEach [b] X.env := by rfl) (n2 : starEach [b] X.env = (false, eval b X.env) :: starEach [] X.env := by rfl) :
    PS X (.Assign [.Tuple [.Name x px, .Name y py] kt pt] (.Tuple [a, b] k2 pt2) pos) (tS X.K W (sPar i j ma mb)) := by
  refine ps_imp (ps_par hc hN hi hj hij hx hy (pa_cons ha (pa_cons hb pa_nil n2) n1) hw hs) fun E σ H ⟨f, w, s, st, p⟩ => ?_
  refine ⟨f, w, s, st, PoS.thn p fun x w1 s1 v H1 e1 st1 r1 p1 => ⟨f, w1, s1, st1, PoS.thn p1 fun y w2 s2 u H2 e2 st2 r2 p2 => ?_⟩⟩
  exact ⟨v, u, rfl, p2 w2 _ H2 (Ext.refl _) ((st2.set (Rep.mono e2 r1)).set r2)⟩
/-- name op= e -/
def sAug (i : Nat) (g : D → D → Option D) (m : M D) : MS := fun s => match getS i s with
  | .d x => (m s).toS fun y s1 => match g x y with
    | some z => .nx (setS i (.d z) s1)
    | none => .no
  | _ => .no
theorem s_aug {i : Nat} {x : Str} {op : Operator} {ti : TIp} {g : D → D → Option D} {pos' : Pos} (hN : X.N.Nodup) (hi : X.N[i]? = some x) (hx : Loc X.env.scope x) (he : PE X e (tM X.K W m)) (ho : PIp X op ti) (hr : R2Ok X.K ti g)
    (hf : X.fn x = true ∨ X.env.scope.names.lookup x = some .local := by first | exact .inl rfl | exact .inr rfl | assumption) : PS X (.AugAssign (.Name x pos') op e pos) (tS X.K W (sAug i g m)) := by
  refine ps_imp (ps_aug hN hi hx he ho hf) fun E σ H ⟨f, w, s, st, p⟩ => ?_
  unfold sAug at p
  cases eg : getS i s with
  | d x =>
    rw [eg] at p
    obtain ⟨u, e1, e2⟩ := st.slot i _ (getS_some eg (fun z => nomatch z))
    refine ⟨u, join_some e1, f, w, s, st, PoS.thn p fun y w1 s1 v H1 x1 st1 r1 p1 => ?_⟩
    cases ez : g x y with
    | none => rw [ez] at p1; exact p1.elim
    | some z =>
      rw [ez] at p1
      exact hr f w1 s1 σ H1 x y z u v _ st1 (Rep.mono x1 e2) r1 ez fun w' H' t e' st' rt => p1 w' _ H' e' (st'.set rt)
  | no => rw [eg] at p; exact p.elim
  | o _ => rw [eg] at p; exact p.elim
  | bx => rw [eg] at p; exact p.elim
  | ok _ => rw [eg] at p; exact p.elim
  | ot _ => rw [eg] at p; exact p.elim
theorem ip_addA : PIp X .Add (fun x y H Q => rI0 (fun i j => .int (i + j)) x y H Q ∨ ∃ i j, x = .str i ∧ y = .str j ∧ i.length + j.length ≤ sizeLine ∧ Q (.str (i ++ j)) H) := iop_add.or iop_add_str
def dIadd (x y : D) : Option D := match x, y with
  | .int i, .int j => some (.int (i + j))
  | .str a, .str b => if a.length + b.length ≤ sizeLine then some (.str (a ++ b)) else none
  | _, _ => none
theorem iadd_ok {K : PySem.W.Frag} : R2Ok K (fun x y H Q => rI0 (fun i j => .int (i + j)) x y H Q ∨ ∃ i j, x = .str i ∧ y = .str j ∧ i.length + j.length ≤ sizeLine ∧ Q (.str (i ++ j)) H) dIadd := by
  intro f w s σ H x y z v u Q st rv ru ez q
  unfold dIadd at ez
  split at ez
  · cases ez
    exact .inl ⟨_, _, rv, ru, q w H _ (Ext.refl w) st rfl⟩
  · split at ez
    · cases ez
      rename_i hz
      exact .inr ⟨_, _, rv, ru, hz, q w H _ (Ext.refl w) st rfl⟩
    · cases ez
  · cases ez
end
end Pv
end PvG_

section PvH_
set_option Elab.async false
set_option linter.all false
set_option maxRecDepth 100000
set_option maxHeartbeats 4000000
namespace Pv
open PySem PySem.Spec PyProof.Rows L2

/-! ### what is walked: its items -/
/-- at each turn the item as it stands, or a new pair of two that stand -/
structure Wk (K : PySem.W.Frag) (w : Wd) (J : It) (ds : List D) : Prop where
  ex : ∃ (G : Hp → Prop) (Y : Nat → Hp → V → Hp → Prop), Walk J ds.length G Y ∧ (∀ H, Same w.F H → G H) ∧
    ∀ i H x H1 d, Y i H x H1 → ds[i]? = some d → (H1 = H ∧ Rep K w d x) ∨ ∃ T ys as, x = .ref T ∧ H T = none ∧ H1 = upd H T (.tup ys) ∧ d = .tup as ∧ RepAll K w as ys
abbrev RI (K : PySem.W.Frag) : Fm → Wd → S → L2.St → Hp → List D → It → Prop := fun _ w _ _ _ ds J => Wk K w J ds
abbrev tI (K : PySem.W.Frag) (W : WX) (m : M (List D)) : TI := tG K W (RI K) m

section
variable {X : Cx} {tg e : Expr} {t t' : TI} {W : WX} {m : M D}
theorem pi_imp (h : PI X tg e t) (q : ∀ σ H R, t' σ H R → t σ H R) : PI X tg e t' := ⟨fun pins s σ H R I hw => h.run pins s σ H R I (q σ H R hw)⟩
theorem pi_or (h : PI X tg e t) (h' : PI X tg e t') : PI X tg e (fun σ H R => t σ H R ∨ t' σ H R) := ⟨fun pins s σ H R I hw => hw.elim (h.run pins s σ H R I) (h'.run pins s σ H R I)⟩
theorem wk_seq {K : PySem.W.Frag} {w : Wd} {J : It} {ds : List D} {vs : List V} {G : Hp → Prop} (r : RepAll K w ds vs) (h : Walk J vs.length G (YAt vs)) (g : ∀ H, Same w.F H → G H) : Wk K w J ds := by
  rw [r.length] at h
  refine ⟨G, _, h, g, fun i H x H1 d y e => .inl ⟨y.1, ?_⟩⟩
  obtain ⟨v, e1, e2⟩ := r.get e
  have e3 := y.2
  rw [e1] at e3
  cases e3
  exact e2
/-- a list, a tuple, a text -/
def iSeq (m : M D) : M (List D) := fun s => (m s).bind fun d s1 => match d with
  | .tup ds => .ok ds s1
  | .lst ds => .ok ds s1
  | .str x => .ok (x.cps.toList.map fun c => .str ⟨#[c]⟩) s1
  | _ => .no
theorem wk_str {K : PySem.W.Frag} {w : Wd} {x : Str} : Wk K w (Its x) (x.cps.toList.map fun c => D.str ⟨#[c]⟩) := by
  have wl : Walk (Its x) (x.cps.toList.map fun c => D.str ⟨#[c]⟩).length (fun _ => True) (fun i H v H' => H' = H ∧ ∃ c, x.cps[i]? = some c ∧ v = .str ⟨#[c]⟩) := by
    rw [List.length_map, Array.length_toList]
    exact walk_str
  refine ⟨_, _, wl, fun _ _ => trivial, fun i H v H1 d y e => .inl ⟨y.1, ?_⟩⟩
  obtain ⟨c, e1, e2⟩ := y.2
  rw [List.getElem?_map, Array.getElem?_toList, e1] at e
  cases e
  exact e2
theorem i_seq (h : PE X e (tM X.K W m)) : PI X tg e (tI X.K W (iSeq m)) := by
  refine pi_imp (pi_or (pi_list h) (pi_or (pi_tup h) (pi_str h))) fun σ H R ⟨f, w, s, st, p⟩ => ?_
  unfold iSeq at p
  have go : ∀ {q : V → Hp → Prop}, (∀ d s1, m s = .ok d s1 → ∀ w1 H1 v, Ext w w1 → StOk X.K f w1 s1 σ H1 → Rep X.K w1 d v → Po X.K f W (RI X.K) w1 σ R (match d with
      | .tup ds => .ok ds s1
      | .lst ds => .ok ds s1
      | .str x => .ok (x.cps.toList.map fun c => .str ⟨#[c]⟩) s1
      | _ => .no) → q v H1) → tM X.K W m σ H q := by
    intro q hq
    refine ⟨f, w, s, st, ?_⟩
    cases e1 : m s with
    | no => rw [e1] at p; exact p.elim
    | exc x s1 => rw [e1] at p; exact p
    | ok d s1 =>
      rw [e1] at p
      exact fun w1 H1 v x1 st1 r1 => hq d s1 e1 w1 H1 v x1 st1 r1 (Po.ext p x1)
  cases e1 : m s with
  | no => rw [e1] at p; exact p.elim
  | exc x s1 =>
    refine .inl (go fun d s2 e2 => ?_)
    rw [e1] at e2
    cases e2
  | ok d s1 =>
    cases d with
    | tup ds =>
      refine .inr (.inl (go fun d s2 e2 w1 H1 v x1 st1 r1 p1 => ?_))
      rw [e1] at e2
      cases e2
      obtain ⟨a, vs, h1, h2, h3⟩ := r1
      exact ⟨a, h1, ⟨vs, st1.tup h2⟩, p1 w1 H1 _ (Ext.refl _) st1 (wk_seq h3 walk_tup fun H q => same_seqT q h2)⟩
    | lst ds =>
      refine .inl (go fun d s2 e2 w1 H1 v x1 st1 r1 p1 => ?_)
      rw [e1] at e2
      cases e2
      obtain ⟨a, vs, h1, h2, h3⟩ := r1
      exact ⟨a, h1, ⟨vs, SqL.of (st1.sub _ _ h2)⟩, p1 w1 H1 _ (Ext.refl _) st1 (wk_seq h3 walk_list fun H q => SqL.of (q _ _ h2))⟩
    | str x =>
      refine .inr (.inr (go fun d s2 e2 w1 H1 v x1 st1 r1 p1 => ?_))
      rw [e1] at e2
      cases e2
      exact ⟨x, r1, p1 w1 H1 _ (Ext.refl _) st1 wk_str⟩
    | _ => rw [e1] at p; exact p.elim

/-! ### ranges -/
def rgD (a : Int) (n : Nat) : List D := (List.range n).map fun i => .int (a + (i : Nat))
theorem wk_range {K : PySem.W.Frag} {w : Wd} {a : Int} {n : Nat} : Wk K w (Itr a n) (rgD a n) := by
  have hl : (rgD a n).length = n := by unfold rgD; rw [List.length_map, List.length_range]
  have wl : Walk (Itr a n) (rgD a n).length (fun _ => True) (YFn fun i => .int (a + i)) := by
    rw [hl]
    exact walk_range
  refine ⟨_, _, wl, fun _ _ => trivial, fun i H v H1 d y e => .inl ⟨y.1, ?_⟩⟩
  have hi : i < n := by
    have := (List.getElem?_eq_some_iff.mp e).1
    rw [hl] at this
    exact this
  unfold rgD at e
  rw [List.getElem?_map, List.getElem?_range hi] at e
  cases e
  exact y.2
def iRg1 (m : M D) : M (List D) := fun s => (m s).bind fun x s1 => match x with
  | .int j => if -(2 ^ 62) ≤ j ∧ j < 2 ^ 62 then .ok (rgD 0 j.toNat) s1 else .no
  | _ => .no
def iRg2 (m m' : M D) : M (List D) := fun s => (m s).bind fun x s1 => (m' s1).bind fun y s2 => match x, y with
  | .int i, .int j => if -(2 ^ 62) ≤ i ∧ i < 2 ^ 62 ∧ -(2 ^ 62) ≤ j ∧ j < 2 ^ 62 then .ok (rgD i (j - i).toNat) s2 else .no
  | _, _ => .no
theorem i_rg1 {a : Expr} {p pos : Pos} (hg : Gl X "range") (hm : X.mg "range" = none) (ha : PE X a (tM X.K W m)) (hs : starEach [a] X.env = [(false, eval a X.env)] := by rfl) : PI X tg (.Call (.Name "range" p) [a] [] pos) (tI X.K W (iRg1 m)) := by
  refine pi_imp (pi_range1 hg hm (pa_cons ha pa_nil hs) hs) fun σ H R ⟨f, w, s, st, p⟩ => ?_
  refine ⟨f, w, s, st, Po.thn p fun x w1 s1 v H1 e1 st1 r1 p1 => ?_⟩
  cases x with
  | int j =>
    have p1' : Po X.K f W (RI X.K) w1 σ R (if -(2 ^ 62) ≤ j ∧ j < 2 ^ 62 then .ok (rgD 0 j.toNat) s1 else .no) := p1
    split at p1'
    · rename_i hb
      exact ⟨j, by rw [show v = .int j from r1], hb.1, hb.2, p1' w1 H1 _ (Ext.refl _) st1 wk_range⟩
    · exact p1'.elim
  | _ => exact p1.elim
theorem i_rg2 {a b : Expr} {m' : M D} {p pos : Pos} (hg : Gl X "range") (hm : X.mg "range" = none) (ha : PE X a (tM X.K W m)) (hb : PE X b (tM X.K W m')) (hs : starEach [a, b] X.env = [(false, eval a X.env), (false, eval b X.env)] := by rfl) (hs2 : starEach [b] X.env = [(false, eval b X.env)] := by rfl) :
    PI X tg (.Call (.Name "range" p) [a, b] [] pos) (tI X.K W (iRg2 m m')) := by
  refine pi_imp (pi_range2 hg hm (pa_cons ha (pa_cons hb pa_nil hs2) (by rw [hs, hs2])) hs hs2) fun σ H R ⟨f, w, s, st, p⟩ => ?_
  refine ⟨f, w, s, st, Po.thn p fun x w1 s1 v H1 e1 st1 r1 p1 => ⟨f, w1, s1, st1, Po.thn p1 fun y w2 s2 u H2 e2 st2 r2 p2 => ?_⟩⟩
  cases x with
  | int i =>
    cases y with
    | int j =>
      have p2' : Po X.K f W (RI X.K) w2 σ R (if -(2 ^ 62) ≤ i ∧ i < 2 ^ 62 ∧ -(2 ^ 62) ≤ j ∧ j < 2 ^ 62 then .ok (rgD i (j - i).toNat) s2 else .no) := p2
      split at p2'
      · rename_i hb
        exact ⟨i, j, by rw [show v = .int i from r1, show u = .int j from r2], hb, p2' w2 H2 _ (Ext.refl _) st2 wk_range⟩
      · exact p2'.elim
    | _ => exact p2.elim
  | _ => exact p2.elim

/-! ### while, for -/
def sWhile (tc : M Bool) (b : MS) : Nat → MS
  | 0, _ => .no
  | n + 1, s => (tc s).toS fun k s1 => if k then (match b s1 with
      | .nx s2 => sWhile tc b n s2
      | .ct s2 => sWhile tc b n s2
      | .bk s2 => .nx s2
      | o => o) else .nx s1
theorem s_while {c : Expr} {body : List Stmt} {pos : Pos} {tc : M Bool} {mb : MS} (n : Nat) (hp : PassesOwn (model X.prog X.w) X.A X.env X.xe) (hc : PT X c (tT X.K W tc)) (hb : PSs X body (tS X.K W mb)) : PS X (.While c body [] pos) (tS X.K W (sWhile tc mb n)) := by
  refine ps_imp (ps_while hp hc hb) fun E σ H ⟨f, w, s, st, p⟩ => ?_
  refine ⟨fun m σ H => ∃ f w s, StOk X.K f w s σ H ∧ PoS X.K f W w E (sWhile tc mb m s), ⟨n, f, w, s, st, p⟩, ?_⟩
  rintro m σ1 H1 ⟨f, w, s, st, p⟩
  cases m with
  | zero => exact p.elim
  | succ m =>
    refine ⟨f, w, s, st, PoS.thn (R := RB) p fun a w1 s1 b H2 e1 st1 r1 p1 => ?_⟩
    have r1' : b = a := r1
    subst r1'
    cases b with
    | false =>
      rw [if_neg Bool.false_ne_true]
      exact p1 w1 σ1 H2 (Ext.refl _) st1
    | true =>
      rw [if_pos rfl]
      refine ⟨fun σ H => ∃ f w s, StOk X.K f w s σ H ∧ PoS X.K f W w E (sWhile tc mb m s), fun σ' H' q => ⟨m, Nat.lt_succ_self m, q⟩, f, w1, s1, st1, ?_⟩
      have p1' : PoS X.K f W w1 E (match mb s1 with
        | .nx s2 => sWhile tc mb m s2
        | .ct s2 => sWhile tc mb m s2
        | .bk s2 => .nx s2
        | o => o) := p1
      cases eb : mb s1 with
      | nx s2 => rw [eb] at p1'; exact fun w' σ' H' e' st' => ⟨f, w', s2, st', PoS.ext p1' e'⟩
      | ct s2 => rw [eb] at p1'; exact fun w' σ' H' e' st' => ⟨f, w', s2, st', PoS.ext p1' e'⟩
      | bk s2 => rw [eb] at p1'; exact p1'
      | rt d s2 => rw [eb] at p1'; exact p1'
      | exc x s2 => rw [eb] at p1'; exact p1'
      | no => rw [eb] at p1'; exact p1'
def sForL (g : D → S → Option S) (b : MS) : List D → MS
  | [], s => .nx s
  | d :: r, s => match g d s with
    | none => .no
    | some s1 => match b s1 with
      | .nx s2 => sForL g b r s2
      | .ct s2 => sForL g b r s2
      | .bk s2 => .nx s2
      | o => o
def sFor (mi : M (List D)) (g : D → S → Option S) (b : MS) : MS := fun s => (mi s).toS fun ds s1 => sForL g b ds s1
theorem s_for {iter : Expr} {body : List Stmt} {pos : Pos} {mi : M (List D)} {g : D → S → Option S} {ts : List Nat} {mb : MS} (hp : PassesOwn (model X.prog X.w) X.A X.env X.xe) (hc : X.calm = true) (hi : PI X tg iter (tI X.K W mi)) (hg : PG X tg (tTg X.K ts g)) (hb : PSs X body (tS X.K W mb))
    (hs : ∀ x, foldedSetIterable iter X.env x = pure x := by intro _; rfl) : PS X (.For tg iter body [] pos) (tS X.K W (sFor mi g mb)) := by
  refine ps_imp (ps_for hp hc hi hg hb hs) fun E σ H ⟨f, w, s, st, p⟩ => ?_
  refine ⟨f, w, s, st, PoS.thn p fun ds w1 s1 J H1 e1 st1 r1 p1 => ?_⟩
  obtain ⟨G, Y, wk, hG, hY⟩ := r1.ex
  refine for_it wk (fun i σ H => ∃ w2 s2, Ext w1 w2 ∧ StOk X.K f w2 s2 σ H ∧ PoS X.K f W w2 E (sForL g mb (ds.drop i) s2)) ⟨w1, s1, Ext.refl _, st1, by simpa using p1⟩ ?_ ?_ ?_
  · rintro i σ H _ ⟨w2, s2, x2, st2, _⟩
    exact hG H (x2.same.trans st2.sub)
  · rintro i x σ2 H2 H3 hi ⟨w2, s2, x2, st2, p2⟩ y
    have hd : ds[i]? = some ds[i] := by simp [hi]
    have e2 : ds.drop i = ds[i] :: ds.drop (i + 1) := by rw [List.drop_eq_getElem_cons hi]
    rw [e2] at p2
    -- the item stands
    have it : ∃ w3, Ext w2 w3 ∧ StOk X.K f w3 s2 σ2 H3 ∧ Rep X.K w3 ds[i] x := by
      rcases hY i H2 x H3 _ y hd with ⟨rfl, r⟩ | ⟨T, ys, as, rfl, hT, rfl, h4, h5⟩
      · exact ⟨w2, Ext.refl _, st2, Rep.mono x2 r⟩
      · have e3 := ext_put (w := w2) (o := .tup ys) (st2.freshF hT)
        refine ⟨_, e3, st2.put hT, ?_⟩
        rw [h4]
        exact ⟨T, ys, rfl, .inl (.inl Wd.put_at), RepAll.mono (x2.trans e3) h5⟩
    obtain ⟨w3, x3, st3, r3⟩ := it
    have p3 : PoS X.K f W w3 E (match g ds[i] s2 with
      | none => .no
      | some s1 => match mb s1 with
        | .nx s2 => sForL g mb (ds.drop (i + 1)) s2
        | .ct s2 => sForL g mb (ds.drop (i + 1)) s2
        | .bk s2 => .nx s2
        | o => o) := PoS.ext p2 x3
    cases eg : g ds[i] s2 with
    | none => rw [eg] at p3; exact p3.elim
    | some s3 =>
      rw [eg] at p3
      refine ⟨f, w3, s2, ds[i], s3, st3, r3, eg, fun σ4 _ st4 => ⟨f, w3, s3, st4, ?_⟩⟩
      have p4 : PoS X.K f W w3 E (match mb s3 with
        | .nx s2 => sForL g mb (ds.drop (i + 1)) s2
        | .ct s2 => sForL g mb (ds.drop (i + 1)) s2
        | .bk s2 => .nx s2
        | o => o) := p3
      cases eb : mb s3 with
      | nx s4 => rw [eb] at p4; exact fun w' σ' H' e' st' => ⟨w', s4, (x2.trans x3).trans e', st', PoS.ext p4 e'⟩
      | ct s4 => rw [eb] at p4; exact fun w' σ' H' e' st' => ⟨w', s4, (x2.trans x3).trans e', st', PoS.ext p4 e'⟩
      | bk s4 => rw [eb] at p4; exact p4
      | rt d s4 => rw [eb] at p4; exact p4
      | exc x s4 => rw [eb] at p4; exact p4
      | no => rw [eb] at p4; exact p4
  · rintro σ2 H2 ⟨w2, s2, x2, st2, p2⟩
    rw [List.drop_length] at p2
    exact p2 w2 σ2 H2 (Ext.refl _) st2
end
end Pv
end PvH_

section PvI_
set_option Elab.async false
set_option linter.all false
set_option maxRecDepth 100000
set_option maxHeartbeats 4000000
namespace Pv
open PySem PySem.Spec PyProof.Rows L2

/-! ### comprehensions -/
def wipeE (vs : List Nat) (e : List SV) : List SV := vs.foldr (fun i e => e.set i .no) e
def wipeS (vs : List Nat) (s : S) : S := { s with env := wipeE vs s.env }
/-- the slots of vs as they were in e0 -/
def backE (vs : List Nat) (e0 e : List SV) : List SV := vs.foldr (fun i e => e.set i (e0.getD i .no)) e
def sCompL (g : D → S → Option S) (tt : M Bool) (me : M D) (vs : List Nat) : List D → List D → M (List D)
  | [], acc, s => .ok acc s
  | d :: r, acc, s => match g d (wipeS vs s) with
    | none => .no
    | some s1 => match tt s1 with
      | .ok false s2 => sCompL g tt me vs r acc s2
      | .ok true s2 => (match me s2 with
        | .ok x s3 => if acc.length < sizeLine then sCompL g tt me vs r (acc ++ [x]) s3 else .no
        | _ => .no)
      | _ => .no
def mComp (mi : M (List D)) (g : D → S → Option S) (tt : M Bool) (me : M D) (vs : List Nat) : M (List D) := fun s => (mi s).bind fun ds s1 =>
  if vs.all (fun i => !(getS i s1).own) = true then (sCompL g tt me vs ds [] s1).bind fun xs s2 => .ok xs { s2 with env := backE vs s1.env s2.env } else .no
theorem wipeE_get {e : List SV} : ∀ {vs : List Nat} {j : Nat} {x : SV}, (wipeE vs e)[j]? = some x → (j ∈ vs ∧ x = .no) ∨ (j ∉ vs ∧ e[j]? = some x)
  | [], j, x, h => .inr ⟨by simp, h⟩
  | v :: vs, j, x, h => by
    rcases getElem?_set_cases (show ((wipeE vs e).set v .no)[j]? = some x from h) with ⟨rfl, rfl⟩ | ⟨n, h⟩
    · exact .inl ⟨by simp, rfl⟩
    · rcases wipeE_get h with ⟨h1, h2⟩ | ⟨h1, h2⟩
      · exact .inl ⟨by simp [h1], h2⟩
      · exact .inr ⟨by simp only [List.mem_cons, not_or]; exact ⟨fun z => n z.symm, h1⟩, h2⟩
theorem wipeE_length {e : List SV} : ∀ {vs : List Nat}, (wipeE vs e).length = e.length
  | [] => rfl
  | v :: vs => by
    show ((wipeE vs e).set v .no).length = _
    rw [List.length_set, wipeE_length]
theorem backE_get {e0 e : List SV} : ∀ {vs : List Nat} {j : Nat} {x : SV}, (backE vs e0 e)[j]? = some x → (j ∈ vs ∧ x = e0.getD j .no) ∨ (j ∉ vs ∧ e[j]? = some x)
  | [], j, x, h => .inr ⟨by simp, h⟩
  | v :: vs, j, x, h => by
    rcases getElem?_set_cases (show ((backE vs e0 e).set v (e0.getD v .no))[j]? = some x from h) with ⟨rfl, rfl⟩ | ⟨n, h⟩
    · exact .inl ⟨by simp, rfl⟩
    · rcases backE_get h with ⟨h1, h2⟩ | ⟨h1, h2⟩
      · exact .inl ⟨by simp [h1], h2⟩
      · exact .inr ⟨by simp only [List.mem_cons, not_or]; exact ⟨fun z => n z.symm, h1⟩, h2⟩
theorem backE_length {e0 e : List SV} : ∀ {vs : List Nat}, (backE vs e0 e).length = e.length
  | [] => rfl
  | v :: vs => by
    show ((backE vs e0 e).set v _).length = _
    rw [List.length_set, backE_length]
theorem wipe_at {σ : L2.St} {i : Nat} : ∀ {vs : List Nat}, i ∈ vs → (wipe σ vs)[i]?.join = none
  | v :: vs, h => by
    show ((wipe σ vs).set v none)[i]?.join = none
    by_cases e : v = i
    · subst e
      rw [List.getElem?_set]
      split
      · split <;> rfl
      · contradiction
    · rw [List.getElem?_set_ne e]
      exact wipe_at ((List.mem_cons.mp h).resolve_left fun z => e z.symm)
theorem wipe_off {σ σ' : L2.St} {vs : List Nat} (o : Off vs σ σ') : wipe σ' vs = wipe σ vs := by
  apply List.ext_getElem?
  intro j
  by_cases h : j ∈ vs
  · have h1 := wipe_at (σ := σ) h
    have h2 := wipe_at (σ := σ') h
    by_cases l : j < σ.length
    · have e1 : j < (wipe σ vs).length := by rw [wipe_length]; exact l
      have e2 : j < (wipe σ' vs).length := by rw [wipe_length, o.1]; exact l
      rw [List.getElem?_eq_getElem e1] at h1 ⊢
      rw [List.getElem?_eq_getElem e2] at h2 ⊢
      have h1' : (wipe σ vs)[j] = none := h1
      have h2' : (wipe σ' vs)[j] = none := h2
      rw [h1', h2']
    · rw [List.getElem?_eq_none (by rw [wipe_length, o.1]; omega), List.getElem?_eq_none (by rw [wipe_length]; omega)]
  · rw [wipe_out h, wipe_out h]
    exact o.2 j h
theorem Off.mono {t u : List Nat} {a b : L2.St} (h : Off t a b) (g : ∀ i ∈ t, i ∈ u) : Off u a b := ⟨h.1, fun j n => h.2 j fun m => n (g j m)⟩
section
variable {K : PySem.W.Frag} {f : Fm} {w w' : Wd} {s s' : S} {σ : L2.St} {H H' : Hp}
theorem StOk.wiped (st : StOk K f w s σ H) (vs : List Nat) : StOk K f w (wipeS vs s) (wipe σ vs) H where
  sub := st.sub
  fr := st.fr
  ff := st.ff
  f0 := st.f0
  bb := st.bb
  bf := st.bf
  len := by
    show (wipeE vs s.env).length = _
    rw [wipeE_length, wipe_length]
    exact st.len
  slot := fun j x e => by
    rcases wipeE_get e with ⟨h1, rfl⟩ | ⟨h1, h2⟩
    · exact trivial
    · rw [wipe_out h1]
      exact st.slot j x h2
  bx := st.bx
  dist := fun i j x y p n e1 e2 o1 o2 e3 => by
    rcases wipeE_get e1 with ⟨h1, rfl⟩ | ⟨h1, h2⟩
    · cases o1
    · rcases wipeE_get e2 with ⟨h3, rfl⟩ | ⟨h3, h4⟩
      · cases o2
      · rw [wipe_out h1] at e3
        rw [wipe_out h3]
        exact st.dist i j x y p n h2 h4 o1 o2 e3
theorem SlotOk.plain {x : SV} {v : Option V} (h : SlotOk K f w H x v) (o : x.own = false) (e : Ext w w') : SlotOk K f w' H' x v := by
  cases x with
  | no => exact trivial
  | d x =>
    obtain ⟨u, e1, e2⟩ := h
    exact ⟨u, e1, e2.mono e⟩
  | bx =>
    obtain ⟨p, e1, e2⟩ := h
    exact ⟨p, e1, e.bp _ e2⟩
  | _ => cases o
theorem StOk.back {s1 s2 : S} {H1 : Hp} (st1 : StOk K f w s1 σ H1) (vs : List Nat) (st2 : StOk K f w' s2 (wipe σ vs) H) (e : Ext w w') (no : ∀ i ∈ vs, (getS i s1).own = false) :
    StOk K f w' { s2 with env := backE vs s1.env s2.env } σ H := by
  have key : ∀ (j : Nat) (x : SV), (backE vs s1.env s2.env)[j]? = some x → (j ∈ vs ∧ x = getS j s1) ∨ (j ∉ vs ∧ s2.env[j]? = some x) := fun j x h => by
    rcases backE_get h with h | h
    · exact .inl h
    · exact .inr h
  refine ⟨st2.sub, st2.fr, st2.ff, st2.f0, st2.bb, st2.bf, ?_, fun j x h => ?_, st2.bx, fun i j x y p n e1 e2 o1 o2 e3 => ?_⟩
  · show (backE vs s1.env s2.env).length = _
    rw [backE_length, st2.len, wipe_length]
  · rcases key j x h with ⟨h1, rfl⟩ | ⟨h1, h2⟩
    · by_cases z : getS j s1 = .no
      · rw [z]
        exact trivial
      · exact (st1.slot j _ (getS_some rfl z)).plain (no j h1) e
    · have q := st2.slot j x h2
      rw [wipe_out h1] at q
      exact q
  · rcases key i x e1 with ⟨h1, rfl⟩ | ⟨h1, h2⟩
    · rw [no i h1] at o1
      cases o1
    · rcases key j y e2 with ⟨h3, rfl⟩ | ⟨h3, h4⟩
      · rw [no j h3] at o2
        cases o2
      · have q := st2.dist i j x y p n h2 h4 o1 o2
        rw [wipe_out h1, wipe_out h3] at q
        exact q e3
/-- one more object is kept, and the box stays where it is -/
def Fm.guard (f : Fm) (p : Addr) (o : HO) (bp : Option Addr) : Fm := { f with H0 := fun a => if a = p then some o else f.H0 a, b0 := bp, fx := true }
theorem StOk.guard (st : StOk K f w s σ H) {p : Addr} {o : HO} (h1 : H p = some o) (h2 : w.F p = none) (h3 : f.H0 p = none) (h4 : w.bp ≠ some p) (h6 : ∀ (i : Nat) (x : SV), s.env[i]? = some x → x.own = true → σ[i]?.join ≠ some (.ref p)) :
    StOk K (f.guard p o w.bp) w s σ H := by
  have at0 : ∀ a, a ≠ p → (f.guard p o w.bp).H0 a = f.H0 a := fun a n => if_neg n
  refine ⟨st.sub, fun a u e n => ?_, fun a e1 e2 => ?_, st.f0, fun q e => e, fun _ => rfl, st.len, fun i x e => ?_, fun q e => ?_, st.dist⟩
  · by_cases z : a = p
    · subst z
      have e' : some o = some u := (if_pos rfl : (f.guard a o w.bp).H0 a = some o) ▸ e
      cases e'
      exact h1
    · rw [at0 a z] at e
      refine st.fr a u e fun zz => ?_
      have b := st.bb a zz
      exact n b
  · by_cases z : a = p
    · subst z
      exact h2
    · rw [at0 a z] at e1
      exact st.ff a e1 e2
  · have q := st.slot i x e
    cases x with
    | no => exact trivial
    | d x => exact q
    | bx => exact q
    | o xs =>
      obtain ⟨a, vs, q1, q2, q3, q4, q5, q6⟩ := q
      exact ⟨a, vs, q1, q2, q3, q4, q5, by rw [at0 a fun z => h6 i _ e rfl (by rw [← z]; exact q1)]; exact q6⟩
    | ok xs =>
      obtain ⟨a, vs, q1, q2, q3, q4, q5, q6⟩ := q
      exact ⟨a, vs, q1, q2, q3, q4, q5, by rw [at0 a fun z => h6 i _ e rfl (by rw [← z]; exact q1)]; exact q6⟩
    | ot xs =>
      obtain ⟨a, vs, q1, q2, q3, q4, q5, q6⟩ := q
      exact ⟨a, vs, q1, q2, q3, q4, q5, by rw [at0 a fun z => h6 i _ e rfl (by rw [← z]; exact q1)]; exact q6⟩
  · obtain ⟨e1, e2, e3⟩ := st.bx q e
    exact ⟨e1, e2, .inl e⟩
theorem StOk.unguard {p : Addr} {o : HO} {w0 : Wd} {s0 : S} {σ0 : L2.St} {H0 : Hp} (st0 : StOk K f w0 s0 σ0 H0) (st : StOk K (f.guard p o w0.bp) w s σ H) (h3 : f.H0 p = none) (h4 : w0.bp ≠ some p) (h5 : f.F0 p = none) :
    StOk K f w s σ H ∧ H p = some o ∧ w.F p = none ∧ w.bp = w0.bp ∧ ∀ (i : Nat) (x : SV), s.env[i]? = some x → x.own = true → σ[i]?.join ≠ some (.ref p) := by
  have at0 : ∀ a, a ≠ p → (f.guard p o w0.bp).H0 a = f.H0 a := fun a n => if_neg n
  have atp : (f.guard p o w0.bp).H0 p = some o := if_pos rfl
  have ge : ∀ a, (f.guard p o w0.bp).H0 a = none → f.H0 a = none := fun a e => by
    by_cases z : a = p
    · rw [z]
      exact h3
    · rw [at0 a z] at e
      exact e
  have wb : w.bp = w0.bp := st.bf rfl
  refine ⟨⟨st.sub, fun a u e n => ?_, fun a e1 e2 => st.ff a (fun z => e1 (ge a z)) e2, st.f0, fun q e => by rw [wb]; exact st0.bb q e, fun e => by rw [wb]; exact st0.bf e, st.len, fun i x e => ?_, fun q e => ?_, st.dist⟩, st.fr p o atp h4, st.ff p (by rw [atp]; exact fun z => nomatch z) h5, wb, fun i x e ow z => ?_⟩
  · have np : a ≠ p := fun z => by
      rw [z, h3] at e
      cases e
    refine st.fr a u (by rw [at0 a np]; exact e) fun z => ?_
    rcases (st0.bx a z).2.2 with q | q
    · exact n q
    · rw [q] at e
      cases e
  · have q := st.slot i x e
    cases x with
    | no => exact trivial
    | d x => exact q
    | bx => exact q
    | o xs =>
      obtain ⟨a, vs, q1, q2, q3, q4, q5, q6⟩ := q
      exact ⟨a, vs, q1, q2, q3, q4, q5, ge a q6⟩
    | ok xs =>
      obtain ⟨a, vs, q1, q2, q3, q4, q5, q6⟩ := q
      exact ⟨a, vs, q1, q2, q3, q4, q5, ge a q6⟩
    | ot xs =>
      obtain ⟨a, vs, q1, q2, q3, q4, q5, q6⟩ := q
      exact ⟨a, vs, q1, q2, q3, q4, q5, ge a q6⟩
  · obtain ⟨e1, e2, e3⟩ := st.bx q e
    refine ⟨e1, e2, ?_⟩
    rw [wb] at e
    exact (st0.bx q e).2.2
  · obtain ⟨q, e1, e2, e3, e4, e5⟩ := (st.slot i x e).at ow
    rw [z] at e1
    cases e1
    rw [atp] at e5
    cases e5
/-- a thing that is nobody's and not frozen changes -/
theorem StOk.over (h : StOk K f w s σ H) {p : Addr} {o : HO} (h1 : w.F p = none) (h2 : f.H0 p = none) (h3 : w.bp ≠ some p) (h4 : ∀ (i : Nat) (x : SV), s.env[i]? = some x → x.own = true → σ[i]?.join ≠ some (.ref p)) : StOk K f w s σ (upd H p o) where
  sub := fun b u e => by
    rw [upd_ne (ne_of_none e h1)]
    exact h.sub _ _ e
  fr := fun a u e1 e2 => by
    rw [upd_ne (ne_of_none e1 h2)]
    exact h.fr a u e1 e2
  ff := h.ff
  f0 := h.f0
  bb := h.bb
  bf := h.bf
  len := h.len
  slot := fun i x e => (h.slot i x e).ext (Ext.refl w) fun q hq e1 => by
    obtain ⟨q', e2, e3, e4, e5, e6⟩ := (h.slot i x e).at hq
    rw [e1] at e2
    cases e2
    have ne : q ≠ p := fun z => h4 i x e hq (by rw [← z]; exact e1)
    exact ⟨upd_ne ne, e4, e5⟩
  bx := fun q e => by
    obtain ⟨e1, e2, e3⟩ := h.bx q e
    have ne : q ≠ p := fun z => h3 (by rw [← z]; exact e)
    exact ⟨by rw [upd_ne ne]; exact e1, e2, e3⟩
  dist := h.dist
theorem backE_wipe {e0 e : List SV} {vs : List Nat} : backE vs e0 (wipeE vs e) = backE vs e0 e := by
  apply List.ext_getElem?
  intro j
  have hl : (backE vs e0 (wipeE vs e)).length = (backE vs e0 e).length := by rw [backE_length, backE_length, wipeE_length]
  by_cases l : j < (backE vs e0 e).length
  · have e1 : (backE vs e0 e)[j]? = some (backE vs e0 e)[j] := List.getElem?_eq_getElem l
    have e2 : (backE vs e0 (wipeE vs e))[j]? = some ((backE vs e0 (wipeE vs e))[j]'(by rw [hl]; exact l)) := List.getElem?_eq_getElem _
    rw [e1, e2]
    congr 1
    rcases backE_get e1 with ⟨a1, a2⟩ | ⟨a1, a2⟩
    · rcases backE_get e2 with ⟨b1, b2⟩ | ⟨b1, b2⟩
      · rw [a2, b2]
      · exact absurd a1 b1
    · rcases backE_get e2 with ⟨b1, b2⟩ | ⟨b1, b2⟩
      · exact absurd b1 a1
      · rcases wipeE_get b2 with ⟨c1, c2⟩ | ⟨c1, c2⟩
        · exact absurd c1 b1
        · rw [a2] at c2
          exact (Option.some.inj c2).symm
  · rw [List.getElem?_eq_none (by rw [hl]; omega), List.getElem?_eq_none (by omega)]
end
theorem Off.wipe {σ : L2.St} {vs : List Nat} : Off vs σ (L2.wipe σ vs) := ⟨wipe_length σ vs, fun j h => wipe_out h⟩

section
variable {X : Cx} {W : WX}
def mYes : M Bool := fun s => .ok true s
abbrev W0 : WX := fun _ _ _ _ => False
theorem ts_nil : PTs X [] (tT X.K W mYes) := ⟨fun pins s σ H Q I h => pts_nil.run pins s σ H Q I (by
  obtain ⟨f, w, s, st, p⟩ := h
  exact p w H true (Ext.refl _) st rfl)⟩
theorem ts_one {c : Expr} {t : M Bool} (h : PT X c (tT X.K W t)) : PTs X [c] (tT X.K W t) := pts_one h
theorem c_comp {K : PySem.W.Frag} {mi : M (List Pv.D)} {g : Pv.D → S → Option S} {ts vs : List Nat} {tt : M Bool} {me : M Pv.D} (hts : ∀ i ∈ ts, i ∈ vs) : ∀ σ H Q, tF K W (mComp mi g tt me vs) σ H Q → tLc (tI K W mi) (tTg K ts g) (tT K W0 tt) (tM K W0 me) vs σ H Q := fun σ H Q ⟨f, w, s, st, p⟩ => by
  refine ⟨f, w, s, st, Po.thn p fun ds w1 s1 J H1 e1 st1 r1 p1 => ?_⟩
  split at p1
  · rename_i hno
    have no : ∀ i ∈ vs, (getS i s1).own = false := fun i m => by
      have := List.all_eq_true.mp hno i m
      simpa using this
    intro D hD
    obtain ⟨G, Y, wk, hG, hY⟩ := r1.ex
    have f3 : f.H0 D = none := st1.fresh0 hD
    have f5 : f.F0 D = none := Same.free st1.f0 (st1.freshF hD)
    refine lc_it wk (fun i H => ∃ w2 s2 acc accv, Ext w1 w2 ∧ StOk K f w2 (wipeS vs s2) (wipe σ vs) H ∧ H D = some (.lst accv) ∧ RepAll K w2 acc accv ∧ w2.F D = none ∧ w2.bp ≠ some D ∧
      (∀ (i : Nat) (x : SV), (wipeE vs s2.env)[i]? = some x → x.own = true → (wipe σ vs)[i]?.join ≠ some (.ref D)) ∧
      Po K f W (RF K) w2 σ Q ((sCompL g tt me vs (ds.drop i) acc s2).bind fun xs s2 => .ok xs { s2 with env := backE vs s1.env s2.env })) ?_ ?_ ?_ ?_
    · refine ⟨w1, s1, [], [], Ext.refl _, (st1.lay hD).wiped vs, upd_same, rfl, st1.freshF hD, fun z => ?_, fun i x e o z => ?_, by simpa using p1⟩
      · obtain ⟨q, _⟩ := st1.bx D z
        rw [hD] at q
        cases q
      · rcases wipeE_get e with ⟨h1, rfl⟩ | ⟨h1, h2⟩
        · cases o
        · rw [wipe_out h1] at z
          obtain ⟨q, q1, q2, _⟩ := (st1.slot i x h2).at o
          rw [z] at q1
          cases q1
          exact q2 hD
    · rintro i H _ ⟨w2, s2, acc, accv, x2, st2, _⟩
      exact hG H (x2.same.trans st2.sub)
    · rintro i x H2 H3 hi2 ⟨w2, s2, acc, accv, x2, st2, d1, d2, d3, d4, d5, p2⟩ y
      have hd : ds[i]? = some ds[i] := by simp [hi2]
      have e2 : ds.drop i = ds[i] :: ds.drop (i + 1) := by rw [List.drop_eq_getElem_cons hi2]
      rw [e2] at p2
      have it : ∃ w3, Ext w2 w3 ∧ StOk K f w3 (wipeS vs s2) (wipe σ vs) H3 ∧ Rep K w3 ds[i] x ∧ H3 D = some (.lst accv) ∧ w3.F D = none ∧ w3.bp = w2.bp := by
        rcases hY i H2 x H3 _ y hd with ⟨rfl, r⟩ | ⟨T, ys, as, rfl, hT, rfl, h4, h5⟩
        · exact ⟨w2, Ext.refl _, st2, Rep.mono x2 r, d1, d3, rfl⟩
        · have e3 := ext_put (w := w2) (o := .tup ys) (st2.freshF hT)
          have nT : D ≠ T := ne_of_none d1 hT
          refine ⟨_, e3, st2.put hT, ?_, by rw [upd_ne nT]; exact d1, by show upd w2.F T _ D = none; rw [upd_ne nT]; exact d3, rfl⟩
          rw [h4]
          exact ⟨T, ys, rfl, .inl (.inl Wd.put_at), RepAll.mono (x2.trans e3) h5⟩
      obtain ⟨w3, x3, st3, r3, c1, c3, c4⟩ := it
      have c4' : w3.bp ≠ some D := by rw [c4]; exact d4
      have stg := st3.guard c1 c3 f3 c4' d5
      -- what comes of the turn
      cases eg : g ds[i] (wipeS vs s2) with
      | none =>
        have : sCompL g tt me vs (ds[i] :: ds.drop (i + 1)) acc s2 = .no := by
          show (match g ds[i] (wipeS vs s2) with
            | none => _
            | some s1 => _) = _
          rw [eg]
        rw [this] at p2
        exact p2.elim
      | some s3 =>
        refine ⟨f.guard D (.lst accv) w3.bp, w3, wipeS vs s2, ds[i], s3, stg, r3, eg, fun σ4 o4 st4 => ?_⟩
        have hw : wipe σ4 vs = wipe σ vs := by
          rw [wipe_off (o4.mono hts)]
          exact wipe_off Off.wipe
        refine ⟨hw, f.guard D (.lst accv) w3.bp, w3, s3, st4, ?_⟩
        cases et : tt s3 with
        | no =>
          have : sCompL g tt me vs (ds[i] :: ds.drop (i + 1)) acc s2 = .no := by
            show (match g ds[i] (wipeS vs s2) with
              | none => _
              | some s1 => _) = _
            rw [eg]
            show (match tt s3 with
              | .ok false s2 => _
              | .ok true s2 => _
              | _ => _) = _
            rw [et]
          rw [this] at p2
          exact p2.elim
        | exc z s4 =>
          have : sCompL g tt me vs (ds[i] :: ds.drop (i + 1)) acc s2 = .no := by
            show (match g ds[i] (wipeS vs s2) with
              | none => _
              | some s1 => _) = _
            rw [eg]
            show (match tt s3 with
              | .ok false s2 => _
              | .ok true s2 => _
              | _ => _) = _
            rw [et]
          rw [this] at p2
          exact p2.elim
        | ok b s4 =>
          intro w4 H4 b' x4 st5 rb
          have rb' : b' = b := rb
          subst rb'
          obtain ⟨u1, u2, u3, u4, u5⟩ := StOk.unguard st3 st5 f3 c4' f5
          cases b' with
          | false =>
            rw [if_neg Bool.false_ne_true]
            have : sCompL g tt me vs (ds[i] :: ds.drop (i + 1)) acc s2 = sCompL g tt me vs (ds.drop (i + 1)) acc s4 := by
              show (match g ds[i] (wipeS vs s2) with
                | none => _
                | some s1 => _) = _
              rw [eg]
              show (match tt s3 with
                | .ok false s2 => _
                | .ok true s2 => _
                | _ => _) = _
              rw [et]
            rw [this] at p2
            have stw := u1.wiped vs
            rw [hw] at stw
            refine ⟨w4, s4, acc, accv, (x2.trans x3).trans x4, stw, u2, RepAll.mono (x3.trans x4) d2, u3, by rw [u4]; exact c4', fun j z e o => ?_, Po.ext p2 (x3.trans x4)⟩
            rcases wipeE_get e with ⟨h1, rfl⟩ | ⟨h1, h2⟩
            · cases o
            · rw [← hw, wipe_out h1]
              exact u5 j z h2 o
          | true =>
            rw [if_pos rfl]
            refine ⟨f.guard D (.lst accv) w3.bp, w4, s4, st5, ?_⟩
            have step : sCompL g tt me vs (ds[i] :: ds.drop (i + 1)) acc s2 = (match me s4 with
                | .ok x s3 => if acc.length < sizeLine then sCompL g tt me vs (ds.drop (i + 1)) (acc ++ [x]) s3 else .no
                | _ => .no) := by
              show (match g ds[i] (wipeS vs s2) with
                | none => _
                | some s1 => _) = _
              rw [eg]
              show (match tt s3 with
                | .ok false s2 => _
                | .ok true s2 => _
                | _ => _) = _
              rw [et]
            rw [step] at p2
            cases em : me s4 with
            | no => rw [em] at p2; exact p2.elim
            | exc z s5 => rw [em] at p2; exact p2.elim
            | ok z s5 =>
              rw [em] at p2
              intro w5 H5 v x5 st6 r6
              have p2' : Po K f W (RF K) w2 σ Q (((if acc.length < sizeLine then sCompL g tt me vs (ds.drop (i + 1)) (acc ++ [z]) s5 else .no) : Out (List Pv.D)).bind fun xs s2 => .ok xs { s2 with env := backE vs s1.env s2.env }) := p2
              split at p2'
              · rename_i hz
                obtain ⟨y1, y2, y3, y4, y5⟩ := StOk.unguard st3 st6 f3 c4' f5
                have x5' := (x3.trans x4).trans x5
                have ra : RepAll K w5 acc accv := RepAll.mono x5' d2
                refine ⟨accv, y2, by rw [d2.length]; exact hz, w5, s5, acc ++ [z], accv ++ [v], x2.trans x5', ?_, upd_same, RepAll.append ra (RepAll.one r6), y3, by rw [y4]; exact c4', fun j u e o => ?_, Po.ext p2' x5'⟩
                · have stw := (y1.over (o := .lst (accv ++ [v])) y3 f3 (by rw [y4]; exact c4') y5).wiped vs
                  rw [hw] at stw
                  exact stw
                · rcases wipeE_get e with ⟨h1, rfl⟩ | ⟨h1, h2⟩
                  · cases o
                  · rw [← hw, wipe_out h1]
                    exact y5 j u h2 o
              · exact p2'.elim
    · rintro H2 ⟨w2, s2, acc, accv, x2, st2, d1, d2, d3, d4, d5, p2⟩
      rw [List.drop_length] at p2
      have stb := StOk.back st1 vs st2 x2 no
      have eb : ({ wipeS vs s2 with env := backE vs s1.env (wipeS vs s2).env } : S) = { s2 with env := backE vs s1.env s2.env } := by
        show ({ s2 with env := backE vs s1.env (wipeE vs s2.env) } : S) = _
        rw [backE_wipe]
      rw [eb] at stb
      refine p2 w2 H2 _ (Ext.refl _) stb ⟨D, accv, rfl, d1, d2, d3, d4, f3, fun j x e o => ?_⟩
      rcases backE_get e with ⟨h1, h2⟩ | ⟨h1, h2⟩
      · have := no j h1
        rw [h2] at o
        rw [show s1.env.getD j .no = getS j s1 from rfl, this] at o
        cases o
      · have hx : (wipeE vs s2.env)[j]? = some x := by
          have hl : j < (wipeE vs s2.env).length := by
            rw [wipeE_length]
            exact (List.getElem?_eq_some_iff.mp h2).1
          have e1 : (wipeE vs s2.env)[j]? = some (wipeE vs s2.env)[j] := List.getElem?_eq_getElem hl
          rcases wipeE_get e1 with ⟨c1, _⟩ | ⟨_, c2⟩
          · exact absurd c1 h1
          · rw [e1, ← c2, h2]
        have q := d5 j x hx o
        rw [wipe_out h1] at q
        exact q
  · exact p1.elim
theorem f_comp {elt tg iter : Expr} {ifs : List Expr} {scope : Scope} {own : List (Str × Nat)} {pos : Pos} {mi : M (List D)} {g : D → S → Option S} {ts : List Nat} {tt : M Bool} {me : M D} (hc : X.calm = true) (hN : X.N.Nodup)
    (hi : PI X tg iter (tI X.K W mi)) (ok : BlkOk X.N X.env.scope scope own) (hts : ∀ i ∈ ts, i ∈ own.map (·.2))
    (hg : ∀ (s : Shared) (H : Hp) (C : Addr) (cl : List (Str × Addr)) (fp : List Addr), PG (X.blk s H scope (compEnvC scope cl C X.env) fp) tg (tTg X.K ts g))
    (ht : ∀ (s : Shared) (H : Hp) (C : Addr) (cl : List (Str × Addr)) (fp : List Addr), PTs (X.blk s H scope (compEnvC scope cl C X.env) fp) ifs (tT X.K W0 tt))
    (he : ∀ (s : Shared) (H : Hp) (C : Addr) (cl : List (Str × Addr)) (fp : List Addr), PE (X.blk s H scope (compEnvC scope cl C X.env) fp) elt (tM X.K W0 me)) (hs : ∀ x, foldedSetIterable iter X.env x = pure x := by intro _; rfl) :
    PE X (.ListComp elt [⟨tg, iter, ifs, 0⟩] scope pos) (tF X.K W (mComp mi g tt me (own.map (·.2)))) :=
  pe_imp (pe_lc hc hN hi ok hg ht he hs) (c_comp hts)
end
end Pv
end PvI_

section PvJ_
set_option Elab.async false
set_option linter.all false
set_option maxRecDepth 100000
set_option maxHeartbeats 4000000
namespace Pv
open PySem PySem.Spec PyProof.Rows L2

/-! ### defs -/
abbrev Box := Int × Int × Int
inductive RO where
  | ok (d : D) (b : Box) | exc (e : Exn) (b : Box) | no
/-- what a def is worth: of its arguments and the box -/
abbrev Fn := List D → Box → RO
structure EndOk (w : Wd) (H : Hp) (w' : Wd) (H' : Hp) (b' : Box) : Prop where
  sub : Same w'.F H'
  bp : w'.bp = w.bp
  fr : ∀ a o, H a = some o → w.bp ≠ some a → H' a = some o
  ff : ∀ a, H a ≠ none → w.F a = none → w'.F a = none
  bx : ∀ p, w.bp = some p → H' p = some (boxV b')
def spF (K : PySem.W.Frag) (F : Fn) (n : Nat) : Sp := fun vs H Q E => ∃ ds w b, ds.length = n ∧ Same w.F H ∧ RepAll K w ds vs ∧ (∀ p, w.bp = some p → H p = some (boxV b) ∧ w.F p = none) ∧ match F ds b with
  | .ok d b' => ∀ w' H' v, Ext w w' → EndOk w H w' H' b' → Rep K w' d v → Q v H'
  | .exc e b' => ∀ w' H' c dd, Ext w w' → EndOk w H w' H' b' → RepX K w' H' e c dd → E c dd H'
  | .no => False
section
variable {K : PySem.W.Frag} {f : Fm} {w w' : Wd} {s s' : S} {σ : L2.St} {H H' : Hp} {b' : Box}
theorem StOk.call (h : StOk K f w s σ H) (e : Ext w w') (r : EndOk w H w' H' b') : StOk K f w' { s with box := b' } σ H' where
  sub := r.sub
  fr := fun a o e1 e2 => by
    refine r.fr a o (h.fr a o e1 e2) fun z => ?_
    rcases (h.bx a z).2.2 with q | q
    · exact e2 q
    · rw [q] at e1
      cases e1
  ff := fun a e1 e2 => by
    refine r.ff a ?_ (h.ff a e1 e2)
    cases q : f.H0 a with
    | none => exact absurd q e1
    | some o =>
      by_cases z : f.b0 = some a
      · rw [(h.bx a (h.bb a z)).1]
        exact fun z => nomatch z
      · rw [h.fr a o q z]
        exact fun z => nomatch z
  f0 := h.f0.trans e.same
  bb := fun p q => e.bp p (h.bb p q)
  bf := fun q => by rw [r.bp]; exact h.bf q
  len := h.len
  slot := fun i x q => (h.slot i x q).ext e fun p o e1 => by
    obtain ⟨p', e2, e3, e4, e5, e6⟩ := (h.slot i x q).at o
    rw [e1] at e2
    cases e2
    refine ⟨?_, r.ff p e3 e4, by rw [r.bp]; exact e5⟩
    cases z : H p with
    | none => exact absurd z e3
    | some o => exact r.fr p o z e5
  bx := fun p q => by
    rw [r.bp] at q
    obtain ⟨e1, e2, e3⟩ := h.bx p q
    exact ⟨r.bx p q, r.ff p (by rw [e1]; exact fun z => nomatch z) e2, e3⟩
  dist := h.dist
theorem StOk.endOk {vs : List V} {ds : List D} {w0 : Wd} {H0 : Hp} (h : StOk K ⟨H0, w0.F, w0.bp, true⟩ w s σ H) : EndOk w0 H0 w H s.box :=
  ⟨h.sub, h.bf rfl, fun a o e n => h.fr a o e n, fun a e1 e2 => h.ff a e1 e2, fun p e => (h.bx p (h.bb p e)).1⟩
end

def ofRO (x : RO) (s : S) : Out D := match x with
  | .ok d b => .ok d { s with box := b }
  | .exc e b => .exc e { s with box := b }
  | .no => .no
def mCall (F : Fn) (m : M (List D)) : M D := fun s => (m s).bind fun ds s1 => ofRO (F ds s1.box) s1
section
variable {X : Cx} {W : WX} {e : Expr} {es : List Expr} {m : M (List D)} {F : Fn} {x : Str} {p pos : Pos} {fa : Addr} {fd : FuncData} {ps : List Str} {n k : Nat}
theorem call_sp {f : Fm} {w : Wd} {s : S} {σ : L2.St} {H : Hp} {Q : VK} {E : XK} {ds : List D} {vs : List V} (st : StOk X.K f w s σ H) (r : RepAll X.K w ds vs) (hn : ds.length = n) (hE : ∀ c dd H, W c dd σ H → E c dd H)
    (p : Po X.K f W (RD X.K) w σ Q (ofRO (F ds s.box) s)) : spF X.K F n vs H Q E := by
  refine ⟨ds, w, s.box, hn, st.sub, r, fun q e => ⟨(st.bx q e).1, (st.bx q e).2.1⟩, ?_⟩
  cases ef : F ds s.box with
  | no => rw [ef] at p; exact p.elim
  | ok d b => rw [ef] at p; exact fun w' H' v e1 e2 rv => p w' H' v e1 (st.call e1 e2) rv
  | exc y b => rw [ef] at p; exact fun w' H' c dd e1 e2 rx => hE _ _ _ (p w' H' c dd e1 (st.call e1 e2) rx)
theorem q_call (G : FnOk X.prog X.w X.K X.mg X.base (L2.CX X.prog X.w) k fa fd ps (spF X.K F n)) (hr : Room k X.A) (tk : Takes X W) (hg : Gl X x) (hm : X.mg x = some (.ref fa)) (hk : PySem.W.keepIn X.K (.ref fa) = true) (hb : Binds X.K fd ps [])
    (ha : PA X (e :: es) (tA X.K W m)) (hn : ∀ s ds s1, m s = .ok ds s1 → ds.length = n) (hdb : (x == ("__debug__" : Str)) = false := by decide) (he : starEach (e :: es) X.env = (false, eval e X.env) :: starEach es X.env := by rfl)
    (hpl : (backTo pos (starEach es X.env)).any (·.1) = false := by rfl) : PE X (.Call (.Name x p) (e :: es) [] pos) (tM X.K W (mCall F m)) := by
  refine pe_imp (pe_callS (E := WE W) G hr hg hm hk hb (passAt tk) ha hdb he hpl) fun σ H Q ⟨f, w, s, st, p⟩ => ?_
  refine ⟨f, w, s, st, ?_⟩
  cases em : m s with
  | no => unfold mCall at p; rw [em] at p; exact p.elim
  | exc y s1 => unfold mCall at p; rw [em] at p; exact p
  | ok ds s1 =>
    unfold mCall at p
    rw [em] at p
    exact fun w1 H1 vs e1 st1 r1 => call_sp st1 r1 (hn _ _ _ em) (fun _ _ _ h => h) (Po.ext p e1)
theorem aCons_len {ma : M D} {mr : M (List D)} {n : Nat} (h : ∀ s ds s1, mr s = .ok ds s1 → ds.length = n) : ∀ s ds s1, aCons ma mr s = .ok ds s1 → ds.length = n + 1 := by
  intro s ds s1 e
  unfold aCons at e
  cases e1 : ma s with
  | no => rw [e1] at e; cases e
  | exc _ _ => rw [e1] at e; cases e
  | ok x s2 =>
    rw [e1] at e
    have e' : ((mr s2).bind fun xs s2 => .ok (x :: xs) s2) = .ok ds s1 := e
    cases e2 : mr s2 with
    | no => rw [e2] at e'; cases e'
    | exc _ _ => rw [e2] at e'; cases e'
    | ok xs s3 =>
      rw [e2] at e'
      cases e'
      rw [List.length_cons, h _ _ _ e2]
theorem aNil_len : ∀ s ds s1, aNil s = .ok ds s1 → ds.length = 0 := by
  intro s ds s1 e
  cases e
  rfl

/-! ### keywords -/
theorem k_nil : PK X [] (tA X.K W aNil) := ⟨fun pos pins s σ H Q I h => by
  obtain ⟨f, w, s', st, p⟩ := h
  exact pk_nil.run pos pins s σ H Q I (p w H [] (Ext.refl _) st rfl)⟩
theorem k_cons {nm : Option Str} {kpos : Pos} {kws : List Keyword} {ma : M D} {mr : M (List D)} (ha : PE X e (tM X.K W ma)) (hr : PK X kws (tA X.K W mr)) : PK X (⟨nm, e, kpos⟩ :: kws) (tA X.K W (aCons ma mr)) := ⟨fun pos pins s σ H Q I h => by
  obtain ⟨f, w, s', st, p⟩ := h
  refine (pk_cons ha hr).run pos pins s σ H Q I ⟨f, w, s', st, Po.thn p fun x w1 s1 v H1 e1 st1 r1 p1 => ⟨f, w1, s1, st1, Po.thn p1 fun xs w2 s2 vs H2 e2 st2 r2 p2 => ?_⟩⟩
  exact p2 w2 H2 _ (Ext.refl _) st2 ⟨v, vs, rfl, Rep.mono e2 r1, r2⟩⟩

/-! ### a def's body -/
def outOf (x : SO) : RO := match x with
  | .nx s => .ok .non s.box
  | .rt d s => .ok d s.box
  | .exc e s => .exc e s.box
  | _ => .no
def s0 (N : List Str) (ds : List D) (b : Box) : S := { env := ds.map SV.d ++ List.replicate (N.length - ds.length) SV.no, box := b }
theorem st0 {K : PySem.W.Frag} {w : Wd} {H : Hp} {ds : List D} {vs : List V} {b : Box} (N : List Str) (h1 : Same w.F H) (h2 : RepAll K w ds vs) (h3 : ∀ p, w.bp = some p → H p = some (boxV b) ∧ w.F p = none) :
    StOk K ⟨H, w.F, w.bp, true⟩ w (s0 N ds b) (start N vs) H where
  sub := h1
  fr := fun a o e _ => e
  ff := fun a _ e => e
  f0 := Same.refl _
  bb := fun p e => e
  bf := fun _ => rfl
  len := by
    show (ds.map SV.d ++ List.replicate (N.length - ds.length) SV.no).length = (vs.map some ++ List.replicate (N.length - vs.length) none).length
    rw [List.length_append, List.length_append, List.length_map, List.length_map, List.length_replicate, List.length_replicate, h2.length]
  slot := fun i x e => by
    have e' : (ds.map SV.d ++ List.replicate (N.length - ds.length) SV.no)[i]? = some x := e
    by_cases hi : i < ds.length
    · rw [List.getElem?_append_left (by rw [List.length_map]; exact hi), List.getElem?_map, List.getElem?_eq_getElem hi] at e'
      cases e'
      obtain ⟨v, q1, q2⟩ := h2.get (List.getElem?_eq_getElem hi)
      refine ⟨v, ?_, q2⟩
      show ((vs.map some ++ List.replicate (N.length - vs.length) none)[i]?).join = some v
      rw [List.getElem?_append_left (by rw [List.length_map, h2.length]; exact hi), List.getElem?_map, q1]
      rfl
    · rw [List.getElem?_append_right (by rw [List.length_map]; omega)] at e'
      have := List.eq_of_mem_replicate (List.mem_of_getElem? e')
      rw [this]
      exact trivial
  bx := fun p e => ⟨(h3 p e).1, (h3 p e).2, .inl e⟩
  dist := fun i j x y p n e1 e2 o1 o2 => by
    have none_own : ∀ (i : Nat) (x : SV), (s0 N ds b).env[i]? = some x → x.own = false := fun i x e => by
      rcases List.mem_append.mp (List.mem_of_getElem? e) with m | m
      · obtain ⟨d, _, rfl⟩ := List.mem_map.mp m
        rfl
      · rw [List.eq_of_mem_replicate m]
        rfl
    rw [none_own i x e1] at o1
    cases o1
theorem body_end {P0 : MS → Prop} {K : PySem.W.Frag} {N : List Str} {F : Fn} {vs : List V} {H : Hp} {Q : VK} {E : XK} (h : spF K F n vs H Q E) (q : ∀ ds b, ds.length = n → F ds b ≠ .no → ∃ ms : MS, P0 ms ∧ outOf (ms (s0 N ds b)) = F ds b) :
    ∃ ms : MS, P0 ms ∧ tS K (fun c d _ H => E c d H) ms { nx := fun _ H' => Q .non H', rt := Q } (start N vs) H := by
  obtain ⟨ds, w, b, hn, h1, h2, h3, h4⟩ := h
  obtain ⟨ms, hp, hm⟩ := q ds b hn (fun e => by rw [e] at h4; exact h4)
  refine ⟨ms, hp, _, w, s0 N ds b, st0 N h1 h2 h3, ?_⟩
  rw [← hm] at h4
  cases em : ms (s0 N ds b) with
  | nx s' =>
    rw [em] at h4
    exact fun w' σ' H' e st => h4 w' H' .non e (StOk.endOk (vs := vs) (ds := ds) st) rfl
  | rt d s' =>
    rw [em] at h4
    exact fun w' σ' H' v e st r => h4 w' H' v e (StOk.endOk (vs := vs) (ds := ds) st) r
  | exc y s' =>
    rw [em] at h4
    exact fun w' σ' H' c dd e st r => h4 w' H' c dd e (StOk.endOk (vs := vs) (ds := ds) st) r
  | bk s' => rw [em] at h4; exact h4.elim
  | ct s' => rw [em] at h4; exact h4.elim
  | no => rw [em] at h4; exact h4.elim
end
/-- a body's context: all that a derivation leans on -/
structure Bd (X : Cx) (W : WX) (k : Nat) : Prop where
  tk : Takes X W
  po : PassesOwn (model X.prog X.w) X.A X.env X.xe
  hr : Room k X.A
section
variable {P : Program} {w : World} {K : PySem.W.Frag} {mg : Str → Option Value} {base : Heap}
theorem def_ok {x qual : Str} {st : Stmt} {f : Addr} {fd : FuncData} {N ps : List Str} {k : Nat} {G : Fn} (F : L2.Fun K x qual st f fd) (S : FnScope N ps (defScope st)) (n : Nat) (hn : ps.length = n)
    (body : ∀ ds b, ds.length = n → G ds b ≠ .no → ∃ ms : MS, (∀ (cdv : Value) (A : Around) (outer : List Env) (s : Shared) (H : Hp) (E : XK), Bd (cxOf (L2.CX P w) P w K mg base N qual (defScope st) f cdv A outer s H E) (fun c d _ H => E c d H) k →
      PSs (cxOf (L2.CX P w) P w K mg base N qual (defScope st) f cdv A outer s H E) (defBody st) (tS K (fun c d _ H => E c d H) ms)) ∧ outOf (ms (s0 N ds b)) = G ds b) :
    FnOk P w K mg base (L2.CX P w) (k + 1) f fd ps (spF K G n) := by
  refine F.okX S (fun vs H Q E h => ?_) fun cdv A outer s H vs Q E hr h => ?_
  · obtain ⟨ds, w, b, h1, _, h2, _⟩ := h
    rw [h2.length, h1, hn]
  · obtain ⟨ms, h1, h2⟩ := body_end (P0 := fun ms => ∀ (cdv : Value) (A : Around) (outer : List Env) (s : Shared) (H : Hp) (E : XK), Bd (cxOf (L2.CX P w) P w K mg base N qual (defScope st) f cdv A outer s H E) (fun c d _ H => E c d H) k →
      PSs (cxOf (L2.CX P w) P w K mg base N qual (defScope st) f cdv A outer s H E) (defBody st) (tS K (fun c d _ H => E c d H) ms)) (N := N) h body
    exact ⟨_, h1 cdv A outer s H E ⟨takes_of rfl rfl rfl rfl, passes_of rfl, hr⟩, h2⟩
end
end Pv
end PvJ_

section PvK_
set_option Elab.async false
set_option linter.all false
set_option maxRecDepth 100000
set_option maxHeartbeats 4000000
namespace Pv
open PySem PySem.Spec PyProof.Rows L2

/-! ### values that are only lent: a slot's own list stays its own -/
def RL (K : PySem.W.Frag) : Fm → Wd → S → L2.St → Hp → D → V → Prop := fun f w s σ H d v => Rep K w d v ∨ ∃ p vs xs, d = .lst xs ∧ v = .ref p ∧ H p = some (.lst vs) ∧ RepAll K w xs vs
abbrev tL (K : PySem.W.Frag) (W : WX) (m : M D) : TE := tG K W (RL K) m
def lend (i : Nat) : M D := fun s => match getS i s with
  | .d x => .ok x s
  | .o xs => .ok (.lst xs) s
  | .bx => .ok .box s
  | _ => .no
section
variable {K : PySem.W.Frag} {f : Fm} {w : Wd} {s : S} {σ : L2.St} {H : Hp}
theorem RL.lst {xs : List D} {v : V} (st : StOk K f w s σ H) (r : RL K f w s σ H (.lst xs) v) : ∃ p vs, v = .ref p ∧ H p = some (.lst vs) ∧ RepAll K w xs vs := by
  rcases r with ⟨p, vs, e1, e2, e3⟩ | ⟨p, vs, ys, e0, e1, e2, e3⟩
  · exact ⟨p, vs, e1, st.sub _ _ e2, e3⟩
  · cases e0
    exact ⟨p, vs, e1, e2, e3⟩
theorem RL.tup {xs : List D} {v : V} (st : StOk K f w s σ H) (r : RL K f w s σ H (.tup xs) v) : ∃ p vs, v = .ref p ∧ SqT K H p vs ∧ RepAll K w xs vs := by
  rcases r with ⟨p, vs, e1, e2, e3⟩ | ⟨p, vs, ys, e0, _⟩
  · exact ⟨p, vs, e1, st.tup e2, e3⟩
  · cases e0
theorem RL.rep {d : D} {v : V} (r : RL K f w s σ H d v) (h : ∀ xs, d ≠ .lst xs) : Rep K w d v := by
  rcases r with r | ⟨p, vs, ys, e0, _⟩
  · exact r
  · exact absurd e0 (h ys)
theorem StOk.scr {ns : List Int} {v : V} (st : StOk K f w s σ H) (r : Rep K w (.scr ns) v) : ∃ p, v = .ref p ∧ SqL K H p (ns.map V.int) := by
  obtain ⟨p, e1, e2⟩ := r
  exact ⟨p, e1, st.sub.seq e2⟩
end
section
variable {X : Cx} {W : WX} {e : Expr} {m : M D} {x : Str} {p pos : Pos} {id : String}
theorem q_lend (h : PE X e (tM X.K W m)) : PE X e (tL X.K W m) := by
  refine pe_imp h fun σ H Q ⟨f, w, s, st, q⟩ => ⟨f, w, s, st, ?_⟩
  cases em : m s with
  | ok a s1 => rw [em] at q; exact fun w' H' b e1 st1 r => q w' H' b e1 st1 (.inl r)
  | exc y s1 => rw [em] at q; exact q
  | no => rw [em] at q; exact q.elim
theorem q_lendN (i : Nat) {x : Str} {pos : Pos} (hN : X.N[i]? = some x := by rfl) (hv : Vis X.env.scope x := by first | exact Or.inl rfl | exact Or.inr (Or.inl rfl) | exact Or.inr (Or.inr rfl)) (hd : (x == ("__debug__" : Str)) = false := by decide)
    (hcd : (x == ("__classdict__" : Str)) = false := by decide) : PE X (.Name x pos) (tL X.K W (lend i)) := by
  refine pe_imp (pe_var hN hv hd hcd) fun σ H Q ⟨f, w, s, st, p⟩ => ?_
  unfold lend at p
  cases e : getS i s with
  | no => rw [e] at p; exact p.elim
  | d y =>
    rw [e] at p
    obtain ⟨u, e1, e2⟩ := st.slot i _ (getS_some e (fun z => nomatch z))
    exact ⟨u, join_some e1, p w H u (Ext.refl w) st (.inl e2)⟩
  | o xs =>
    rw [e] at p
    obtain ⟨q, vs, e1, e2, e3, e4, e5, e6⟩ := st.slot i _ (getS_some e (fun z => nomatch z))
    exact ⟨_, join_some e1, p w H _ (Ext.refl w) st (.inr ⟨q, vs, xs, rfl, rfl, e2, e3⟩)⟩
  | bx =>
    rw [e] at p
    obtain ⟨q, e1, e2⟩ := st.slot i _ (getS_some e (fun z => nomatch z))
    exact ⟨_, join_some e1, p w H _ (Ext.refl w) st (.inl ⟨q, rfl, e2⟩)⟩
  | ok xs => rw [e] at p; exact p.elim
  | ot xs => rw [e] at p; exact p.elim
def mLst (m : M (List D)) : M D := fun s => (m s).bind fun xs s1 => .ok (.lst xs) s1
theorem q_lendF {m : M (List D)} (h : PE X e (tF X.K W m)) : PE X e (tL X.K W (mLst m)) := by
  refine pe_imp h fun σ H Q ⟨f, w, s, st, q⟩ => ⟨f, w, s, st, Po.thn q fun xs w1 s1 v H1 e1 st1 r1 p1 => ?_⟩
  obtain ⟨a, vs, rfl, h1, h2, _⟩ := r1
  exact p1 w1 H1 _ (Ext.refl _) st1 (.inr ⟨a, vs, xs, rfl, rfl, h1, h2⟩)

/-! ### a built-in of one lent value -/
def mB1 (g : D → Option D) (m : M D) : M D := fun s => (m s).bind fun x s1 => ofO (g x) s1
def mB1F (g : D → Option (List D)) (m : M D) : M (List D) := fun s => (m s).bind fun x s1 => ofO (g x) s1
def B1 (K : PySem.W.Frag) (r : List V → Hp → VK → Prop) (g : D → Option D) : Prop := ∀ (f : Fm) (w : Wd) (s : S) (σ : L2.St) (H : Hp) (d z : D) (v : V) (Q : VK), StOk K f w s σ H → RL K f w s σ H d v → g d = some z →
  (∀ w' H' t, Ext w w' → StOk K f w' s σ H' → Rep K w' z t → Q t H') → r [v] H Q
def B1F (K : PySem.W.Frag) (r : List V → Hp → VK → Prop) (g : D → Option (List D)) : Prop := ∀ (f : Fm) (w : Wd) (s : S) (σ : L2.St) (H : Hp) (d : D) (z : List D) (v : V) (Q : VK), StOk K f w s σ H → RL K f w s σ H d v → g d = some z →
  (∀ w' H' t, Ext w w' → StOk K f w' s σ H' → RF K f w' s σ H' z t → Q t H') → r [v] H Q
def tL1 (K : PySem.W.Frag) (W : WX) (m : M D) : TA := tG K W (fun f w s σ H d vs => ∃ v, vs = [v] ∧ RL K f w s σ H d v) m
theorem a_lend (h : PE X e (tL X.K W m)) (hs : starEach [e] X.env = (false, eval e X.env) :: starEach [] X.env := by rfl) : PA X [e] (tL1 X.K W m) := by
  refine pa_imp (pa_cons h pa_nil hs) fun σ H Q ⟨f, w, s, st, q⟩ => ⟨f, w, s, st, ?_⟩
  cases em : m s with
  | ok a s1 => rw [em] at q; exact fun w' H' b e1 st1 r => q w' H' [b] e1 st1 ⟨b, rfl, r⟩
  | exc y s1 => rw [em] at q; exact q
  | no => rw [em] at q; exact q.elim
variable {r : List V → Hp → VK → Prop}
theorem c_1 {g : D → Option D} (hb : B1 X.K r g) : ∀ σ H Q, tM X.K W (mB1 g m) σ H Q → tCB r (tL1 X.K W m) σ H Q := fun σ H Q ⟨f, w, s, st, q⟩ => by
  refine ⟨f, w, s, st, Po.thn q fun x w1 s1 vs H1 e1 st1 r1 p1 => ?_⟩
  obtain ⟨v, rfl, r1⟩ := r1
  obtain ⟨z, ez, pz⟩ := p1.ofO
  exact hb f w1 s1 σ H1 x z v Q st1 r1 ez pz
theorem c_1F {g : D → Option (List D)} (hb : B1F X.K r g) : ∀ σ H Q, tF X.K W (mB1F g m) σ H Q → tCB r (tL1 X.K W m) σ H Q := fun σ H Q ⟨f, w, s, st, q⟩ => by
  refine ⟨f, w, s, st, Po.thn q fun x w1 s1 vs H1 e1 st1 r1 p1 => ?_⟩
  obtain ⟨v, rfl, r1⟩ := r1
  obtain ⟨z, ez, pz⟩ := p1.ofO
  exact hb f w1 s1 σ H1 x z v Q st1 r1 ez pz
theorem CallR.or {c : Value} {r r' : List V → Hp → VK → Prop} (h : CallR X c r) (h' : CallR X c r') : CallR X c (fun vs H Q => r vs H Q ∨ r' vs H Q) := by
  intro pins s σ H xs us Q I rr q
  rcases q with q | q
  · exact h pins s σ H xs us Q I rr q
  · exact h' pins s σ H xs us Q I rr q

/-! ### len -/
def dLen : D → Option D
  | .lst xs => some (.int xs.length)
  | .tup xs => some (.int xs.length)
  | .str z => if z.length ≤ sizeLine then some (.int z.length) else none
  | .scr ns => some (.int ns.length)
  | _ => none
theorem len_ok {K : PySem.W.Frag} : B1 K (fun xs H Q => ∃ x n, xs = [x] ∧ LenV K x H n ∧ Q (.int (n : Nat)) H) dLen := by
  intro f w s σ H d z v Q st rv ez q
  unfold dLen at ez
  split at ez
  · cases ez
    obtain ⟨p, vs, rfl, h1, h2⟩ := rv.lst st
    exact ⟨_, _, rfl, .inl ⟨vs, .inl (.inl h1), rfl⟩, q w H _ (Ext.refl w) st (by show _ = _; rw [h2.length])⟩
  · cases ez
    obtain ⟨p, vs, rfl, h1, h2⟩ := rv.tup st
    exact ⟨_, _, rfl, .inr ⟨vs, h1, rfl⟩, q w H _ (Ext.refl w) st (by show _ = _; rw [h2.length])⟩
  · split at ez
    · rename_i hz
      cases ez
      have hv := rv.rep (fun _ z => nomatch z)
      exact ⟨_, _, rfl, by rw [show v = _ from hv]; exact ⟨hz, rfl⟩, q w H _ (Ext.refl w) st rfl⟩
    · cases ez
  · cases ez
    obtain ⟨p, rfl, h1⟩ := st.scr (rv.rep (fun _ z => nomatch z))
    exact ⟨_, _, rfl, .inl ⟨_, h1, rfl⟩, q w H _ (Ext.refl w) st (by show _ = _; rw [List.length_map])⟩
  · cases ez
theorem q_len {m : M D} (hg : Gl X "len") (hm : X.mg "len" = none) (ha : PE X e (tL X.K W m)) (he : starEach [e] X.env = (false, eval e X.env) :: starEach [] X.env := by rfl) (hpl : (backTo pos (starEach [] X.env)).any (·.1) = false := by rfl) :
    PE X (.Call (.Name "len" p) [e] [] pos) (tM X.K W (mB1 dLen m)) :=
  pe_imp (pe_callB call_len hg hm (by decide +kernel) (a_lend ha he) (he := he) (hpl := hpl)) (c_1 len_ok)
end
end Pv
end PvK_

section PvL_
set_option Elab.async false
set_option linter.all false
set_option maxRecDepth 100000
set_option maxHeartbeats 4000000
namespace Pv
open PySem PySem.Spec PyProof.Rows L2

/-! ### max, min, sum of a tuple of ints -/
section
variable {P : Program} {w : World} {A : Around} {E : Value → Shared → Prop} {s : Shared} {l : Addr} {its : List Value} {ns : List Int} {Q : Value → Shared → Prop}
theorem tup_walked {xs : Array (Int × Tok)} {Qi : Value → Shared → Prop} (hl : s.heap.IsTuple l (intItems xs))
    (h : ∀ s₂ : Shared, (∃ o : Obj, s₂ = { s with heap := s.heap.push o }) → (s₂.heap.IsTupleIter s.heap.objs.size l 0 ∧ s₂.heap.IsTuple l (intItems xs)) → (∀ b ∈ [s.heap.objs.size, l], b < s₂.heap.objs.size) → l ≠ s.heap.objs.size →
      Qi (.ref s.heap.objs.size) s₂) : wpAny (model P w) A (pyIter (.ref l)) Qi E s := by
  obtain ⟨o, eo, rest⟩ := id hl
  have small : l < s.heap.objs.size := Heap.lt_size eo
  refine wpAny_pyIter_tuple hl (h _ ⟨_, rfl⟩ (And.intro ⟨_, Heap.get?_push_size _ rfl, rfl, rfl⟩ (hl.push _)) (fun b mem => ?_) (Nat.ne_of_lt small))
  show b < (s.heap.push _).objs.size
  rw [Heap.size_push]
  have two : b = s.heap.objs.size ∨ b = l := by simpa using mem
  rcases two with z | z
  · rw [z]; exact Nat.lt_succ_self _
  · rw [z]; exact Nat.lt_succ_of_lt small
theorem still_there {o : Obj} {h' : Heap} (hk : ∀ b u, b ∉ [s.heap.objs.size] → (s.heap.push o).get? b = some u → h'.get? b = some u) (b : Addr) (u : Obj) (e : s.heap.get? b = some u) : h'.get? b = some u := by
  have lt := Heap.lt_size e
  exact hk b u (fun mem => Nat.ne_of_lt lt (List.mem_singleton.mp mem)) (Heap.get?_push_of_some _ e)
theorem sum_tup (hh : A.handled = none) (hl : s.heap.IsTuple l its.toArray) (hi : IntsAre its ns) (h : ∀ h' tk t', (∀ b o, s.heap.get? b = some o → h'.get? b = some o) → Q (.int ns.sum t') { s with heap := h', toks := tk }) :
    wpAny (model P w) A (call (.builtin "sum") [.ref l]) Q E s := by
  obtain ⟨xs, ex⟩ := hi.allInts.items
  have hn : xs.toList.map (·.1) = ns := by rw [← nums_intItems, ← ex]; exact hi.numsOf
  rw [ex] at hl
  refine call_sum_walkG (tup_walked hl fun s₂ ⟨o, e2⟩ st fp ne => ?_)
  subst e2
  refine ⟨_, _, _, _, _, _, numAt xs, rfl, Walks.tuple (A := A.in1) hh _ l ne (intItems xs), st, fp, fun _ _ => intItems_at, fun h' tk t' hk => ?_⟩
  have g := h h' tk t' (still_there hk)
  have z : preSum (numAt xs) (intItems xs).size = ns.sum := by
    rw [preSum_eq, List.take_of_length_le (by simp [intItems]), hn]
  rw [z]
  exact g
theorem max_tup (hh : A.handled = none) (hl : s.heap.IsTuple l its.toArray) (hi : IntsAre its ns) (hne : 0 < ns.length)
    (h : ∀ h' tk m t', (∀ b o, s.heap.get? b = some o → h'.get? b = some o) → m ∈ ns → (∀ a, a ∈ ns → a ≤ m) → Q (.int m t') { s with heap := h', toks := tk }) : wpAny (model P w) A (call (.builtin "max") [.ref l]) Q E s := by
  obtain ⟨xs, ex⟩ := hi.allInts.items
  have hn : xs.toList.map (·.1) = ns := by rw [← nums_intItems, ← ex]; exact hi.numsOf
  rw [ex] at hl
  have size : xs.size = ns.length := by rw [← hn]; simp
  have isz : (intItems xs).size = xs.size := by simp [intItems]
  refine call_max_walk (tup_walked hl fun s₂ ⟨o, e2⟩ st fp ne => ?_)
  subst e2
  refine ⟨_, _, _, _, _, _, _, rfl, Walks.tuple (A := A.in1) hh _ l ne (intItems xs), st, fp, by rw [isz, size]; exact hne, CmpOf.ints_gt (numAt xs) fun _ _ => intItems_at, fun v h' tk hP hk => ?_⟩
  obtain ⟨t, rfl⟩ := intItems_at hP
  rw [isz]
  have best := argBest_gt (numAt xs) (xs.size - 1)
  refine h h' tk _ t (still_there hk) ?_ fun a ma => ?_
  · rw [numAt_eq, hn]
    exact PySem.getD_mem (by omega)
  · obtain ⟨j, lt, rfl⟩ := mem_getD ma
    have := best.2 j (by omega)
    rw [← hn, ← numAt_eq]
    exact this
theorem min_tup (hh : A.handled = none) (hl : s.heap.IsTuple l its.toArray) (hi : IntsAre its ns) (hne : 0 < ns.length)
    (h : ∀ h' tk m t', (∀ b o, s.heap.get? b = some o → h'.get? b = some o) → m ∈ ns → (∀ a, a ∈ ns → m ≤ a) → Q (.int m t') { s with heap := h', toks := tk }) : wpAny (model P w) A (call (.builtin "min") [.ref l]) Q E s := by
  obtain ⟨xs, ex⟩ := hi.allInts.items
  have hn : xs.toList.map (·.1) = ns := by rw [← nums_intItems, ← ex]; exact hi.numsOf
  rw [ex] at hl
  have size : xs.size = ns.length := by rw [← hn]; simp
  have isz : (intItems xs).size = xs.size := by simp [intItems]
  refine call_min_walk (tup_walked hl fun s₂ ⟨o, e2⟩ st fp ne => ?_)
  subst e2
  refine ⟨_, _, _, _, _, _, _, rfl, Walks.tuple (A := A.in1) hh _ l ne (intItems xs), st, fp, by rw [isz, size]; exact hne, CmpOf.ints_lt (numAt xs) fun _ _ => intItems_at, fun v h' tk hP hk => ?_⟩
  obtain ⟨t, rfl⟩ := intItems_at hP
  rw [isz]
  have best := argBest_lt (numAt xs) (xs.size - 1)
  refine h h' tk _ t (still_there hk) ?_ fun a ma => ?_
  · rw [numAt_eq, hn]
    exact PySem.getD_mem (by omega)
  · obtain ⟨j, lt, rfl⟩ := mem_getD ma
    have := best.2 j (by omega)
    rw [← hn, ← numAt_eq]
    exact this
end
section
variable {X : Cx}
def rSumT (K : PySem.W.Frag) : List V → Hp → VK → Prop := fun vs H Q => ∃ (a : Addr) (ns : List Int), vs = [V.ref a] ∧ SqT K H a (ns.map V.int) ∧ Q (.int ns.sum) H
def rMaxT (K : PySem.W.Frag) : List V → Hp → VK → Prop := fun vs H Q => ∃ (a : Addr) (ns : List Int), vs = [V.ref a] ∧ SqT K H a (ns.map V.int) ∧ 0 < ns.length ∧ ∀ m, m ∈ ns → (∀ y, y ∈ ns → y ≤ m) → Q (.int m) H
def rMinT (K : PySem.W.Frag) : List V → Hp → VK → Prop := fun vs H Q => ∃ (a : Addr) (ns : List Int), vs = [V.ref a] ∧ SqT K H a (ns.map V.int) ∧ 0 < ns.length ∧ ∀ m, m ∈ ns → (∀ y, y ∈ ns → m ≤ y) → Q (.int m) H
theorem cr_sumT (hc : X.calm = true) : CallR X (.builtin "sum") (rSumT X.K) := by
  intro pins s σ H vs us Q I r ⟨a, ns, e, hs, q⟩
  subst e
  obtain ⟨its, rv, ht, _⟩ := I.tuple hs
  rw [Vals.ref1 r]
  exact sum_tup (I.ok.hd hc) (show s.heap.IsTuple a its.toArray from ht) rv.ints fun h' tk t' hk => ⟨V.int _, H, I.kept hk, ⟨_, rfl⟩, q⟩
theorem cr_maxT (hc : X.calm = true) : CallR X (.builtin "max") (rMaxT X.K) := by
  intro pins s σ H vs us Q I r ⟨a, ns, e, hs, hne, q⟩
  subst e
  obtain ⟨its, rv, ht, _⟩ := I.tuple hs
  rw [Vals.ref1 r]
  exact max_tup (I.ok.hd hc) (show s.heap.IsTuple a its.toArray from ht) rv.ints hne fun h' tk m t' hk h1 h2 => ⟨V.int _, H, I.kept hk, ⟨_, rfl⟩, q m h1 h2⟩
theorem cr_minT (hc : X.calm = true) : CallR X (.builtin "min") (rMinT X.K) := by
  intro pins s σ H vs us Q I r ⟨a, ns, e, hs, hne, q⟩
  subst e
  obtain ⟨its, rv, ht, _⟩ := I.tuple hs
  rw [Vals.ref1 r]
  exact min_tup (I.ok.hd hc) (show s.heap.IsTuple a its.toArray from ht) rv.ints hne fun h' tk m t' hk h1 h2 => ⟨V.int _, H, I.kept hk, ⟨_, rfl⟩, q m h1 h2⟩
end

/-! ### data that are all ints, truths, texts -/
def intsD : List D → Option (List Int)
  | [] => some []
  | .int i :: r => (intsD r).map (i :: ·)
  | _ :: _ => none
def blsD : List D → Option (List Bool)
  | [] => some []
  | .bl i :: r => (blsD r).map (i :: ·)
  | _ :: _ => none
def strsD : List D → Option (List Str)
  | [] => some []
  | .str i :: r => (strsD r).map (i :: ·)
  | _ :: _ => none
theorem intsD_eq : ∀ {xs : List D} {ns : List Int}, intsD xs = some ns → xs = ns.map D.int
  | [], ns, h => by cases h; rfl
  | .int i :: r, ns, h => by
    have h' : (intsD r).map (i :: ·) = some ns := h
    cases e : intsD r with
    | none => rw [e] at h'; cases h'
    | some m => rw [e] at h'; cases h'; rw [intsD_eq e]; rfl
theorem blsD_eq : ∀ {xs : List D} {ns : List Bool}, blsD xs = some ns → xs = ns.map D.bl
  | [], ns, h => by cases h; rfl
  | .bl i :: r, ns, h => by
    have h' : (blsD r).map (i :: ·) = some ns := h
    cases e : blsD r with
    | none => rw [e] at h'; cases h'
    | some m => rw [e] at h'; cases h'; rw [blsD_eq e]; rfl
theorem strsD_eq : ∀ {xs : List D} {ns : List Str}, strsD xs = some ns → xs = ns.map D.str
  | [], ns, h => by cases h; rfl
  | .str i :: r, ns, h => by
    have h' : (strsD r).map (i :: ·) = some ns := h
    cases e : strsD r with
    | none => rw [e] at h'; cases h'
    | some m => rw [e] at h'; cases h'; rw [strsD_eq e]; rfl
@[simp] theorem intsD_map : ∀ (ns : List Int), intsD (ns.map D.int) = some ns
  | [] => rfl
  | n :: ns => by show (intsD (ns.map D.int)).map (n :: ·) = _; rw [intsD_map ns]; rfl
@[simp] theorem blsD_map : ∀ (ns : List Bool), blsD (ns.map D.bl) = some ns
  | [] => rfl
  | n :: ns => by show (blsD (ns.map D.bl)).map (n :: ·) = _; rw [blsD_map ns]; rfl
@[simp] theorem strsD_map : ∀ (ns : List Str), strsD (ns.map D.str) = some ns
  | [] => rfl
  | n :: ns => by show (strsD (ns.map D.str)).map (n :: ·) = _; rw [strsD_map ns]; rfl

/-- the greatest of a list, the least -/
def maxL : List Int → Option Int
  | [] => none
  | a :: r => some (r.foldl max a)
def minL : List Int → Option Int
  | [] => none
  | a :: r => some (r.foldl min a)
theorem foldl_max_ge : ∀ (r : List Int) (a : Int), a ≤ r.foldl max a ∧ ∀ y ∈ r, y ≤ r.foldl max a
  | [], a => ⟨Int.le_refl _, fun _ h => by cases h⟩
  | b :: r, a => by
    obtain ⟨h1, h2⟩ := foldl_max_ge r (max a b)
    refine ⟨by show a ≤ r.foldl max (max a b); omega, fun y hy => ?_⟩
    show y ≤ r.foldl max (max a b)
    rcases List.mem_cons.mp hy with z | z
    · omega
    · exact h2 y z
theorem foldl_max_mem : ∀ (r : List Int) (a : Int), r.foldl max a ∈ a :: r
  | [], a => by simp
  | b :: r, a => by
    have h := foldl_max_mem r (max a b)
    show r.foldl max (max a b) ∈ _
    rcases List.mem_cons.mp h with z | z
    · rw [z]
      rcases Int.le_total a b with q | q
      · rw [Int.max_eq_right q]; simp
      · rw [Int.max_eq_left q]; simp
    · simp [z]
theorem foldl_min_le : ∀ (r : List Int) (a : Int), r.foldl min a ≤ a ∧ ∀ y ∈ r, r.foldl min a ≤ y
  | [], a => ⟨Int.le_refl _, fun _ h => by cases h⟩
  | b :: r, a => by
    obtain ⟨h1, h2⟩ := foldl_min_le r (min a b)
    refine ⟨by show r.foldl min (min a b) ≤ a; omega, fun y hy => ?_⟩
    show r.foldl min (min a b) ≤ y
    rcases List.mem_cons.mp hy with z | z
    · omega
    · exact h2 y z
theorem foldl_min_mem : ∀ (r : List Int) (a : Int), r.foldl min a ∈ a :: r
  | [], a => by simp
  | b :: r, a => by
    have h := foldl_min_mem r (min a b)
    show r.foldl min (min a b) ∈ _
    rcases List.mem_cons.mp h with z | z
    · rw [z]
      rcases Int.le_total a b with q | q
      · rw [Int.min_eq_left q]; simp
      · rw [Int.min_eq_right q]; simp
    · simp [z]
theorem maxL_spec {ns : List Int} {m : Int} (h : maxL ns = some m) : m ∈ ns ∧ ∀ y ∈ ns, y ≤ m := by
  cases ns with
  | nil => cases h
  | cons a r =>
    cases h
    obtain ⟨h1, h2⟩ := foldl_max_ge r a
    exact ⟨foldl_max_mem r a, fun y hy => by rcases List.mem_cons.mp hy with z | z; · rw [z]; exact h1
                                             · exact h2 y z⟩
theorem minL_spec {ns : List Int} {m : Int} (h : minL ns = some m) : m ∈ ns ∧ ∀ y ∈ ns, m ≤ y := by
  cases ns with
  | nil => cases h
  | cons a r =>
    cases h
    obtain ⟨h1, h2⟩ := foldl_min_le r a
    exact ⟨foldl_min_mem r a, fun y hy => by rcases List.mem_cons.mp hy with z | z; · rw [z]; exact h1
                                             · exact h2 y z⟩
theorem maxL_of {ns : List Int} {m : Int} (h1 : m ∈ ns) (h2 : ∀ y ∈ ns, y ≤ m) : maxL ns = some m := by
  cases e : maxL ns with
  | none =>
    cases ns with
    | nil => cases h1
    | cons a r => cases e
  | some k =>
    obtain ⟨q1, q2⟩ := maxL_spec e
    have := h2 k q1
    have := q2 m h1
    congr 1
    omega
theorem minL_of {ns : List Int} {m : Int} (h1 : m ∈ ns) (h2 : ∀ y ∈ ns, m ≤ y) : minL ns = some m := by
  cases e : minL ns with
  | none =>
    cases ns with
    | nil => cases h1
    | cons a r => cases e
  | some k =>
    obtain ⟨q1, q2⟩ := minL_spec e
    have := h2 k q1
    have := q2 m h1
    congr 1
    omega

/-! ### their built-ins over data -/
def itemsD : D → Option (List D)
  | .lst xs => some xs
  | .tup xs => some xs
  | _ => none
def dSum (d : D) : Option D := ((itemsD d).bind intsD).map fun ns => .int ns.sum
def dMax (d : D) : Option D := (((itemsD d).bind intsD).bind maxL).map .int
def dMin (d : D) : Option D := (((itemsD d).bind intsD).bind minL).map .int
section
variable {K : PySem.W.Frag} {f : Fm} {w : Wd} {s : S} {σ : L2.St} {H : Hp}
/-- a lent list or tuple of ints -/
theorem RL.ints {d : D} {v : V} {xs : List D} {ns : List Int} (st : StOk K f w s σ H) (r : RL K f w s σ H d v) (e1 : itemsD d = some xs) (e2 : intsD xs = some ns) :
    ∃ p, v = .ref p ∧ (SqL K H p (ns.map V.int) ∨ SqT K H p (ns.map V.int)) := by
  have := intsD_eq e2
  subst this
  cases d with
  | lst ys =>
    cases e1
    obtain ⟨p, vs, rfl, h1, h2⟩ := r.lst st
    rw [h2.ints] at h1
    exact ⟨p, rfl, .inl (.inl (.inl h1))⟩
  | tup ys =>
    cases e1
    obtain ⟨p, vs, rfl, h1, h2⟩ := r.tup st
    rw [h2.ints] at h1
    exact ⟨p, rfl, .inr h1⟩
  | _ => cases e1
theorem sum_ok : B1 K (fun vs H Q => rSum K vs H Q ∨ rSumT K vs H Q) dSum := by
  intro f w s σ H d z v Q st rv ez q
  unfold dSum at ez
  cases e1 : itemsD d with
  | none => rw [e1] at ez; cases ez
  | some xs =>
    rw [e1] at ez
    cases e2 : intsD xs with
    | none => simp [e2] at ez
    | some ns =>
      simp [e2] at ez
      subst ez
      obtain ⟨p, rfl, h | h⟩ := rv.ints st e1 e2
      · exact .inl ⟨p, ns, rfl, h, q w H _ (Ext.refl w) st rfl⟩
      · exact .inr ⟨p, ns, rfl, h, q w H _ (Ext.refl w) st rfl⟩
theorem max_ok : B1 K (fun vs H Q => rMax K vs H Q ∨ rMaxT K vs H Q) dMax := by
  intro f w s σ H d z v Q st rv ez q
  unfold dMax at ez
  cases e1 : itemsD d with
  | none => rw [e1] at ez; cases ez
  | some xs =>
    rw [e1] at ez
    cases e2 : intsD xs with
    | none => simp [e2] at ez
    | some ns =>
      simp [e2] at ez
      obtain ⟨m, em, rfl⟩ := ez
      obtain ⟨h1, h2⟩ := maxL_spec em
      have ne : 0 < ns.length := List.length_pos_of_mem h1
      have eq : ∀ k, k ∈ ns → (∀ y, y ∈ ns → y ≤ k) → k = m := fun k a b => by
        have := b m h1
        have := h2 k a
        omega
      obtain ⟨p, rfl, h | h⟩ := rv.ints st e1 e2
      · exact .inl ⟨p, ns, rfl, h, ne, fun k a b => by rw [eq k a b]; exact q w H _ (Ext.refl w) st rfl⟩
      · exact .inr ⟨p, ns, rfl, h, ne, fun k a b => by rw [eq k a b]; exact q w H _ (Ext.refl w) st rfl⟩
theorem min_ok : B1 K (fun vs H Q => rMin K vs H Q ∨ rMinT K vs H Q) dMin := by
  intro f w s σ H d z v Q st rv ez q
  unfold dMin at ez
  cases e1 : itemsD d with
  | none => rw [e1] at ez; cases ez
  | some xs =>
    rw [e1] at ez
    cases e2 : intsD xs with
    | none => simp [e2] at ez
    | some ns =>
      simp [e2] at ez
      obtain ⟨m, em, rfl⟩ := ez
      obtain ⟨h1, h2⟩ := minL_spec em
      have ne : 0 < ns.length := List.length_pos_of_mem h1
      have eq : ∀ k, k ∈ ns → (∀ y, y ∈ ns → k ≤ y) → k = m := fun k a b => by
        have := b m h1
        have := h2 k a
        omega
      obtain ⟨p, rfl, h | h⟩ := rv.ints st e1 e2
      · exact .inl ⟨p, ns, rfl, h, ne, fun k a b => by rw [eq k a b]; exact q w H _ (Ext.refl w) st rfl⟩
      · exact .inr ⟨p, ns, rfl, h, ne, fun k a b => by rw [eq k a b]; exact q w H _ (Ext.refl w) st rfl⟩
def dAll (d : D) : Option D := match d with
  | .lst xs => (blsD xs).map fun bs => .bl (bs.all id)
  | _ => none
def dAny (d : D) : Option D := match d with
  | .lst xs => (blsD xs).map fun bs => .bl (bs.any id)
  | _ => none
theorem all_ok : B1 K (rAll K) dAll := by
  intro f w s σ H d z v Q st rv ez q
  unfold dAll at ez
  split at ez
  · rename_i xs
    cases e : blsD xs with
    | none => rw [e] at ez; cases ez
    | some bs =>
      rw [e] at ez
      cases ez
      have := blsD_eq e
      subst this
      obtain ⟨p, vs, rfl, h1, h2⟩ := rv.lst st
      rw [h2.bls] at h1
      exact ⟨p, bs, rfl, .inl (.inl h1), q w H _ (Ext.refl w) st rfl⟩
  · cases ez
theorem any_ok : B1 K (rAny K) dAny := by
  intro f w s σ H d z v Q st rv ez q
  unfold dAny at ez
  split at ez
  · rename_i xs
    cases e : blsD xs with
    | none => rw [e] at ez; cases ez
    | some bs =>
      rw [e] at ez
      cases ez
      have := blsD_eq e
      subst this
      obtain ⟨p, vs, rfl, h1, h2⟩ := rv.lst st
      rw [h2.bls] at h1
      exact ⟨p, bs, rfl, .inl (.inl h1), q w H _ (Ext.refl w) st rfl⟩
  · cases ez
/-- tuple(x), list(x) -/
def dTuple (d : D) : Option D := match d with
  | .lst xs => some (.tup xs)
  | .tup xs => some (.tup xs)
  | _ => none
theorem tuple_ok : B1 K (fun xs H Q => ∃ p ys, xs = [V.ref p] ∧ ((SqL K H p ys ∧ ∀ (l : Addr), H l = none → Q (V.ref l) (upd H l (HO.tup ys))) ∨ SqT K H p ys ∧ Q (V.ref p) H)) dTuple := by
  intro f w s σ H d z v Q st rv ez q
  unfold dTuple at ez
  split at ez
  · cases ez
    obtain ⟨p, vs, rfl, h1, h2⟩ := rv.lst st
    exact ⟨p, vs, rfl, .inl ⟨.inl (.inl h1), st.newT h2 q⟩⟩
  · cases ez
    obtain ⟨p, vs, e1, h1, h2⟩ := rv.rep (fun _ z => nomatch z)
    subst e1
    exact ⟨p, vs, rfl, .inr ⟨st.tup h1, q w H _ (Ext.refl w) st ⟨p, vs, rfl, h1, h2⟩⟩⟩
  · cases ez
def dList (d : D) : Option (List D) := match d with
  | .lst xs => some xs
  | .tup xs => some xs
  | .scr ns => some (ns.map .int)
  | _ => none
theorem list_ok : B1F K (fun xs H Q => ∃ p ys, xs = [V.ref p] ∧ (SqL K H p ys ∨ SqT K H p ys) ∧ ∀ (l : Addr), H l = none → Q (V.ref l) (upd H l (HO.lst ys))) dList := by
  intro f w s σ H d z v Q st rv ez q
  unfold dList at ez
  split at ez
  · cases ez
    obtain ⟨p, vs, rfl, h1, h2⟩ := rv.lst st
    exact ⟨p, vs, rfl, .inl (.inl (.inl h1)), st.newF h2 q⟩
  · cases ez
    obtain ⟨p, vs, rfl, h1, h2⟩ := rv.tup st
    exact ⟨p, vs, rfl, .inr h1, st.newF h2 q⟩
  · cases ez
    obtain ⟨p, rfl, h1⟩ := st.scr (rv.rep (fun _ z => nomatch z))
    exact ⟨p, _, rfl, .inl h1, st.newF (RepAll.of_ints _) q⟩
  · cases ez
def dAbs (d : D) : Option D := match d with
  | .int i => some (.int (if i < 0 then -i else i))
  | _ => none
def dInt (d : D) : Option D := match d with
  | .int i => some (.int i)
  | .bl k => some (.int (if k = true then 1 else 0))
  | _ => none
def dStr (d : D) : Option D := match d with
  | .int i => if i.natAbs.log2 < 1920 then some (.str (Str.ofString (toString i))) else none
  | _ => none
theorem abs_ok : B1 K (fun xs H Q => ∃ i, xs = [V.int i] ∧ Q (V.int (if i < 0 then -i else i)) H) dAbs := by
  intro f w s σ H d z v Q st rv ez q
  unfold dAbs at ez
  split at ez
  · cases ez
    have hv := rv.rep (fun _ z => nomatch z)
    exact ⟨_, by rw [show v = _ from hv], q w H _ (Ext.refl w) st rfl⟩
  · cases ez
theorem int_ok : B1 K (fun xs H Q => (∃ i, xs = [V.int i] ∧ Q (V.int i) H) ∨ ∃ k, xs = [V.bl k] ∧ Q (V.int (if k = true then 1 else 0)) H) dInt := by
  intro f w s σ H d z v Q st rv ez q
  unfold dInt at ez
  split at ez
  · cases ez
    have hv := rv.rep (fun _ z => nomatch z)
    exact .inl ⟨_, by rw [show v = _ from hv], q w H _ (Ext.refl w) st rfl⟩
  · cases ez
    have hv := rv.rep (fun _ z => nomatch z)
    exact .inr ⟨_, by rw [show v = _ from hv], q w H _ (Ext.refl w) st rfl⟩
  · cases ez
theorem str_ok : B1 K (fun xs H Q => ∃ i, xs = [V.int i] ∧ i.natAbs.log2 < 1920 ∧ Q (V.str (Str.ofString (toString i))) H) dStr := by
  intro f w s σ H d z v Q st rv ez q
  unfold dStr at ez
  split at ez
  · split at ez
    · rename_i hz
      cases ez
      have hv := rv.rep (fun _ z => nomatch z)
      exact ⟨_, by rw [show v = _ from hv], hz, q w H _ (Ext.refl w) st rfl⟩
    · cases ez
  · cases ez
end
section
variable {X : Cx} {W : WX} {e : Expr} {m : M D} {p pos : Pos}
theorem q_sum (hc : X.calm = true) (hg : Gl X "sum") (hm : X.mg "sum" = none) (ha : PE X e (tL X.K W m)) (he : starEach [e] X.env = (false, eval e X.env) :: starEach [] X.env := by rfl) (hpl : (backTo pos (starEach [] X.env)).any (·.1) = false := by rfl) :
    PE X (.Call (.Name "sum" p) [e] [] pos) (tM X.K W (mB1 dSum m)) := pe_imp (pe_callB ((cr_sum hc).or (cr_sumT hc)) hg hm (by decide +kernel) (a_lend ha he) (he := he) (hpl := hpl)) (c_1 sum_ok)
theorem q_max (hc : X.calm = true) (hg : Gl X "max") (hm : X.mg "max" = none) (ha : PE X e (tL X.K W m)) (he : starEach [e] X.env = (false, eval e X.env) :: starEach [] X.env := by rfl) (hpl : (backTo pos (starEach [] X.env)).any (·.1) = false := by rfl) :
    PE X (.Call (.Name "max" p) [e] [] pos) (tM X.K W (mB1 dMax m)) := pe_imp (pe_callB ((cr_max hc).or (cr_maxT hc)) hg hm (by decide +kernel) (a_lend ha he) (he := he) (hpl := hpl)) (c_1 max_ok)
theorem q_min (hc : X.calm = true) (hg : Gl X "min") (hm : X.mg "min" = none) (ha : PE X e (tL X.K W m)) (he : starEach [e] X.env = (false, eval e X.env) :: starEach [] X.env := by rfl) (hpl : (backTo pos (starEach [] X.env)).any (·.1) = false := by rfl) :
    PE X (.Call (.Name "min" p) [e] [] pos) (tM X.K W (mB1 dMin m)) := pe_imp (pe_callB ((cr_min hc).or (cr_minT hc)) hg hm (by decide +kernel) (a_lend ha he) (he := he) (hpl := hpl)) (c_1 min_ok)
theorem q_all (hc : X.calm = true) (hg : Gl X "all") (hm : X.mg "all" = none) (ha : PE X e (tL X.K W m)) (he : starEach [e] X.env = (false, eval e X.env) :: starEach [] X.env := by rfl) (hpl : (backTo pos (starEach [] X.env)).any (·.1) = false := by rfl) :
    PE X (.Call (.Name "all" p) [e] [] pos) (tM X.K W (mB1 dAll m)) := pe_imp (pe_callB (cr_all hc) hg hm (by decide +kernel) (a_lend ha he) (he := he) (hpl := hpl)) (c_1 all_ok)
theorem q_any (hc : X.calm = true) (hg : Gl X "any") (hm : X.mg "any" = none) (ha : PE X e (tL X.K W m)) (he : starEach [e] X.env = (false, eval e X.env) :: starEach [] X.env := by rfl) (hpl : (backTo pos (starEach [] X.env)).any (·.1) = false := by rfl) :
    PE X (.Call (.Name "any" p) [e] [] pos) (tM X.K W (mB1 dAny m)) := pe_imp (pe_callB (cr_any hc) hg hm (by decide +kernel) (a_lend ha he) (he := he) (hpl := hpl)) (c_1 any_ok)
theorem q_abs (hg : Gl X "abs") (hm : X.mg "abs" = none) (ha : PE X e (tL X.K W m)) (he : starEach [e] X.env = (false, eval e X.env) :: starEach [] X.env := by rfl) (hpl : (backTo pos (starEach [] X.env)).any (·.1) = false := by rfl) :
    PE X (.Call (.Name "abs" p) [e] [] pos) (tM X.K W (mB1 dAbs m)) := pe_imp (pe_callB call_abs hg hm (by decide +kernel) (a_lend ha he) (he := he) (hpl := hpl)) (c_1 abs_ok)
theorem q_tint (hg : Gl X "int") (hm : X.mg "int" = none) (ha : PE X e (tL X.K W m)) (he : starEach [e] X.env = (false, eval e X.env) :: starEach [] X.env := by rfl) (hpl : (backTo pos (starEach [] X.env)).any (·.1) = false := by rfl) :
    PE X (.Call (.Name "int" p) [e] [] pos) (tM X.K W (mB1 dInt m)) := pe_imp (pe_callTy call_int1 hg hm (by decide +kernel) (a_lend ha he) (he := he) (hpl := hpl)) (c_1 int_ok)
theorem q_tstr (hg : Gl X "str") (hm : X.mg "str" = none) (ha : PE X e (tL X.K W m)) (he : starEach [e] X.env = (false, eval e X.env) :: starEach [] X.env := by rfl) (hpl : (backTo pos (starEach [] X.env)).any (·.1) = false := by rfl) :
    PE X (.Call (.Name "str" p) [e] [] pos) (tM X.K W (mB1 dStr m)) := pe_imp (pe_callTy call_str_int hg hm (by decide +kernel) (a_lend ha he) (he := he) (hpl := hpl)) (c_1 str_ok)
theorem q_tuple (hg : Gl X "tuple") (hm : X.mg "tuple" = none) (ha : PE X e (tL X.K W m)) (he : starEach [e] X.env = (false, eval e X.env) :: starEach [] X.env := by rfl) (hpl : (backTo pos (starEach [] X.env)).any (·.1) = false := by rfl) :
    PE X (.Call (.Name "tuple" p) [e] [] pos) (tM X.K W (mB1 dTuple m)) := pe_imp (pe_callTy call_tuple_of hg hm (by decide +kernel) (a_lend ha he) (he := he) (hpl := hpl)) (c_1 tuple_ok)
theorem f_list (hg : Gl X "list") (hm : X.mg "list" = none) (ha : PE X e (tL X.K W m)) (he : starEach [e] X.env = (false, eval e X.env) :: starEach [] X.env := by rfl) (hpl : (backTo pos (starEach [] X.env)).any (·.1) = false := by rfl) :
    PE X (.Call (.Name "list" p) [e] [] pos) (tF X.K W (mB1F dList m)) := pe_imp (pe_callTy call_list_of hg hm (by decide +kernel) (a_lend ha he) (he := he) (hpl := hpl)) (c_1F list_ok)
end
end Pv
end PvL_

section PvM_
set_option Elab.async false
set_option linter.all false
set_option maxRecDepth 100000
set_option maxHeartbeats 4000000
namespace Pv
open PySem PySem.Spec PyProof.Rows L2

/-! ### subscripts -/
def look (i : Nat) (s : S) : Option D := match getS i s with
  | .d x => some x
  | .o xs => some (.lst xs)
  | .bx => some .box
  | _ => none
section
variable {K : PySem.W.Frag} {f : Fm} {w : Wd} {s : S} {σ : L2.St} {H : Hp}
theorem StOk.look (st : StOk K f w s σ H) {i : Nat} {x : D} (h : Pv.look i s = some x) : ∃ u, σ[i]? = some (some u) ∧ RL K f w s σ H x u := by
  unfold Pv.look at h
  cases e : getS i s with
  | d y =>
    rw [e] at h
    cases h
    obtain ⟨u, e1, e2⟩ := st.slot i _ (getS_some e (fun z => nomatch z))
    exact ⟨u, join_some e1, .inl e2⟩
  | o xs =>
    rw [e] at h
    cases h
    obtain ⟨q, vs, e1, e2, e3, e4, e5, e6⟩ := st.slot i _ (getS_some e (fun z => nomatch z))
    exact ⟨_, join_some e1, .inr ⟨q, vs, xs, rfl, rfl, e2, e3⟩⟩
  | bx =>
    rw [e] at h
    cases h
    obtain ⟨q, e1, e2⟩ := st.slot i _ (getS_some e (fun z => nomatch z))
    exact ⟨_, join_some e1, .inl ⟨q, rfl, e2⟩⟩
  | no => rw [e] at h; cases h
  | ok _ => rw [e] at h; cases h
  | ot _ => rw [e] at h; cases h
def boxL (b : Int × Int × Int) : List Int := [b.1, b.2.1, b.2.2]
/-- x[y] -/
def dIx (x y : D) (s : S) : Option D := match x, y with
  | .lst xs, .int i => atI xs i
  | .tup xs, .int i => atI xs i
  | .str z, .int i => if z.length ≤ sizeLine then (atI z.cps.toList i).map fun c => .str ⟨#[c]⟩ else none
  | .scr ns, .int i => (atI ns i).map .int
  | .box, .int i => (atI (boxL s.box) i).map .int
  | _, _ => none
theorem atI_rep {xs : List D} {vs : List V} {i : Int} {d : D} (r : RepAll K w xs vs) (h : atI xs i = some d) : ∃ v, atI vs i = some v ∧ Rep K w d v := by
  unfold atI at h ⊢
  rw [r.length]
  cases e : ixN xs.length i with
  | none => rw [e] at h; cases h
  | some j =>
    rw [e] at h
    exact r.get h
theorem atI_map {α β : Type} {xs : List α} {g : α → β} {i : Int} {d : α} (h : atI xs i = some d) : atI (xs.map g) i = some (g d) := by
  unfold atI at h ⊢
  rw [List.length_map]
  cases e : ixN xs.length i with
  | none => rw [e] at h; cases h
  | some j =>
    rw [e] at h
    have h' : xs[j]? = some d := h
    show (xs.map g)[j]? = _
    rw [List.getElem?_map, h']
    rfl
theorem ix_ok {x y z : D} {v u : V} {Q : VK} (st : StOk K f w s σ H) (rx : RL K f w s σ H x v) (ry : Rep K w y u) (h : dIx x y s = some z) (q : ∀ t, Rep K w z t → Q t H) : rIx K v u H Q := by
  unfold dIx at h
  split at h
  · obtain ⟨p, vs, rfl, h1, h2⟩ := rx.lst st
    obtain ⟨t, e, r⟩ := atI_rep h2 h
    exact .inl ⟨p, vs, _, t, rfl, ry, .inl (.inl h1), e, q t r⟩
  · obtain ⟨p, vs, rfl, h1, h2⟩ := rx.tup st
    obtain ⟨t, e, r⟩ := atI_rep h2 h
    exact .inr (.inl ⟨p, vs, _, t, rfl, ry, h1, e, q t r⟩)
  · split at h
    · rename_i hz
      obtain ⟨c, e, rfl⟩ := Option.map_eq_some_iff.mp h
      exact .inr (.inr ⟨_, _, c, rx.rep (fun _ z => nomatch z), ry, hz, e, q _ rfl⟩)
    · cases h
  · obtain ⟨n, e, rfl⟩ := Option.map_eq_some_iff.mp h
    obtain ⟨p, rfl, h1⟩ := st.scr (rx.rep (fun _ z => nomatch z))
    exact .inl ⟨p, _, _, _, rfl, ry, h1, atI_map e, q _ rfl⟩
  · obtain ⟨n, e, rfl⟩ := Option.map_eq_some_iff.mp h
    obtain ⟨p, rfl, h1⟩ := rx.rep (fun _ z => nomatch z)
    exact .inl ⟨p, (boxL s.box).map V.int, _, _, rfl, ry, .inl (.inl (st.bx p h1).1), atI_map e, q _ rfl⟩
  · cases h
/-- xs[lo:hi] -/
def cutD {α : Type} (xs : List α) (lo hi : Option Int) : List α := (xs.drop (HT.sIx xs.length 0 lo)).take (HT.sIx xs.length xs.length hi - HT.sIx xs.length 0 lo)
def dSl (x : D) (lo hi : Option Int) : Option D := match x with
  | .lst xs => some (.lst (cutD xs lo hi))
  | .tup xs => some (.tup (cutD xs lo hi))
  | .str z => if z.length ≤ sizeLine then some (.str (cutS z lo hi)) else none
  | .scr ns => some (.lst ((cutD ns lo hi).map .int))
  | _ => none
theorem RepAll.cut {xs : List D} {vs : List V} (r : RepAll K w xs vs) (lo hi : Option Int) : RepAll K w (cutD xs lo hi) (cutV vs lo hi) := by
  unfold cutD cutV
  rw [r.length]
  exact RepAll.take _ (RepAll.drop _ r)
theorem sl_ok {x z : D} {v : V} {lo hi : Option Int} {Q : VK} (st : StOk K f w s σ H) (rx : Rep K w x v) (h : dSl x lo hi = some z) (q : ∀ w' H' t, Ext w w' → StOk K f w' s σ H' → Rep K w' z t → Q t H') :
    rSlL K v lo hi H Q ∨ rSlA K v lo hi H Q ∨ rSlS v lo hi H Q := by
  unfold dSl at h
  split at h
  · cases h
    obtain ⟨p, vs, rfl, h1, h2⟩ := rx
    exact .inl ⟨p, vs, rfl, .inl (.inl (st.sub _ _ h1)), st.newL (h2.cut lo hi) q⟩
  · cases h
    obtain ⟨p, vs, rfl, h1, h2⟩ := rx
    refine .inr (.inl ⟨p, vs, rfl, st.tup h1, fun hw => q w H _ (Ext.refl w) st ⟨p, vs, rfl, h1, ?_⟩, fun _ => st.newT (h2.cut lo hi) q⟩)
    have e : cutV vs lo hi = vs := by
      unfold cutV
      rw [hw.1, hw.2]
      simp
    have g := h2.cut lo hi
    rw [e] at g
    exact g
  · split at h
    · rename_i hz
      cases h
      exact .inr (.inr ⟨_, rx, hz, q w H _ (Ext.refl w) st rfl⟩)
    · cases h
  · cases h
    obtain ⟨p, rfl, h1⟩ := st.scr rx
    refine .inl ⟨p, _, rfl, h1, st.newL ?_ q⟩
    have e : ∀ ns : List Int, cutV (ns.map V.int) lo hi = (cutD ns lo hi).map V.int := fun ns => by
      unfold cutV cutD
      rw [List.length_map, List.map_take, List.map_drop]
    rw [e]
    exact RepAll.of_ints _
  · cases h
end
section
variable {X : Cx} {W : WX} {a b e : Expr} {pos p2 : Pos} {ma mb m : M D}
def mIxN (i : Nat) (mb : M D) : M D := fun s => match look i s with
  | none => .no
  | some _ => (mb s).bind fun y s1 => match look i s1 with
    | none => .no
    | some x => ofO (dIx x y s1) s1
/-- a name's item -/
theorem q_ixN (i : Nat) {x : Str} {p : Pos} (hb : PE X b (tM X.K W mb)) (hN : X.N[i]? = some x := by rfl) (hv : Vis X.env.scope x := by first | exact Or.inl rfl | exact Or.inr (Or.inl rfl) | exact Or.inr (Or.inr rfl)) (hd : (x == ("__debug__" : Str)) = false := by decide)
    (hcd : (x == ("__classdict__" : Str)) = false := by decide) (hs : PlainIx b := by exact fun _ _ => rfl) : PE X (.Subscript (.Name x p) b pos) (tM X.K W (mIxN i mb)) := by
  refine pe_imp (pe_ix ix_seq (pe_var hN hv hd hcd) hb hs) fun σ H Q ⟨f, w, s, st, q⟩ => ?_
  unfold mIxN at q
  cases e0 : look i s with
  | none => rw [e0] at q; exact q.elim
  | some x0 =>
    rw [e0] at q
    obtain ⟨u, eu, _⟩ := st.look e0
    refine ⟨u, eu, f, w, s, st, Po.thn q fun y w1 s1 v H1 e1 st1 r1 p1 => ?_⟩
    cases e2 : look i s1 with
    | none => rw [e2] at p1; exact p1.elim
    | some x1 =>
      rw [e2] at p1
      obtain ⟨u1, eu1, rx⟩ := st1.look e2
      rw [eu] at eu1
      cases eu1
      obtain ⟨z, ez, pz⟩ := p1.ofO
      exact ix_ok st1 rx r1 ez fun t rt => pz w1 H1 t (Ext.refl _) st1 rt
def mIx (ma mb : M D) : M D := fun s => (ma s).bind fun x s1 => (mb s1).bind fun y s2 => ofO (dIx x y s2) s2
theorem q_ix (ha : PE X a (tM X.K W ma)) (hb : PE X b (tM X.K W mb)) (hs : PlainIx b := by exact fun _ _ => rfl) : PE X (.Subscript a b pos) (tM X.K W (mIx ma mb)) := by
  refine pe_imp (pe_ix ix_seq ha hb hs) fun σ H Q ⟨f, w, s, st, q⟩ => ?_
  refine ⟨f, w, s, st, Po.thn q fun x w1 s1 v H1 e1 st1 r1 p1 => ⟨f, w1, s1, st1, Po.thn p1 fun y w2 s2 u H2 e2 st2 r2 p2 => ?_⟩⟩
  obtain ⟨z, ez, pz⟩ := p2.ofO
  exact ix_ok st2 (.inl (Rep.mono e2 r1)) r2 ez fun t rt => pz w2 H2 t (Ext.refl _) st2 rt

/-! ### slices -/
abbrev tOI (K : PySem.W.Frag) (W : WX) (m : M (Option Int)) : TO := tG K W (fun _ _ _ _ _ a b => b = a) m
def oNo : M (Option Int) := fun s => .ok none s
def oIn (m : M D) : M (Option Int) := fun s => (m s).bind fun x s1 => match x with
  | .int i => .ok (some i) s1
  | _ => .no
theorem o_no : PO X none (tOI X.K W oNo) := ⟨fun pins s σ H Q I ⟨f, w, s', st, q⟩ => po_none.run pins s σ H Q I (q w H none (Ext.refl _) st rfl)⟩
theorem o_in (h : PE X e (tM X.K W m)) : PO X (some e) (tOI X.K W (oIn m)) := ⟨fun pins s σ H Q I ⟨f, w, s', st, q⟩ => (po_some h).run pins s σ H Q I ⟨f, w, s', st, Po.thn q fun x w1 s1 v H1 e1 st1 r1 p1 => by
  cases x with
  | int i => exact ⟨i, r1, p1 w1 H1 _ (Ext.refl _) st1 rfl⟩
  | _ => exact p1.elim⟩⟩
def mSl (ma : M D) (ml mh : M (Option Int)) : M D := fun s => (ma s).bind fun x s1 => (ml s1).bind fun lo s2 => (mh s2).bind fun hi s3 => ofO (dSl x lo hi) s3
theorem q_sl {lo hi : Option Expr} {ml mh : M (Option Int)} (ha : PE X a (tM X.K W ma)) (hl : PO X lo (tOI X.K W ml)) (hh : PO X hi (tOI X.K W mh)) : PE X (.Subscript a (.Slice lo hi none p2) pos) (tM X.K W (mSl ma ml mh)) := by
  refine pe_imp (pe_slice (sl_list.or (sl_tupA.or sl_str)) ha hl hh) fun σ H Q ⟨f, w, s, st, q⟩ => ?_
  refine ⟨f, w, s, st, Po.thn q fun x w1 s1 v H1 e1 st1 r1 p1 => ⟨f, w1, s1, st1, Po.thn p1 fun l w2 s2 l' H2 e2 st2 r2 p2 => ⟨f, w2, s2, st2, Po.thn p2 fun h w3 s3 h' H3 e3 st3 r3 p3 => ?_⟩⟩⟩
  have r2' : l' = l := r2
  have r3' : h' = h := r3
  subst r2' r3'
  obtain ⟨z, ez, pz⟩ := p3.ofO
  exact sl_ok st3 (Rep.mono (e2.trans e3) r1) ez pz
end

/-! ### t[::-1] -/
section
variable {P : Program} {w : World} {A : Around} {E : Value → Shared → Prop} {s : Shared}
theorem places_back (n : Nat) : Builtin.Slice.slicePlaces ((n : Int) - 1) (-1) (-1) = n := by
  unfold Builtin.Slice.slicePlaces
  rw [if_neg (by decide)]
  by_cases h : (n : Int) - 1 > -1
  · rw [if_pos h, show (- -1 : Int) = 1 from rfl, Int.ediv_one]
    omega
  · rw [if_neg h]
    omega
theorem pick_back (xs : Array Value) : ((List.range xs.size).filterMap fun (k : Nat) => xs[((xs.size : Int) - 1 + (k : Int) * (-1)).toNat]?).toArray = xs.toList.reverse.toArray := by
  congr 1
  have e : (List.range xs.size).filterMap (fun (k : Nat) => xs[((xs.size : Int) - 1 + (k : Int) * (-1)).toNat]?) = ((List.range xs.size).map fun k => xs.size - 1 - k).filterMap (xs[·]?) := by
    rw [List.filterMap_map]
    have g : ∀ l : List Nat, (∀ k ∈ l, k < xs.size) → l.filterMap (fun (k : Nat) => xs[((xs.size : Int) - 1 + (k : Int) * (-1)).toNat]?) = l.filterMap ((xs[·]?) ∘ fun k => xs.size - 1 - k) := fun l => by
      induction l with
      | nil => intro _; rfl
      | cons k r ih =>
        intro hk
        have lt := hk k (by simp)
        have en : ((xs.size : Int) - 1 + (k : Int) * (-1)).toNat = xs.size - 1 - k := by omega
        rw [List.filterMap_cons, List.filterMap_cons, ih fun j hj => hk j (by simp [hj]), en]
        rfl
    exact g _ fun k hk => List.mem_range.mp hk
  rw [e, PySem.W.krv_range, List.filterMap_reverse, PySem.W.krv_all]
theorem tuple_back {t sl : Addr} {items : Array Value} {vs : Value} {Q : Value → Shared → Prop} (tt : IsTup s.heap t items) (hs : s.heap.IsSliceOf sl .none .none vs) (ps : IsPart vs (some (-1)))
    (h : Q (.ref s.heap.objs.size) { s with heap := s.heap.push { cls := .type "tuple", data := .seq items.toList.reverse.toArray } }) (hsz : items.size ≤ sizeLine) : wpAny (model P w) A (getItem (.ref t) (.ref sl)) Q E s := by
  have fits : sizeOk (.seq items.toList.reverse.toArray) := by
    show items.toList.reverse.toArray.size ≤ sizeLine
    simpa using hsz
  obtain ⟨os, hos, hcs, hds⟩ := id hs
  have slT : s.TypeIs (.ref sl) "slice" := ⟨os, hos, hcs⟩
  unfold getItem
  try with_reducible refine wpAny_holding ?_
  first | refine wpAny_bind (wpAny_pure ?_) | skip
  refine wpAny_bind (wpAny_sequenceKey tt.typeIs (by decide) ?_)
  refine wpAny_bind (wpAny_callSpecial?_slot (name := Str.ofString "__getitem__") tt.typeIs PyProof.Rows.slot_tuple_getitem (wpAny_call_entry PyProof.Rows.slot_tuple_getitem tt.typeIs entry_tuple_getitem ?_ (args_tuple_getitem _ _)))
  show wpAny _ _ (Builtin.Tuple.tupleItemsOf (.ref t) >>= _) _ _ s
  refine wpAny_bind (tupleItemsOf_ tt ?_)
  refine wpAny_bind (wpAny_typeOf slT ?_)
  rw [if_pos (by decide)]
  refine wpAny_bind (m := Builtin.Slice.sliceApplied _ _) ?_
  unfold Builtin.Slice.sliceApplied Builtin.Slice.sliceFields
  refine wpAny_bind (wpAny_bind (wpAny_field hos hds (x := .none) rfl (wpAny_bind (wpAny_field hos hds (x := .none) rfl (wpAny_bind (wpAny_field hos hds (x := vs) rfl (wpAny_pure ?_)))))))
  refine wpAny_bind (HT.slicePart_ ps ?_)
  show wpAny _ _ (if ((-1 : Int) == 0) = true then _ else _) _ _ s
  rw [if_neg (by decide)]
  refine wpAny_bind (slicePart_none (wpAny_bind (slicePart_none (wpAny_bind (wpAny_pure ?_)))))
  show wpAny _ _ (pure (((items.size : Int) - 1), (-1 : Int), Builtin.Slice.slicePlaces ((items.size : Int) - 1) (-1) (-1))) _ _ s
  rw [places_back]
  refine wpAny_pure ?_
  have hno : ¬ ((((items.size : Int) - 1) == 0 && (-1 : Int) == 1 && items.size == items.size) = true) := by simp
  show wpAny _ _ (if (((items.size : Int) - 1) == 0 && (-1 : Int) == 1 && items.size == items.size) = true then _ else _) _ _ s
  rw [if_neg hno, pick_back]
  first
    | exact wpAny_bind (m := Builtin.Tuple.tupleExact _) (wpAny_newObj_type (wpAny_pure ⟨_, rfl, wpAny_pure h⟩) fits)
    | exact wpAny_bind (m := Builtin.Tuple.tupleExact _) (wpAny_newObj_type (wpAny_bind (wpAny_pure (wpAny_pure ⟨_, rfl, wpAny_pure h⟩))) fits)
    | exact wpAny_bind (wpAny_bind (m := Builtin.Tuple.tupleExact _) (wpAny_newObj_type (wpAny_pure (wpAny_pure ⟨_, rfl, wpAny_pure h⟩)) fits))
    | exact wpAny_bind (wpAny_bind (m := Builtin.Tuple.tupleExact _) (wpAny_newObj_type (wpAny_pure ⟨_, rfl, wpAny_pure h⟩) fits))
end
def tBack (K : PySem.W.Frag) (te : TE) : TE := fun σ H Q => te σ H fun x H1 => ∃ a xs, x = .ref a ∧ ((SqL K H1 a xs ∧ ∀ p, H1 p = none → Q (.ref p) (upd H1 p (.lst xs.reverse))) ∨ (SqT K H1 a xs ∧ ∀ p, H1 p = none → Q (.ref p) (upd H1 p (.tup xs.reverse))))
theorem pe_back {X : Cx} {e : Expr} {te : TE} {k : Nat} {p1 p2 p3 pos : Pos} (he : PE X e te) : PE X (.Subscript e (.Slice none none (some (.UnaryOp .USub (.Constant (.int 1) k p1) p2)) p3) pos) (tBack X.K te) := by
  refine ⟨fun pins s σ H Q I h => ?_⟩
  refine Subscript_ (thn (he.run pins s σ H _ I h) fun v s1 ⟨x, H1, I1, r1, a, xs, ex, q⟩ => ?_)
  subst ex
  cases r1
  have step : PO X (some (.UnaryOp .USub (.Constant (.int 1) k p1) p2)) (tPart (tUn (rU fun i => .int (-i)) (tC (.int 1)))) := po_some (pe_un un_neg pe_int)
  refine wpAny_Slice (thn (po_none.run pins s1 σ H1 (fun o G => o = none ∧ G = H1) I1 ⟨rfl, rfl⟩) fun vl s2 ⟨l, H2, I2, pl, el, e2⟩ => ?_)
  subst el e2
  refine thn (po_none.run pins s2 σ H2 (fun o G => o = none ∧ G = H2) I2 ⟨rfl, rfl⟩) fun vu s3 ⟨u, H3, I3, pu, eu, e3⟩ => ?_
  subst eu e3
  refine thn (step.run pins s3 σ H3 (fun o G => o = some (-1) ∧ G = H3) I3 ⟨1, rfl, -1, rfl, rfl, rfl⟩) fun vs s4 ⟨o, H4, I4, ps, eo, e4⟩ => ?_
  subst eo e4
  have I5 : Inv X pins σ H4 { s4 with heap := s4.heap.push { cls := .type "slice", data := .fields #[vl, vu, vs] } } := I4.kept (t' := s4.toks) fun b ob z => Heap.get?_push_of_some _ z
  show wpAny (model X.prog X.w) X.A (subscriptTail e (.Slice none none (some (.UnaryOp .USub (.Constant (.int 1) k p1) p2)) p3) (.ref a) (.ref s4.heap.objs.size)) (EP X pins σ Q) X.xe { s4 with heap := s4.heap.push { cls := .type "slice", data := .fields #[vl, vu, vs] } }
  rcases q with ⟨hx, q⟩ | ⟨hx, q⟩
  · obtain ⟨its, r, ht, hz⟩ := I5.list hx
    have ln := r.length
    refine tail_any (ops := [.ref a, .ref s4.heap.objs.size]) ht.isList.typeIs (PySem.slot_list_getitem.lookup) ?_ (by with_unfolding_all rfl)
    refine wpAny_getItem_list_slice ht.isList (Heap.IsSliceOf.new _ vl vu vs) pl pu ps (by decide) ?_ (by rw [List.size_toArray]; omega)
    rw [PySem.W.krv_pick]
    exact ⟨.ref _, _, I5.laid (t' := s4.toks) (o := .lst xs.reverse) (fun b ob z => Heap.get?_push_of_some _ z) (Nat.le_refl _) ⟨by rw [List.length_reverse]; exact hz, _, 0, r.reverse, Heap.get?_push_size _ rfl⟩, rfl, q _ (I5.hok.fresh (Nat.le_refl _))⟩
  · obtain ⟨its, r, ht, hz⟩ := I5.tuple hx
    have ln := r.length
    cases pl
    cases pu
    refine tail_any (ops := [.ref a, .ref s4.heap.objs.size]) ht.typeIs PyProof.Rows.slot_tuple_getitem.lookup ?_ (by with_unfolding_all rfl)
    refine tuple_back ht (Heap.IsSliceOf.new _ _ _ vs) ps ?_ (by rw [List.size_toArray]; omega)
    exact ⟨.ref _, _, I5.laid (t' := s4.toks) (o := .tup xs.reverse) (fun b ob z => Heap.get?_push_of_some _ z) (Nat.le_refl _) ⟨by rw [List.length_reverse]; exact hz, _, r.reverse, IsTup.new _ _⟩, rfl, q _ (I5.hok.fresh (Nat.le_refl _))⟩
def dBack (x : D) : Option D := match x with
  | .lst xs => some (.lst xs.reverse)
  | .tup xs => some (.tup xs.reverse)
  | _ => none
def m1 (g : D → Option D) (m : M D) : M D := fun s => (m s).bind fun x s1 => ofO (g x) s1
theorem q_back {X : Cx} {W : WX} {e : Expr} {m : M D} {k : Nat} {p1 p2 p3 pos : Pos} (he : PE X e (tM X.K W m)) : PE X (.Subscript e (.Slice none none (some (.UnaryOp .USub (.Constant (.int 1) k p1) p2)) p3) pos) (tM X.K W (m1 dBack m)) := by
  refine pe_imp (pe_back he) fun σ H Q ⟨f, w, s, st, q⟩ => ⟨f, w, s, st, Po.thn q fun x w1 s1 v H1 e1 st1 r1 p1 => ?_⟩
  obtain ⟨z, ez, pz⟩ := p1.ofO
  unfold dBack at ez
  split at ez
  · cases ez
    obtain ⟨p, vs, rfl, h1, h2⟩ := r1
    exact ⟨p, vs, rfl, .inl ⟨.inl (.inl (st1.sub _ _ h1)), st1.newL h2.reverse pz⟩⟩
  · cases ez
    obtain ⟨p, vs, rfl, h1, h2⟩ := r1
    exact ⟨p, vs, rfl, .inr ⟨st1.tup h1, st1.newT h2.reverse pz⟩⟩
  · cases ez
end Pv
end PvM_

section PvN_
set_option Elab.async false
set_option linter.all false
set_option maxRecDepth 100000
set_option maxHeartbeats 4000000
namespace Pv
open PySem PySem.Spec PyProof.Rows L2

/-! ### a slot's own list changes -/
section
variable {K : PySem.W.Frag} {f : Fm} {w : Wd} {s : S} {σ : L2.St} {H : Hp}
theorem StOk.ownSet (h : StOk K f w s σ H) {i : Nat} {x y : SV} {p : Addr} {o : HO} (hi : s.env[i]? = some x) (hx : x.own = true) (hv : σ[i]?.join = some (.ref p)) (hy : y.own = true) (hn : SlotOk K f w (upd H p o) y (some (.ref p))) :
    StOk K f w (setS i y s) σ (upd H p o) := by
  obtain ⟨q, e2, e3, e4, e5, e6⟩ := (h.slot i x hi).at hx
  rw [hv] at e2
  cases e2
  refine ⟨fun b u e => ?_, fun a u e1 e2 => ?_, h.ff, h.f0, h.bb, h.bf, by simpa [setS] using h.len, fun j z e => ?_, fun q e => ?_, fun j k z u q n e1 e2 o1 o2 e7 => ?_⟩
  · rw [upd_ne (ne_of_none e e4)]
    exact h.sub _ _ e
  · rw [upd_ne (ne_of_none e1 e6)]
    exact h.fr a u e1 e2
  · rcases getElem?_set_cases e with ⟨rfl, rfl⟩ | ⟨n, e⟩
    · rw [hv]; exact hn
    · refine (h.slot j z e).ext (Ext.refl w) fun q hq e1 => ?_
      obtain ⟨q', e7, e8, e9, e10, e11⟩ := (h.slot j z e).at hq
      rw [e1] at e7
      cases e7
      have ne : q ≠ p := fun zz => h.dist i j x z p n hi e hx hq hv (by rw [← zz]; exact e1)
      exact ⟨upd_ne ne, e9, e10⟩
  · obtain ⟨e1, e2, e3⟩ := h.bx q e
    have ne : q ≠ p := fun z => e5 (by rw [← z]; exact e)
    exact ⟨by rw [upd_ne ne]; exact e1, e2, e3⟩
  · have back : ∀ {k : Nat} {z : SV}, (s.env.set i y)[k]? = some z → z.own = true → ∃ z', s.env[k]? = some z' ∧ z'.own = true := fun {k z} e o => by
      rcases getElem?_set_cases e with ⟨rfl, rfl⟩ | ⟨n, e⟩
      · exact ⟨x, hi, hx⟩
      · exact ⟨z, e, o⟩
    obtain ⟨z', a1, a2⟩ := back e1 o1
    obtain ⟨u', b1, b2⟩ := back e2 o2
    exact h.dist j k z' u' q n a1 b1 a2 b2 e7
theorem StOk.boxSet (h : StOk K f w s σ H) {p : Addr} {b : Int × Int × Int} (hp : w.bp = some p) : StOk K f w { s with box := b } σ (upd H p (boxV b)) := by
  obtain ⟨q1, q2, q3⟩ := h.bx p hp
  refine ⟨fun b u e => ?_, fun a u e1 e2 => ?_, h.ff, h.f0, h.bb, h.bf, h.len, fun j z e => ?_, fun q e => ?_, h.dist⟩
  · rw [upd_ne (ne_of_none e q2)]
    exact h.sub _ _ e
  · have ne : a ≠ p := fun z => by
      rcases q3 with q3 | q3
      · exact e2 (by rw [z]; exact q3)
      · rw [z, q3] at e1
        cases e1
    rw [upd_ne ne]
    exact h.fr a u e1 e2
  · refine (h.slot j z e).ext (Ext.refl w) fun q hq e1 => ?_
    obtain ⟨q', e7, e8, e9, e10, e11⟩ := (h.slot j z e).at hq
    rw [e1] at e7
    cases e7
    have ne : q ≠ p := fun zz => e10 (by rw [zz]; exact hp)
    exact ⟨upd_ne ne, e9, e10⟩
  · have e' : w.bp = some q := e
    rw [hp] at e'
    cases e'
    exact ⟨upd_same, q2, q3⟩
/-- an own list's slot -/
theorem StOk.own (h : StOk K f w s σ H) {i : Nat} {xs : List D} (e : getS i s = .o xs) : ∃ p vs, σ[i]? = some (some (.ref p)) ∧ H p = some (.lst vs) ∧ RepAll K w xs vs ∧
    ∀ ys us, RepAll K w ys us → StOk K f w (setS i (.o ys) s) σ (upd H p (.lst us)) := by
  have gi := getS_some e (fun z => nomatch z)
  obtain ⟨q, vs, e1, e2, e3, e4, e5, e6⟩ := h.slot i _ gi
  exact ⟨q, vs, join_some e1, e2, e3, fun ys us r => h.ownSet gi rfl e1 rfl ⟨q, us, rfl, upd_same, r, e4, e5, e6⟩⟩
end
section
variable {X : Cx} {W : WX} {a b e : Expr} {pos cpos apos p : Pos} {ma mb m : M D} {x : Str}
theorem tyV_own {K : PySem.W.Frag} {H : Hp} {p : Addr} {vs : List V} (h : H p = some (.lst vs)) : tyV K "list" (.ref p) H := .inl ⟨rfl, vs, .inl (.inl h)⟩
def mApp (i : Nat) (m : M D) : M D := fun s => match getS i s with
  | .o _ => (m s).bind fun y s1 => match getS i s1 with
    | .o xs => if xs.length < sizeLine then .ok .non (setS i (.o (xs ++ [y])) s1) else .no
    | _ => .no
  | _ => .no
theorem q_append (i : Nat) (ha : PE X e (tM X.K W m)) (hN : X.N[i]? = some x := by rfl) (hv : Vis X.env.scope x := by first | exact Or.inl rfl | exact Or.inr (Or.inl rfl) | exact Or.inr (Or.inr rfl)) (hd : (x == ("__debug__" : Str)) = false := by decide)
    (hcd : (x == ("__classdict__" : Str)) = false := by decide) (hbase : attributeBase (.Name x p) "append" X.env (eval (.Name x p) X.env) = eval (.Name x p) X.env := by rfl)
    (hfew : ((((backTo cpos (starEach [e] X.env)).all fun x => !x.fst) && (backToKw cpos (keywordEach [] X.env)).all fun x => x.fst.isSome) && decide (([e].length + ([] : List Keyword).length + if ([] : List Keyword).isEmpty = true then 0 else 1) < 30)) = true := by rfl)
    (hline : (apos.endLine == cpos.line) = true := by rfl) (he : starEach [e] X.env = (false, eval e X.env) :: starEach [] X.env := by rfl) (hpl : (backTo cpos (starEach [] X.env)).any (·.1) = false := by rfl) :
    PE X (.Call (.Attribute (.Name x p) "append" apos) [e] [] cpos) (tM X.K W (mApp i m)) := by
  refine pe_imp (pe_bm PySem.F.plainAttrs_list PySem.F.slot_list_append PySem.F.type_list_append mt_append (pe_var hN hv hd hcd) (pa_cons ha pa_nil he) hbase hfew hline he hpl) fun σ H Q ⟨f, w, s, st, q⟩ => ?_
  unfold mApp at q
  cases e0 : getS i s with
  | o zs =>
    rw [e0] at q
    obtain ⟨a, vs, ea, eh, er, _⟩ := st.own e0
    refine ⟨.ref a, ea, tyV_own eh, f, w, s, st, Po.thn q fun y w1 s1 v H1 e1 st1 r1 p1 => ?_⟩
    cases e2 : getS i s1 with
    | o xs =>
      rw [e2] at p1
      have p1 : Po X.K f W (RD X.K) w1 σ Q (if xs.length < sizeLine then .ok .non (setS i (.o (xs ++ [y])) s1) else .no) := p1
      split at p1
      · rename_i hz
        obtain ⟨a', us, ea', eh', er', upd1⟩ := st1.own e2
        rw [ea] at ea'
        cases ea'
        exact ⟨a, us, v, rfl, rfl, eh', by rw [er'.length]; exact hz, p1 w1 _ .non (Ext.refl _) (upd1 _ _ (RepAll.append er' (RepAll.one r1))) rfl⟩
      · exact p1.elim
    | no => rw [e2] at p1; exact p1.elim
    | d _ => rw [e2] at p1; exact p1.elim
    | bx => rw [e2] at p1; exact p1.elim
    | ok _ => rw [e2] at p1; exact p1.elim
    | ot _ => rw [e2] at p1; exact p1.elim
  | no => rw [e0] at q; exact q.elim
  | d _ => rw [e0] at q; exact q.elim
  | bx => rw [e0] at q; exact q.elim
  | ok _ => rw [e0] at q; exact q.elim
  | ot _ => rw [e0] at q; exact q.elim
def popO (i : Nat) (xs : List D) (s : S) : Out D := match xs[xs.length - 1]? with
  | some y => .ok y (setS i (.o xs.dropLast) s)
  | none => .no
def mPop (i : Nat) : M D := fun s => match getS i s with
  | .o xs => popO i xs s
  | _ => .no
theorem q_pop (i : Nat) (hN : X.N[i]? = some x := by rfl) (hv : Vis X.env.scope x := by first | exact Or.inl rfl | exact Or.inr (Or.inl rfl) | exact Or.inr (Or.inr rfl)) (hd : (x == ("__debug__" : Str)) = false := by decide)
    (hcd : (x == ("__classdict__" : Str)) = false := by decide) (hbase : attributeBase (.Name x p) "pop" X.env (eval (.Name x p) X.env) = eval (.Name x p) X.env := by rfl)
    (hline : (apos.endLine == cpos.line) = true := by rfl) :
    PE X (.Call (.Attribute (.Name x p) "pop" apos) [] [] cpos) (tM X.K W (mPop i)) := by
  refine pe_imp (pe_bm0 PySem.F.plainAttrs_list PySem.F.slot_list_pop PySem.F.type_list_pop mt_pop (pe_var hN hv hd hcd) hbase hline) fun σ H Q ⟨f, w, s, st, q⟩ => ?_
  unfold mPop at q
  cases e0 : getS i s with
  | o xs =>
    rw [e0] at q
    obtain ⟨a, vs, ea, eh, er, upd1⟩ := st.own e0
    refine ⟨.ref a, ea, tyV_own eh, ?_⟩
    have q : Po X.K f W (RD X.K) w σ Q (popO i xs s) := q
    unfold popO at q
    cases e1 : xs[xs.length - 1]? with
    | none => rw [e1] at q; exact q.elim
    | some y =>
      rw [e1] at q
      obtain ⟨v, ev, rv⟩ := er.get e1
      exact ⟨a, vs, v, rfl, rfl, eh, by rw [er.length]; exact ev, q w _ v (Ext.refl _) (upd1 _ _ er.dropLast) rv⟩
  | no => rw [e0] at q; exact q.elim
  | d _ => rw [e0] at q; exact q.elim
  | bx => rw [e0] at q; exact q.elim
  | ok _ => rw [e0] at q; exact q.elim
  | ot _ => rw [e0] at q; exact q.elim
/-- xs.extend(e), e a list -/
def mExt (i : Nat) (m : M D) : M D := fun s => match getS i s with
  | .o _ => (m s).bind fun y s1 => match y, getS i s1 with
    | .lst ys, .o xs => if xs.length + ys.length ≤ sizeLine then .ok .non (setS i (.o (xs ++ ys)) s1) else .no
    | _, _ => .no
  | _ => .no
theorem q_extend (i : Nat) (ha : PE X e (tL X.K W m)) (hN : X.N[i]? = some x := by rfl) (hv : Vis X.env.scope x := by first | exact Or.inl rfl | exact Or.inr (Or.inl rfl) | exact Or.inr (Or.inr rfl)) (hd : (x == ("__debug__" : Str)) = false := by decide)
    (hcd : (x == ("__classdict__" : Str)) = false := by decide) (hbase : attributeBase (.Name x p) "extend" X.env (eval (.Name x p) X.env) = eval (.Name x p) X.env := by rfl)
    (hfew : ((((backTo cpos (starEach [e] X.env)).all fun x => !x.fst) && (backToKw cpos (keywordEach [] X.env)).all fun x => x.fst.isSome) && decide (([e].length + ([] : List Keyword).length + if ([] : List Keyword).isEmpty = true then 0 else 1) < 30)) = true := by rfl)
    (hline : (apos.endLine == cpos.line) = true := by rfl) (he : starEach [e] X.env = (false, eval e X.env) :: starEach [] X.env := by rfl) (hpl : (backTo cpos (starEach [] X.env)).any (·.1) = false := by rfl) :
    PE X (.Call (.Attribute (.Name x p) "extend" apos) [e] [] cpos) (tM X.K W (mExt i m)) := by
  refine pe_imp (pe_bm PySem.F.plainAttrs_list PySem.F.slot_list_extend PySem.F.type_list_extend mt_extend (pe_var hN hv hd hcd) (a_lend ha he) hbase hfew hline he hpl) fun σ H Q ⟨f, w, s, st, q⟩ => ?_
  unfold mExt at q
  cases e0 : getS i s with
  | o zs =>
    rw [e0] at q
    obtain ⟨a, vs, ea, eh, er, _⟩ := st.own e0
    refine ⟨.ref a, ea, tyV_own eh, f, w, s, st, Po.thn q fun y w1 s1 v' H1 e1 st1 r1 p1 => ?_⟩
    obtain ⟨v, rfl, r1⟩ := r1
    split at p1
    · rename_i ys xs e2
      split at p1
      · rename_i hz
        obtain ⟨a', us, ea', eh', er', upd1⟩ := st1.own e2
        rw [ea] at ea'
        cases ea'
        obtain ⟨b, bs, rfl, hb, rb⟩ := r1.lst st1
        exact ⟨a, b, us, bs, rfl, rfl, eh', hb, by rw [er'.length, rb.length]; exact hz, p1 w1 _ .non (Ext.refl _) (upd1 _ _ (RepAll.append er' rb)) rfl⟩
      · exact p1.elim
    · exact p1.elim
  | no => rw [e0] at q; exact q.elim
  | d _ => rw [e0] at q; exact q.elim
  | bx => rw [e0] at q; exact q.elim
  | ok _ => rw [e0] at q; exact q.elim
  | ot _ => rw [e0] at q; exact q.elim

/-! ### x[i] = e -/
def boxPut (b : Int × Int × Int) (j : Nat) (v : Int) : Int × Int × Int := match j with
  | 0 => (v, b.2.1, b.2.2)
  | 1 => (b.1, v, b.2.2)
  | _ => (b.1, b.2.1, v)
theorem boxPut_ok (b : Int × Int × Int) {j : Nat} {k : Int} (v : Int) (h : ixN 3 k = some j) : boxV (boxPut b j v) = .lst ([V.int b.1, .int b.2.1, .int b.2.2].set j (.int v)) := by
  have lt : j < 3 := by
    unfold ixN at h
    split at h
    · split at h
      · cases h; omega
      · cases h
    · split at h
      · cases h; omega
      · cases h
  match j, lt with
  | 0, _ => rfl
  | 1, _ => rfl
  | 2, _ => rfl
def putBox (k : Int) (x : D) (s : S) : SO := match ixN 3 k, x with
  | some j, .int v => .nx { s with box := boxPut s.box j v }
  | _, _ => .no
def putL (i : Nat) (k : Int) (x : D) (xs : List D) (s : S) : SO := match ixN xs.length k with
  | some j => .nx (setS i (.o (xs.set j x)) s)
  | none => .no
/-- slot i, place y, new item x -/
def putIx (i : Nat) (y x : D) (s : S) : SO := match getS i s, y with
  | .o xs, .int k => putL i k x xs s
  | .bx, .int k => putBox k x s
  | .d .box, .int k => putBox k x s
  | _, _ => .no
def sPutIx (i : Nat) (mi me : M D) : MS := fun s => (me s).toS fun x s1 => match look i s1 with
  | none => .no
  | some _ => (mi s1).toS fun y s2 => putIx i y x s2
theorem box_put {K : PySem.W.Frag} {f : Fm} {w : Wd} {s : S} {σ : L2.St} {H : Hp} {E : Ends} {W : WX} {x : D} {u v t : V} {k : Int} (st : StOk K f w s σ H) (hu : ∃ a, u = .ref a ∧ w.bp = some a) (hy : t = .int k) (rx : Rep K w x v)
    (p : PoS K f W w E (putBox k x s)) : rSetL u t v H (fun H3 => E.nx σ H3) := by
  obtain ⟨a, rfl, ha⟩ := hu
  unfold putBox at p
  split at p
  · rename_i j n ej
    have rx' : v = .int n := rx
    subst rx'
    have b := (st.bx a ha).1
    have p' := p w σ _ (Ext.refl _) (st.boxSet (b := boxPut s.box j n) ha)
    rw [boxPut_ok s.box n ej] at p'
    exact ⟨a, _, k, j, rfl, hy, b, ej, p'⟩
  · exact p.elim
theorem s_putIx (i : Nat) {px : Pos} {mi me : M D} (he : PE X e (tM X.K W me)) (hi : PE X b (tM X.K W mi)) (hN : X.N[i]? = some x := by rfl) (hv : Vis X.env.scope x := by first | exact Or.inl rfl | exact Or.inr (Or.inl rfl) | exact Or.inr (Or.inr rfl)) (hd : (x == ("__debug__" : Str)) = false := by decide)
    (hcd : (x == ("__classdict__" : Str)) = false := by decide)
    (ha : ∀ v, assign (.Subscript (.Name x px) b apos) X.env v = (do
      let ov ← holding [v] (eval (.Name x px) X.env)
      let iv ← holding [v, ov] (eval b X.env)
      standAt apos
      holding [v, ov, iv] (setItem ov iv v)
      release [v, ov, iv] []) := by intro _; rfl)
    (hs : swapsWithSole [.Subscript (.Name x px) b apos] e pos.line X.env = pure false := by rfl) (hw : swappedStores [.Subscript (.Name x px) b apos] e X.env = pure none := by rfl)
    (h1 : (assignEach [.Subscript (.Name x px) b apos] X.env).map (·.2) = [assign (.Subscript (.Name x px) b apos) X.env] := by rfl) : PS X (.Assign [.Subscript (.Name x px) b apos] e pos) (tS X.K W (sPutIx i mi me)) := by
  refine ps_imp (ps_asg he (pg_sub (pe_var hN hv hd hcd) hi set_list ha) hs hw h1) fun E σ H ⟨f, w, s, st, q⟩ => ?_
  refine ⟨f, w, s, st, PoS.thn q fun x0 w1 s1 v H1 e1 st1 r1 p1 => ?_⟩
  cases e0 : look i s1 with
  | none => rw [e0] at p1; exact p1.elim
  | some z0 =>
    rw [e0] at p1
    obtain ⟨u, eu, _⟩ := st1.look e0
    refine ⟨u, eu, f, w1, s1, st1, PoS.thn p1 fun y w2 s2 t H2 e2 st2 r2 p2 => ?_⟩
    have rx := Rep.mono e2 r1
    unfold putIx at p2
    split at p2
    · rename_i xs k eg
      unfold putL at p2
      split at p2
      · rename_i j ej
        obtain ⟨a, us, ea, eh, er, upd1⟩ := st2.own eg
        rw [eu] at ea
        cases ea
        exact ⟨a, us, k, j, rfl, r2, eh, by rw [er.length]; exact ej, p2 w2 σ _ (Ext.refl _) (upd1 _ _ (RepAll.set j er rx))⟩
      · exact p2.elim
    · rename_i k eg
      obtain ⟨a, ea, hb⟩ := st2.slot i _ (getS_some eg (fun z => nomatch z))
      have ea' := join_some ea
      rw [eu] at ea'
      cases ea'
      exact box_put st2 ⟨a, rfl, hb⟩ r2 rx p2
    · rename_i k eg
      obtain ⟨u', ea, a, hb1, hb2⟩ := st2.slot i _ (getS_some eg (fun z => nomatch z))
      have ea' := join_some ea
      rw [eu] at ea'
      cases ea'
      exact box_put st2 ⟨a, hb1, hb2⟩ r2 rx p2
    · exact p2.elim
end
end Pv
end PvN_

section PvO_
set_option Elab.async false
set_option linter.all false
set_option maxRecDepth 100000
set_option maxHeartbeats 4000000
namespace Pv
open PySem PySem.Spec PyProof.Rows L2

/-! ### a list (true) or a tuple (false) that is walked -/
def Sq (K : PySem.W.Frag) (b : Bool) (H : Hp) (a : Addr) (xs : List V) : Prop := match b with
  | true => SqL K H a xs
  | false => SqT K H a xs
def HIs (b : Bool) (h : Heap) (a : Addr) (its : Array Value) : Prop := match b with
  | true => h.IsList a its
  | false => h.IsTuple a its
def HIt (b : Bool) (h : Heap) (it a : Addr) (i : Nat) : Prop := match b with
  | true => h.IsListIter it a i
  | false => h.IsTupleIter it a i
def itO (b : Bool) (a : Addr) : Obj := match b with
  | true => { cls := .type "list_iterator", data := .fields #[.ref a, .int 0 0] }
  | false => { cls := .type "tuple_iterator", data := .fields #[.ref a, .int 0 0] }
section
variable {b : Bool} {h h' : Heap} {it a : Addr} {i : Nat}
theorem HIt.obj (x : HIt b h it a i) : ∃ o, h.get? it = some o ∧ ∀ v, o.data ≠ .cell v := by
  cases b with
  | true =>
    obtain ⟨o, e, c, d⟩ := x
    exact ⟨o, e, fun v z => by rw [d] at z; cases z⟩
  | false =>
    obtain ⟨o, e, c, d⟩ := x
    exact ⟨o, e, fun v z => by rw [d] at z; cases z⟩
theorem HIt.keep (x : HIt b h it a i) (k : ∀ o, h.get? it = some o → h'.get? it = some o) : HIt b h' it a i := by
  cases b with
  | true => exact Heap.IsListIter.at x k
  | false => exact Heap.IsTupleIter.at x k
theorem HIt.first (e : h.get? it = some (itO b a)) : HIt b h it a 0 := by
  cases b with
  | true => exact ⟨_, e, rfl, rfl⟩
  | false => exact ⟨_, e, rfl, rfl⟩
theorem HIs.lt {its : Array Value} (x : HIs b h a its) : a < h.objs.size := by
  cases b with
  | true =>
    obtain ⟨o, e, _⟩ := x
    exact Heap.lt_size e
  | false =>
    obtain ⟨o, e, _⟩ := x
    exact Heap.lt_size e
theorem draws {P : Program} {w : World} {A : Around} (b : Bool) (hh : A.handled = none) (it a : Addr) (ne : a ≠ it) (its : Array Value) :
    Draws P w A it [it, a] its.size (fun i v => its[i]? = some v) (fun i h => HIt b h it a i ∧ HIs b h a its) := by
  cases b with
  | true => exact Draws.list hh it a ne its
  | false => exact Draws.tuple hh it a ne its
theorem beg (b : Bool) (a : Addr) (its : Array Value) : Begins (.ref a) (itO b a) fun h => HIs b h a its := by
  cases b with
  | true => exact begins_list a its
  | false => exact begins_tuple a its
variable {X : Cx} {pins : List (Addr × Obj)} {σ : L2.St} {H : Hp} {s : Shared} {xs ys : List V}
theorem inv_sq (I : L2.Inv X pins σ H s) (q : Sq X.K b H a xs) : ∃ its : List Value, Vals xs its ∧ HIs b s.heap a its.toArray ∧ xs.length ≤ sizeLine := by
  cases b with
  | true =>
    obtain ⟨its, r, p, z⟩ := I.list q
    exact ⟨its, r, p.isList, z⟩
  | false =>
    obtain ⟨its, r, p, z⟩ := I.tuple q
    exact ⟨its, r, p, z⟩
theorem inv_inj (I : L2.Inv X pins σ H s) (q : Sq X.K b H a xs) (q' : Sq X.K b H a ys) : xs = ys := by
  cases b with
  | true => exact I.list_inj q q'
  | false => exact I.tuple_inj q q'
end

/-! ### enumerate -/
def JEn (K : PySem.W.Frag) (b : Bool) (a : Addr) : It :=
  ⟨fun i H => ∃ (xs : List V) (x : V), Sq K b H a xs ∧ xs[i]? = some x, fun i H v H' => ∃ T x, v = .ref T ∧ H T = none ∧ H' = upd H T (.tup [.int (i : Nat), x]) ∧ ∀ xs, Sq K b H a xs → xs[i]? = some x, fun i H => ∃ xs : List V, Sq K b H a xs ∧ xs.length = i⟩
theorem turn_en {P : Program} {w : World} {K : PySem.W.Frag} {elts : List Expr} {kk : Nat} {tpos : Pos} (b : Bool) (a e it : Addr) :
    Turn P w K (.Tuple elts kk tpos) (JEn K b a) [e, it] e (fun i h => (∃ old, IsEnum h e it ((i : Nat) : Int) old) ∧ HIt b h it a i ∧ e ≠ it ∧ a ≠ it ∧ a ≠ e) where
  mem := by simp
  obj := fun i h st c hc => by
    obtain ⟨⟨old, he⟩, ho, _⟩ := st
    have two : c = e ∨ c = it := by simpa using hc
    rcases two with z | z
    · rw [z]; exact ⟨_, he, fun v q => nomatch q⟩
    · rw [z]; exact ho.obj
  keep := fun i h h' st k => let ⟨⟨old, he⟩, hi, hne⟩ := st; ⟨⟨old, k e (by simp) _ he⟩, hi.keep fun o q => k it (by simp) o q, hne⟩
  item := by
    intro X hP hw hK hc i pins s σ H E I hf st hg
    subst hP hw hK
    obtain ⟨⟨old, he⟩, hit, hne, an, ae⟩ := st
    obtain ⟨xs, x, hq, hx⟩ := hg
    obtain ⟨its, rv, p, hz⟩ := inv_sq I hq
    obtain ⟨u, hu, ru⟩ := rv.get hx
    have lti : i < its.toArray.size := by rw [List.size_toArray]; exact (List.getElem?_eq_some_iff.mp hu).1
    have el : e < s.heap.objs.size := Heap.lt_size he
    have il : it < s.heap.objs.size := by obtain ⟨_, q, _⟩ := hit.obj; exact Heap.lt_size q
    refine wpAny_pyNext_enum_itemC (draws b (A := X.A.in1) (I.ok.hd hc) it a an its.toArray) he ⟨hit, p⟩ lti hne (by simp; exact ⟨hne, Ne.symm ae⟩) fun x1 h' tk px ho st' hT hsz hk => ?_
    have ex : x1 = u := by
      have px' : its.toArray[i]? = some x1 := px
      rw [List.getElem?_toArray, hu] at px'
      exact (Option.some.inj px').symm
    subst ex
    refine ⟨_, rfl, wpAny_letOwnedTupleGo_enum (s := { s with heap := h', toks := tk + 1 }) ho fun h'' he' sb => ?_⟩
    have hT2 : h''.get? s.heap.objs.size = some { cls := .type "tuple", data := .seq #[.int i tk, x1] } := (sb.2 _ (Nat.ne_of_gt el)).trans hT
    have new : ObjOk X.prog X.w (upd H s.heap.objs.size (.tup [.int (i : Nat), x])) h'' s.heap.objs.size (.tup [.int (i : Nat), x]) := ⟨by show 2 ≤ sizeLine; decide, [.int i tk, x1], .cons ⟨_, rfl⟩ (.cons ru .nil), ⟨_, hT2, rfl, _, rfl⟩⟩
    have I1 : Inv X pins σ (upd H s.heap.objs.size (.tup [.int (i : Nat), x])) { s with heap := h'', toks := tk + 1 } :=
      I.turnedNew (ch := [e, it]) (fun c ob hc q => (sb.2 c (fun z => hc (by simp [z]))).trans (hk c ob (fun z => hc (by simp [z])) (fun z => hc (by simp [z])) q)) hf (Nat.le_refl _) new
    refine ⟨.ref s.heap.objs.size, _, I1, rfl, ⟨_, x, rfl, I.hok.fresh (Nat.le_refl _), rfl, fun ys hy => by rw [inv_inj I hy hq]; exact hx⟩, ⟨⟨x1, ?_⟩, st'.1.keep fun o q => (sb.2 it (Ne.symm hne)).trans q, hne, an, ae⟩, fun c hc => ?_⟩
    · have e1 : ((i + 1 : Nat) : Int) = (i : Int) + 1 := by omega
      rw [e1]; exact he'
    · have lt : c < s.heap.objs.size := by
        have two : c = e ∨ c = it := by simpa using hc
        rcases two with z | z
        · rw [z]; exact el
        · rw [z]; exact il
      rw [upd_ne (Nat.ne_of_lt lt)]
      exact (hf c hc).1
  done := by
    intro X hP hw hK hc i pins s σ H E I hf st hg
    subst hP hw hK
    obtain ⟨⟨old, he⟩, hit, hne, an, ae⟩ := st
    obtain ⟨xs, hq, hx⟩ := hg
    obtain ⟨its, rv, p, hz⟩ := inv_sq I hq
    obtain ⟨f0, f1, f2, f3, f4, f5⟩ := hf it (by simp)
    have size : i = its.toArray.size := by rw [List.size_toArray, ← hx]; exact rv.length
    rw [size] at hit
    exact wpAny_pyNext_enum_endD (draws b (A := X.A.in1) (I.ok.hd hc) it a an its.toArray) he ⟨hit, p⟩ fun h' eb => ⟨rfl, I.turned (t' := s.toks) (fun c o hc q => eb c o hc q) f0 f1 f3 f4 f5⟩
  self := fun A i s Q E st h => let ⟨⟨_, he⟩, _⟩ := st; wpAny_pyIter_enum he h
theorem meets_en {v : Value} {o : Obj} {H : Heap → Prop} (B : Begins v o H) :
    Meets (Builtin.«enumerate.__new__» ⟨[.type "enumerate", v], []⟩) (fun _ R s => H s.heap ∧
      R (.ok (.ret (.ref (s.heap.push o).objs.size))) { s with heap := (s.heap.push o).push { cls := .type "enumerate", data := .fields #[.none, .bool false, .ref s.heap.objs.size, rawInt 0, .none, .none] } }) :=
  .of_wp fun prog w A R s hyp => by
    obtain ⟨hp, g, d, tk, os⟩ := s; obtain ⟨h1, hyp⟩ := hyp
    have hsub := sub_enumerate
    have walked : ∀ {A' : Around} {E : Value → Shared → Prop} {Q : Value → Shared → Prop}, Q (.ref hp.objs.size) ⟨hp.push o, g, d, tk, os⟩ → wpAny (model prog w) A' (pyIter v) Q E ⟨hp, g, d, tk, os⟩ :=
      fun q => B.iter prog w _ _ ⟨hp, g, d, tk, os⟩ _ h1 q
    wp_walk using walked
    refine wpAny_stack_any fun st => wpAny_pure ?_
    split
    · rename_i c _ _ _ _ _
      cases (c == Value.type "enumerate")
      · wp_walk using walked
        exact ⟨_, rfl, hyp⟩
      · wp_walk using walked
        exact ⟨_, rfl, hyp⟩
    · wp_walk using walked
      exact ⟨_, rfl, hyp⟩
theorem en_begins {prog : Program} {w : World} {A : Around} {E : Value → Shared → Prop} {s : Shared} {v : Value} {o : Obj} {H : Heap → Prop} {Q : Value → Shared → Prop} (B : Begins v o H) (h1 : H s.heap)
    (hyp : ∀ h', IsEnum h' (s.heap.objs.size + 1) s.heap.objs.size 0 .none → h'.get? s.heap.objs.size = some o → h'.objs.size = s.heap.objs.size + 2 → (∀ b o, s.heap.get? b = some o → h'.get? b = some o) → Q (.ref (s.heap.objs.size + 1)) { s with heap := h' }) :
    wpAny (model prog w) A (call (.type "enumerate") [v]) Q E s := by
  refine callType_new F.called_enumerate (by decide) (F.typeCall_enumerate_1 _) (F.newCall_enumerate_1 _) (fun obj => F.args_object_init_2 obj _) F.entry_enumerate_new (meets_en B) ⟨h1, ?_⟩
  have size1 : (s.heap.push o).objs.size = s.heap.objs.size + 1 := Heap.size_push ..
  show _ ∧ _
  rw [size1]
  have he : IsEnum ((s.heap.push o).push { cls := .type "enumerate", data := .fields #[.none, .bool false, .ref s.heap.objs.size, rawInt 0, .none, .none] }) (s.heap.objs.size + 1) s.heap.objs.size 0 .none := by
    have got := Heap.get?_push_size (s.heap.push o) (o := { cls := .type "enumerate", data := .fields #[.none, .bool false, .ref s.heap.objs.size, rawInt 0, .none, .none] }) rfl
    rw [size1] at got
    exact got
  exact ⟨⟨_, he, rfl⟩, hyp _ he (Heap.get?_push_of_some _ (Heap.get?_push_size _ B.free)) (by rw [Heap.size_push, size1]) fun b o x => Heap.get?_push_of_some _ (Heap.get?_push_of_some _ x)⟩
def iEn (K : PySem.W.Frag) (ta : TA) : TI := fun σ H R => ta σ H fun vs H1 => ∃ a b xs, vs = [.ref a] ∧ Sq K b H1 a xs ∧ R (JEn K b a) H1
theorem pi_en {X : Cx} {e : Expr} {ta : TA} {p pos tpos : Pos} {elts : List Expr} {kk : Nat} (hg : Gl X "enumerate") (hm : X.mg "enumerate" = none) (ha : PA X [e] ta) (hs : starEach [e] X.env = [(false, eval e X.env)] := by rfl) :
    PI X (.Tuple elts kk tpos) (.Call (.Name "enumerate" p) [e] [] pos) (iEn X.K ta) := by
  refine ⟨fun pins s σ H R I hyp => ?_⟩
  refine Call_ (ld_blt I hg hm boot_enumerate (PyProof.Rows.callWith_type1 (thn (ha.run pos pins s σ H _ I hyp) fun us s1 ⟨vs, H1, I1, r1, a, b, xs, ex, hq, q⟩ => ?_) hs rfl))
  subst ex
  cases r1 with
  | cons r rr =>
    cases rr
    cases r
    obtain ⟨its, rv, p', hz⟩ := inv_sq I1 hq
    have lt := p'.lt
    refine en_begins (beg b a its.toArray) p' fun h' he hit hsz hk => wpAny_pyIter_enum he ?_
    have I2 : Inv X pins σ H1 { s1 with heap := h' } := I1.kept (t' := s1.toks) hk
    refine ⟨s1.heap.objs.size + 1, [s1.heap.objs.size + 1, s1.heap.objs.size], _, _, H1, rfl, I2, turn_en b a (s1.heap.objs.size + 1) s1.heap.objs.size, ⟨⟨.none, he⟩, HIt.first hit, Nat.succ_ne_self _, Nat.ne_of_lt lt, Nat.ne_of_lt (Nat.lt_succ_of_lt lt)⟩, fun c hc => ?_, q⟩
    have two : c = s1.heap.objs.size + 1 ∨ c = s1.heap.objs.size := by simpa using hc
    have hle : s1.heap.objs.size ≤ c := by
      rcases two with z | z
      · rw [z]; exact Nat.le_add_right _ _
      · rw [z]; exact Nat.le_refl _
    exact I1.fpOk hle (I1.hok.fresh hle)
theorem walk_en {K : PySem.W.Frag} {b : Bool} {a : Addr} {xs : List V} : Walk (JEn K b a) xs.length (fun H => Sq K b H a xs) (YPair (fun i => some (.int (i : Nat))) (fun i => xs[i]?)) := by
  refine ⟨fun i _ hi q => ⟨xs, xs[i], q, by simp [hi]⟩, fun _ q => ⟨xs, q, rfl⟩, fun i H v H' _ q y => ?_⟩
  obtain ⟨T, x, h1, h2, h3, h4⟩ := y
  exact ⟨T, .int (i : Nat), x, h1, h2, h3, rfl, h4 xs q⟩

/-! ### zip of two -/
def JZp (K : PySem.W.Frag) (b1 b2 : Bool) (a1 a2 : Addr) : It :=
  ⟨fun i H => ∃ (xs ys : List V) (x y : V), Sq K b1 H a1 xs ∧ Sq K b2 H a2 ys ∧ xs[i]? = some x ∧ ys[i]? = some y,
    fun i H v H' => ∃ T x y, v = .ref T ∧ H T = none ∧ H' = upd H T (.tup [x, y]) ∧ (∀ xs, Sq K b1 H a1 xs → xs[i]? = some x) ∧ ∀ ys, Sq K b2 H a2 ys → ys[i]? = some y,
    fun i H => ∃ xs ys : List V, Sq K b1 H a1 xs ∧ Sq K b2 H a2 ys ∧ i = min xs.length ys.length⟩
theorem turn_zp {P : Program} {w : World} {K : PySem.W.Frag} {elts : List Expr} {kk : Nat} {tpos : Pos} {a1 a2 z TI TO i1 i2 : Addr} (b1 b2 : Bool) (S : ZipSep2 z TI TO i1 i2 [i1, a1] [i2, a2]) :
    Turn P w K (.Tuple elts kk tpos) (JZp K b1 b2 a1 a2) [z, TI, TO, i1, i2] z (fun i h => IsZip h z TI TO .none ∧ IsTupOf2 h TI (.ref i1) (.ref i2) ∧ (∃ x y, IsTupOf2 h TO x y) ∧ HIt b1 h i1 a1 i ∧ HIt b2 h i2 a2 i ∧ a1 ≠ i1 ∧ a2 ≠ i2) where
  mem := by simp
  obj := fun i h st c hc => by
    obtain ⟨hz, hTI, ⟨x, y, hTO⟩, o1, o2, _⟩ := st
    have five : c = z ∨ c = TI ∨ c = TO ∨ c = i1 ∨ c = i2 := by simpa using hc
    rcases five with q | q | q | q | q
    · rw [q]; exact ⟨_, hz, fun v q => nomatch q⟩
    · rw [q]; exact ⟨_, hTI, fun v q => nomatch q⟩
    · rw [q]; exact ⟨_, hTO, fun v q => nomatch q⟩
    · rw [q]; exact o1.obj
    · rw [q]; exact o2.obj
  keep := fun i h h' st k => by
    obtain ⟨hz, hTI, ⟨x, y, hTO⟩, h1, h2, ne⟩ := st
    exact ⟨k z (by simp) _ hz, k TI (by simp) _ hTI, ⟨x, y, k TO (by simp) _ hTO⟩, h1.keep fun o q => k i1 (by simp) o q, h2.keep fun o q => k i2 (by simp) o q, ne⟩
  item := by
    intro X hP hw hK hc i pins s σ H E I hf st hg
    subst hP hw hK
    obtain ⟨hz, hTI, ⟨x0, y0, hTO⟩, h1, h2, n1, n2⟩ := st
    obtain ⟨xs, ys, x, y, hqx, hqy, hx, hy⟩ := hg
    obtain ⟨its, rv, p, _⟩ := inv_sq I hqx
    obtain ⟨its2, rv2, p2, _⟩ := inv_sq I hqy
    obtain ⟨u, hu, ru⟩ := rv.get hx
    obtain ⟨u2, hu2, ru2⟩ := rv2.get hy
    have lt1 : i < its.toArray.size := by rw [List.size_toArray]; exact (List.getElem?_eq_some_iff.mp hu).1
    have lt2 : i < its2.toArray.size := by rw [List.size_toArray]; exact (List.getElem?_eq_some_iff.mp hu2).1
    have zl : z < s.heap.objs.size := Heap.lt_size hz
    refine wpAny_pyNext_zipD2_item S (draws b1 (A := X.A.in1) (I.ok.hd hc) i1 a1 n1 its.toArray) (draws b2 (A := X.A.in1) (I.ok.hd hc) i2 a2 n2 its2.toArray) hz hTI hTO ⟨h1, p⟩ ⟨h2, p2⟩ lt1 lt2 fun v1 v2 h' tk e1 e2 z' TO' s1' s2' hT hsz hk => ?_
    have q1 : v1 = u := by
      have e1' : its.toArray[i]? = some v1 := e1
      rw [List.getElem?_toArray, hu] at e1'
      exact (Option.some.inj e1').symm
    have q2 : v2 = u2 := by
      have e2' : its2.toArray[i]? = some v2 := e2
      rw [List.getElem?_toArray, hu2] at e2'
      exact (Option.some.inj e2').symm
    subst q1 q2
    refine ⟨_, rfl, wpAny_letOwnedTupleGo_zip (s := { s with heap := h', toks := tk }) z' fun h'' z'' sb => ?_⟩
    have hT2 : h''.get? s.heap.objs.size = some { cls := .type "tuple", data := .seq #[v1, v2] } := (sb.2 _ (Nat.ne_of_gt zl)).trans hT
    have new : ObjOk X.prog X.w (upd H s.heap.objs.size (.tup [x, y])) h'' s.heap.objs.size (.tup [x, y]) := ⟨by show 2 ≤ sizeLine; decide, [v1, v2], .cons ru (.cons ru2 .nil), ⟨_, hT2, rfl, _, rfl⟩⟩
    have I1 : Inv X pins σ (upd H s.heap.objs.size (.tup [x, y])) { s with heap := h'', toks := tk } :=
      I.turnedNew (ch := [z, TI, TO, i1, i2]) (fun c o hb q => (sb.2 c (fun q' => hb (by simp [q']))).trans (hk c o (fun q' => hb (by simp [q'])) (fun q' => hb (by simp [q'])) (fun q' => hb (by simp [q'])) (fun q' => hb (by simp [q'])) q)) hf (Nat.le_refl _) new
    refine ⟨.ref s.heap.objs.size, _, I1, rfl, ⟨_, x, y, rfl, I.hok.fresh (Nat.le_refl _), rfl, fun l hl => by rw [inv_inj I hl hqx]; exact hx, fun l hl => by rw [inv_inj I hl hqy]; exact hy⟩, ⟨z'', ?_, ⟨v1, v2, ?_⟩, ?_, ?_, n1, n2⟩, fun c hcm => ?_⟩
    · exact (sb.2 _ S.TIz).trans (hk _ _ S.TIz S.TITO S.TIi1 S.TIi2 hTI)
    · exact (sb.2 _ S.TOz).trans TO'
    · exact s1'.1.keep fun o q => (sb.2 _ (Ne.symm S.zi1)).trans q
    · exact s2'.1.keep fun o q => (sb.2 _ (Ne.symm S.zi2)).trans q
    · have lt : c < s.heap.objs.size := by
        have five : c = z ∨ c = TI ∨ c = TO ∨ c = i1 ∨ c = i2 := by simpa using hcm
        rcases five with q | q | q | q | q
        · rw [q]; exact zl
        · rw [q]; exact Heap.lt_size hTI
        · rw [q]; exact Heap.lt_size hTO
        · rw [q]; obtain ⟨_, e1, _⟩ := h1.obj; exact Heap.lt_size e1
        · rw [q]; obtain ⟨_, e2, _⟩ := h2.obj; exact Heap.lt_size e2
      rw [upd_ne (Nat.ne_of_lt lt)]
      exact (hf c hcm).1
  done := by
    intro X hP hw hK hc i pins s σ H E I hf st hg
    subst hP hw hK
    obtain ⟨hz, hTI, ⟨x0, y0, hTO⟩, h1, h2, n1, n2⟩ := st
    obtain ⟨xs, ys, hqx, hqy, hend⟩ := hg
    obtain ⟨its, rv, p, _⟩ := inv_sq I hqx
    obtain ⟨its2, rv2, p2, _⟩ := inv_sq I hqy
    have l1 : xs.length = its.toArray.size := by rw [List.size_toArray]; exact rv.length
    have l2 : ys.length = its2.toArray.size := by rw [List.size_toArray]; exact rv2.length
    exact wpAny_pyNext_zipD2_end S (draws b1 (A := X.A.in1) (I.ok.hd hc) i1 a1 n1 its.toArray) (draws b2 (A := X.A.in1) (I.ok.hd hc) i2 a2 n2 its2.toArray) hz hTI hTO ⟨h1, p⟩ ⟨h2, p2⟩ (by omega) (by omega) (by omega) fun h' tk hk =>
      ⟨rfl, I.turnedL (t' := tk) (ch := [z, TI, TO, i1, i2]) (fun c o hb q => hk c o (fun q' => hb (by simp [q'])) (fun q' => hb (by simp [q'])) (fun q' => hb (by simp [q'])) (fun q' => hb (by simp [q'])) q) hf⟩
  self := fun A i s Q E st h => wpAny_pyIter_zip st.1 h
def iZp (K : PySem.W.Frag) (ta : TA) : TI := fun σ H R => ta σ H fun vs H1 => ∃ a1 a2 b1 b2 xs ys, vs = [.ref a1, .ref a2] ∧ Sq K b1 H1 a1 xs ∧ Sq K b2 H1 a2 ys ∧ R (JZp K b1 b2 a1 a2) H1
theorem pi_zp {X : Cx} {e e2 : Expr} {ta : TA} {p pos tpos : Pos} {elts : List Expr} {kk : Nat} (hg : Gl X "zip") (hm : X.mg "zip" = none) (ha : PA X [e, e2] ta)
    (hs : starEach [e, e2] X.env = (false, eval e X.env) :: starEach [e2] X.env := by rfl) (hpl : (backTo pos (starEach [e2] X.env)).any (·.1) = false := by rfl) :
    PI X (.Tuple elts kk tpos) (.Call (.Name "zip" p) [e, e2] [] pos) (iZp X.K ta) := by
  refine ⟨fun pins s σ H R I hyp => ?_⟩
  refine Call_ (ld_blt I hg hm PyProof.Rows.boot_zip (PyProof.Rows.callWith_type1 (thn (ha.run pos pins s σ H _ I hyp) fun us s1 ⟨vs, H1, I1, r1, a1, a2, b1, b2, xs, ys, ex, hqx, hqy, q⟩ => ?_) hs hpl))
  subst ex
  cases r1 with
  | cons r rr =>
    cases rr with
    | cons r' rr =>
      cases rr
      cases r
      cases r'
      obtain ⟨its, rv, p1, _⟩ := inv_sq I1 hqx
      obtain ⟨its2, rv2, p2, _⟩ := inv_sq I1 hqy
      have l1 := p1.lt
      have l2 := p2.lt
      refine zip_begins2 (beg b1 a1 its.toArray) (beg b2 a2 its2.toArray) p1 p2 fun h' hz hTI hTO g1 g2 hsz hk => wpAny_pyIter_zip hz ?_
      have I2 : Inv X pins σ H1 { s1 with heap := h' } := I1.kept (t' := s1.toks) hk
      have sep : ZipSep2 (s1.heap.objs.size + 4) (s1.heap.objs.size + 2) (s1.heap.objs.size + 3) s1.heap.objs.size (s1.heap.objs.size + 1) [s1.heap.objs.size, a1] [s1.heap.objs.size + 1, a2] :=
        zip_sep2 (fp1 := [a1]) (fp2 := [a2]) (fun c hc => by rw [List.mem_singleton.mp hc]; exact l1) (fun c hc => by rw [List.mem_singleton.mp hc]; exact l2)
      refine ⟨s1.heap.objs.size + 4, [s1.heap.objs.size + 4, s1.heap.objs.size + 2, s1.heap.objs.size + 3, s1.heap.objs.size, s1.heap.objs.size + 1], _, _, H1, rfl, I2, turn_zp b1 b2 sep,
        ⟨hz, hTI, ⟨_, _, hTO⟩, HIt.first g1, HIt.first g2, Nat.ne_of_lt l1, Nat.ne_of_lt (Nat.lt_succ_of_lt l2)⟩, fun c hcm => ?_, q⟩
      have hle : s1.heap.objs.size ≤ c := by
        have five : c = s1.heap.objs.size + 4 ∨ c = s1.heap.objs.size + 2 ∨ c = s1.heap.objs.size + 3 ∨ c = s1.heap.objs.size ∨ c = s1.heap.objs.size + 1 := by simpa using hcm
        rcases five with z | z | z | z | z
        · rw [z]; exact Nat.le_add_right _ _
        · rw [z]; exact Nat.le_add_right _ _
        · rw [z]; exact Nat.le_add_right _ _
        · rw [z]; exact Nat.le_refl _
        · rw [z]; exact Nat.le_add_right _ _
      exact I1.fpOk hle (I1.hok.fresh hle)
theorem walk_zp {K : PySem.W.Frag} {b1 b2 : Bool} {a1 a2 : Addr} {xs ys : List V} {n : Nat} (hn : n = min xs.length ys.length) : Walk (JZp K b1 b2 a1 a2) n (fun H => Sq K b1 H a1 xs ∧ Sq K b2 H a2 ys) (YPair (fun i => xs[i]?) (fun i => ys[i]?)) := by
  subst hn
  refine ⟨fun i _ hi q => ?_, fun _ q => ⟨xs, ys, q.1, q.2, rfl⟩, fun i H v H' _ q y => ?_⟩
  · have h1 : i < xs.length := by omega
    have h2 : i < ys.length := by omega
    exact ⟨xs, ys, xs[i], ys[i], q.1, q.2, by simp [h1], by simp [h2]⟩
  · obtain ⟨T, x, z, h1, h2, h3, h4, h5⟩ := y
    exact ⟨T, x, z, h1, h2, h3, h4 xs q.1, h5 ys q.2⟩
end Pv
end PvO_

section PvP_
set_option Elab.async false
set_option linter.all false
set_option maxRecDepth 100000
set_option maxHeartbeats 4000000
namespace Pv
open PySem PySem.Spec PyProof.Rows L2

/-! ### values or new lists -/
def RV (K : PySem.W.Frag) : Fm → Wd → S → L2.St → Hp → SV → V → Prop := fun f w s σ H x v => match x with
  | .d d => Rep K w d v
  | .o xs => RF K f w s σ H xs v
  | _ => False
abbrev tV (K : PySem.W.Frag) (W : WX) (m : M SV) : TE := tG K W (RV K) m
def mVal (m : M D) : M SV := fun s => (m s).bind fun x s1 => .ok (.d x) s1
def mNew (m : M (List D)) : M SV := fun s => (m s).bind fun xs s1 => .ok (.o xs) s1
section
variable {K : PySem.W.Frag} {f f' : Fm} {w : Wd} {s : S} {σ : L2.St} {H : Hp} {W : WX}
theorem Po.map {α β γ : Type} {R : Fm → Wd → S → L2.St → Hp → α → γ → Prop} {R' : Fm → Wd → S → L2.St → Hp → β → γ → Prop} {Q : γ → Hp → Prop} {o : Out α} {k : α → β} (h : Po K f W R' w σ Q (o.bind fun x s1 => .ok (k x) s1))
    (q : ∀ w s H a b, R f w s σ H a b → R' f w s σ H (k a) b) : Po K f W R w σ Q o := by
  cases o with
  | ok a s => exact fun w2 H2 b e2 st r => h w2 H2 b e2 st (q _ _ _ _ _ r)
  | exc x s => exact h
  | no => exact h
/-- a thing is held while more is done -/
structure Hold (K : PySem.W.Frag) (f f' : Fm) (σ : L2.St) (w1 : Wd) (x : SV) (v : V) : Prop where
  st : ∀ w2 s2 H2, Ext w1 w2 → StOk K f' w2 s2 σ H2 → StOk K f w2 s2 σ H2 ∧ RV K f w2 s2 σ H2 x v
  rv : ∀ w2 s2 H2 y u, RV K f' w2 s2 σ H2 y u → RV K f w2 s2 σ H2 y u ∧ (x.own = true → y.own = true → v ≠ u)
theorem RV.hold {x : SV} {v : V} (r : RV K f w s σ H x v) (st : StOk K f w s σ H) : ∃ f', StOk K f' w s σ H ∧ Hold K f f' σ w x v := by
  cases x with
  | d d => exact ⟨f, st, fun w2 s2 H2 e st2 => ⟨st2, Rep.mono e r⟩, fun w2 s2 H2 y u r => ⟨r, fun z => nomatch z⟩⟩
  | o xs =>
    obtain ⟨p, vs, rfl, h1, h2, h3, h4, h5, h6⟩ := r
    refine ⟨_, st.guard h1 h3 h5 h4 h6, fun w2 s2 H2 e st2 => ?_, fun w2 s2 H2 y u r => ?_⟩
    · obtain ⟨u1, u2, u3, u4, u5⟩ := StOk.unguard st st2 h5 h4 (Same.free st.f0 h3)
      exact ⟨u1, p, vs, rfl, u2, RepAll.mono e h2, u3, by rw [u4]; exact h4, h5, u5⟩
    · cases y with
      | d d => exact ⟨r, fun _ z => nomatch z⟩
      | o ys =>
        obtain ⟨q, us, rfl, g1, g2, g3, g4, g5, g6⟩ := r
        have np : q ≠ p := fun z => by
          rw [z] at g5
          have e : (f.guard p (.lst vs) w.bp).H0 p = some (.lst vs) := if_pos rfl
          rw [e] at g5
          cases g5
        have g5' : f.H0 q = none := by
          have e : (f.guard p (.lst vs) w.bp).H0 q = f.H0 q := if_neg np
          rw [← e]
          exact g5
        exact ⟨⟨q, us, rfl, g1, g2, g3, g4, g5', g6⟩, fun _ _ z => np (by cases z; rfl)⟩
      | no => exact r.elim
      | bx => exact r.elim
      | ok _ => exact r.elim
      | ot _ => exact r.elim
  | no => exact r.elim
  | bx => exact r.elim
  | ok _ => exact r.elim
  | ot _ => exact r.elim
theorem StOk.setV (st : StOk K f w s σ H) {i : Nat} {x : SV} {v : V} (r : RV K f w s σ H x v) : StOk K f w (setS i x s) (σ.set i (some v)) H := by
  cases x with
  | d d => exact st.set r
  | o xs => exact st.setF r
  | no => exact r.elim
  | bx => exact r.elim
  | ok _ => exact r.elim
  | ot _ => exact r.elim
theorem RV.later {x y : SV} {v u : V} {i : Nat} (r : RV K f w s σ H y u) (ap : x.own = true → y.own = true → v ≠ u) : RV K f w (setS i x s) (σ.set i (some v)) H y u := by
  cases y with
  | d d => exact r
  | o ys =>
    obtain ⟨q, us, rfl, g1, g2, g3, g4, g5, g6⟩ := r
    refine ⟨q, us, rfl, g1, g2, g3, g4, g5, fun k z e o => ?_⟩
    rcases getElem?_set_cases e with ⟨rfl, rfl⟩ | ⟨n, e⟩
    · have := ap o rfl
      intro hz
      by_cases hi : i < σ.length
      · rw [List.getElem?_set_self hi] at hz
        exact this (Option.some.inj hz)
      · rw [List.getElem?_eq_none (by simpa using hi)] at hz
        cases hz
    · rw [List.getElem?_set_ne n]
      exact g6 k z e o
  | no => exact r.elim
  | bx => exact r.elim
  | ok _ => exact r.elim
  | ot _ => exact r.elim
theorem Po.held {α β : Type} {R R' : Fm → Wd → S → L2.St → Hp → α → β → Prop} {Q : β → Hp → Prop} {o : Out α} (hf : ∀ w2 s2 H2, Ext w w2 → StOk K f' w2 s2 σ H2 → StOk K f w2 s2 σ H2) (h : Po K f W R w σ Q o) (q : ∀ w s H a b, R' f' w s σ H a b → R f w s σ H a b) : Po K f' W R' w σ Q o := by
  cases o with
  | ok a s => exact fun w2 H2 b e2 st r => h w2 H2 b e2 (hf _ _ _ e2 st) (q _ _ _ _ _ r)
  | exc x s => exact fun w2 H2 c dd e2 st r => h w2 H2 c dd e2 (hf _ _ _ e2 st) r
  | no => exact h
end
section
variable {X : Cx} {W : WX} {a b c e : Expr} {pos : Pos} {m : M D} {ma mb mc : M SV}
theorem v_val (h : PE X e (tM X.K W m)) : PE X e (tV X.K W (mVal m)) := pe_imp h fun σ H Q ⟨f, w, s, st, q⟩ => ⟨f, w, s, st, Po.map q fun _ _ _ _ _ r => r⟩
theorem v_new {m : M (List D)} (h : PE X e (tF X.K W m)) : PE X e (tV X.K W (mNew m)) := pe_imp h fun σ H Q ⟨f, w, s, st, q⟩ => ⟨f, w, s, st, Po.map q fun _ _ _ _ _ r => r⟩
/-- name = value or new list -/
def sSetV (i : Nat) (m : M SV) : MS := fun s => (m s).toS fun x s1 => .nx (setS i x s1)
theorem s_setV {i : Nat} {x : Str} {pos' : Pos} (hN : X.N.Nodup) (hi : X.N[i]? = some x) (hx : Loc X.env.scope x) (he : PE X e (tV X.K W ma)) (hs : swapsWith e (some (.Name x pos')) pos.line X.env = pure false := by rfl)
    (hf : X.fn x = true ∨ X.env.scope.names.lookup x = some .local := by first | exact .inl rfl | exact .inr rfl | assumption) : PS X (.Assign [.Name x pos'] e pos) (tS X.K W (sSetV i ma)) := by
  refine ps_imp (ps_set hN hi hx he hs hf) fun E σ H ⟨f, w, s, st, p⟩ => ?_
  exact ⟨f, w, s, st, PoS.thn p fun a w1 s1 b H1 e1 st1 r1 p1 => p1 w1 _ H1 (Ext.refl _) (st1.setV r1)⟩
/-- name = [.. for ..] on one line -/
theorem s_setLc {i : Nat} {y : Str} {py : Pos} {elt tg iter : Expr} {ifs : List Expr} {scope : Scope} {own : List (Str × Nat)} {spos : Pos} {mi : M (List D)} {g : D → S → Option S} {ts : List Nat} {tt : M Bool} {me : M D} (hc : X.calm = true) (hN : X.N.Nodup)
    (hy : X.N[i]? = some y) (hyl : X.env.scope.names.lookup y = some .local) (hsw : swapsWith (.ListComp elt [⟨tg, iter, ifs, 0⟩] scope pos) (some (.Name y py)) spos.line X.env = pure true) (hi : PI X tg iter (tI X.K W mi)) (ok : BlkOk X.N X.env.scope scope own) (hts : ∀ i ∈ ts, i ∈ own.map (·.2))
    (hg : ∀ (s : Shared) (H : Hp) (C : Addr) (cl : List (Str × Addr)) (fp : List Addr), PG (X.blk s H scope (compEnvC scope cl C X.env) fp) tg (tTg X.K ts g))
    (ht : ∀ (s : Shared) (H : Hp) (C : Addr) (cl : List (Str × Addr)) (fp : List Addr), PTs (X.blk s H scope (compEnvC scope cl C X.env) fp) ifs (tT X.K W0 tt))
    (he : ∀ (s : Shared) (H : Hp) (C : Addr) (cl : List (Str × Addr)) (fp : List Addr), PE (X.blk s H scope (compEnvC scope cl C X.env) fp) elt (tM X.K W0 me)) (hs : ∀ x, foldedSetIterable iter X.env x = pure x := by intro _; rfl) :
    PS X (.Assign [.Name y py] (.ListComp elt [⟨tg, iter, ifs, 0⟩] scope pos) spos) (tS X.K W (sSetF i (mComp mi g tt me (own.map (·.2))))) := by
  refine ps_imp (ps_setLc hc hN hy hyl hsw hi ok hg ht he hs) fun E σ H ⟨f, w, s, st, p⟩ => ?_
  exact c_comp hts σ H _ ⟨f, w, s, st, PoS.thn p fun a w1 s1 b H1 e1 st1 r1 p1 => p1 w1 _ H1 (Ext.refl _) (st1.setF r1)⟩
/-- a, b = x, y -/
def sParV (i j : Nat) (ma mb : M SV) : MS := fun s => (ma s).toS fun x s1 => (mb s1).toS fun y s2 => .nx (setS j y (setS i x s2))
theorem s_parV {i j : Nat} {x y : Str} {px py pt : Pos} {kt k2 pt2} (hc : X.calm = true) (hN : X.N.Nodup) (hi : X.N[i]? = some x) (hj : X.N[j]? = some y) (hij : i ≠ j)
    (hx : X.env.scope.names.lookup x = some .local) (hy : X.env.scope.names.lookup y = some .local) (ha : PE X a (tV X.K W ma)) (hb : PE X b (tV X.K W mb))
    (hw : swappedStores [.Tuple [.Name x px, .Name y py] kt pt] (.Tuple [a, b] k2 pt2) X.env = pure (some [x, y]) := by rfl)
    (hs : swapsWithSole [.Tuple [.Name x px, .Name y py] kt pt] (.Tuple [a, b] k2 pt2) pos.line X.env = pure false := by rfl)
    (n1 : starEach [a, b] X.env = (false, eval a X.env) :: starEach [b] X.env := by rfl) (n2 : starEach [b] X.env = (false, eval b X.env) :: starEach [] X.env := by rfl) :
    PS X (.Assign [.Tuple [.Name x px, .Name y py] kt pt] (.Tuple [a, b] k2 pt2) pos) (tS X.K W (sParV i j ma mb)) := by
  refine ps_imp (ps_par hc hN hi hj hij hx hy (pa_cons ha (pa_cons hb pa_nil n2) n1) hw hs) fun E σ H ⟨f, w, s, st, p⟩ => ?_
  refine ⟨f, w, s, st, PoS.thn p fun x w1 s1 v H1 e1 st1 r1 p1 => ?_⟩
  obtain ⟨f', st1', hold⟩ := r1.hold st1
  refine ⟨f', w1, s1, st1', ?_⟩
  cases em : mb s1 with
  | no => rw [em] at p1; exact p1.elim
  | exc z s2 =>
    rw [em] at p1
    exact fun w2 H2 c dd e2 st2 r => p1 w2 σ H2 c dd e2 (hold.st _ _ _ e2 st2).1 r
  | ok y s2 =>
    rw [em] at p1
    intro w2 H2 u e2 st2 r2
    obtain ⟨st3, r1'⟩ := hold.st _ _ _ e2 st2
    obtain ⟨r2', ap⟩ := hold.rv _ _ _ _ _ r2
    exact ⟨v, u, rfl, p1 w2 _ H2 e2 ((st3.setV r1').setV (r2'.later ap))⟩
def sPar3V (i j l : Nat) (ma mb mc : M SV) : MS := fun s => (ma s).toS fun x s1 => (mb s1).toS fun y s2 => (mc s2).toS fun z s3 => .nx (setS l z (setS j y (setS i x s3)))
theorem s_par3V {i j l : Nat} {x y z : Str} {px py pz pt : Pos} {kt k2 pt2} (hc : X.calm = true) (hN : X.N.Nodup) (hi : X.N[i]? = some x) (hj : X.N[j]? = some y) (hl : X.N[l]? = some z) (hij : i ≠ j) (hil : i ≠ l) (hjl : j ≠ l)
    (hx : X.env.scope.names.lookup x = some .local) (hy : X.env.scope.names.lookup y = some .local) (hz : X.env.scope.names.lookup z = some .local) (ha : PE X a (tV X.K W ma)) (hb : PE X b (tV X.K W mb)) (hd : PE X c (tV X.K W mc))
    (hw : swappedStores [.Tuple [.Name x px, .Name y py, .Name z pz] kt pt] (.Tuple [a, b, c] k2 pt2) X.env = pure (some [x, y, z]) := by rfl)
    (hs : swapsWithSole [.Tuple [.Name x px, .Name y py, .Name z pz] kt pt] (.Tuple [a, b, c] k2 pt2) pos.line X.env = pure false := by rfl)
    (n1 : starEach [a, b, c] X.env = (false, eval a X.env) :: starEach [b, c] X.env := by rfl) (n2 : starEach [b, c] X.env = (false, eval b X.env) :: starEach [c] X.env := by rfl) (n3 : starEach [c] X.env = (false, eval c X.env) :: starEach [] X.env := by rfl) :
    PS X (.Assign [.Tuple [.Name x px, .Name y py, .Name z pz] kt pt] (.Tuple [a, b, c] k2 pt2) pos) (tS X.K W (sPar3V i j l ma mb mc)) := by
  refine ps_imp (ps_par3 hc hN hi hj hl hij hil hjl hx hy hz (pa_cons ha (pa_cons hb (pa_cons hd pa_nil n3) n2) n1) hw hs) fun E σ H ⟨f, w, s, st, p⟩ => ?_
  refine ⟨f, w, s, st, PoS.thn p fun x w1 s1 v H1 e1 st1 r1 p1 => ?_⟩
  obtain ⟨f1, st1', h1⟩ := r1.hold st1
  refine ⟨f1, w1, s1, st1', ?_⟩
  cases em : mb s1 with
  | no => rw [em] at p1; exact p1.elim
  | exc z s2 =>
    rw [em] at p1
    exact fun w2 H2 c dd e2 st2 r => p1 w2 σ H2 c dd e2 (h1.st _ _ _ e2 st2).1 r
  | ok y s2 =>
    rw [em] at p1
    intro w2 H2 u e2 st2 r2
    obtain ⟨f2, st2', h2⟩ := r2.hold st2
    refine ⟨f2, w2, s2, st2', ?_⟩
    have p2 : PoS X.K f W w1 E ((mc s2).toS fun z s3 => .nx (setS l z (setS j y (setS i x s3)))) := p1
    cases en : mc s2 with
    | no => rw [en] at p2; exact p2.elim
    | exc z s3 =>
      rw [en] at p2
      exact fun w3 H3 c dd e3 st3 r => p2 w3 σ H3 c dd (e2.trans e3) (h1.st _ _ _ (e2.trans e3) (h2.st _ _ _ e3 st3).1).1 r
    | ok z s3 =>
      rw [en] at p2
      intro w3 H3 t e3 st3 r3
      obtain ⟨st4, r2'⟩ := h2.st _ _ _ e3 st3
      obtain ⟨r3', a23⟩ := h2.rv _ _ _ _ _ r3
      obtain ⟨st5, r1'⟩ := h1.st _ _ _ (e2.trans e3) st4
      obtain ⟨r2'', a12⟩ := h1.rv _ _ _ _ _ r2'
      obtain ⟨r3'', a13⟩ := h1.rv _ _ _ _ _ r3'
      exact ⟨v, u, t, rfl, p2 w3 _ H3 (e2.trans e3) (((st5.setV r1').setV (r2''.later a12)).setV ((r3''.later a13).later a23))⟩
end
end Pv
end PvP_

section PvQ_
set_option Elab.async false
set_option linter.all false
set_option maxRecDepth 100000
set_option maxHeartbeats 4000000
namespace Pv
open PySem PySem.Spec PyProof.Rows L2

/-! ### enumerate, zip -/
def seqD : D → Option (Bool × List D)
  | .lst xs => some (true, xs)
  | .tup xs => some (false, xs)
  | .scr ns => some (true, ns.map .int)
  | _ => none
def enD : Nat → List D → List D
  | _, [] => []
  | i, x :: r => .tup [.int (i : Nat), x] :: enD (i + 1) r
theorem enD_get : ∀ {xs : List D} {k i : Nat}, (enD k xs)[i]? = xs[i]?.map fun x => .tup [.int ((k + i : Nat) : Int), x]
  | [], _, _ => by simp [enD]
  | x :: r, k, 0 => by simp [enD]
  | x :: r, k, i + 1 => by
    show (enD (k + 1) r)[i]? = _
    rw [enD_get, List.getElem?_cons_succ, show k + 1 + i = k + (i + 1) by omega]
theorem enD_len : ∀ {xs : List D} {k : Nat}, (enD k xs).length = xs.length
  | [], _ => rfl
  | x :: r, k => by show (enD (k + 1) r).length + 1 = r.length + 1; rw [enD_len]
def zpD (xs ys : List D) : List D := List.zipWith (fun x y => .tup [x, y]) xs ys
section
variable {K : PySem.W.Frag} {w : Wd} {f : Fm} {s : S} {σ : L2.St} {H : Hp}
theorem Rep.sq {d : D} {v : V} {b : Bool} {xs : List D} (r : Rep K w d v) (e : seqD d = some (b, xs)) : ∃ a vs, v = .ref a ∧ Sq K b w.F a vs ∧ RepAll K w xs vs := by
  cases d with
  | lst ys =>
    cases e
    obtain ⟨a, vs, h1, h2, h3⟩ := r
    exact ⟨a, vs, h1, .inl (.inl h2), h3⟩
  | tup ys =>
    cases e
    obtain ⟨a, vs, h1, h2, h3⟩ := r
    exact ⟨a, vs, h1, h2, h3⟩
  | scr ns =>
    cases e
    obtain ⟨a, h1, h2⟩ := r
    exact ⟨a, _, h1, h2, RepAll.of_ints ns⟩
  | _ => cases e
theorem Sq.mono {H H' : Hp} {b : Bool} {a : Addr} {vs : List V} (e : Same H H') (q : Sq K b H a vs) : Sq K b H' a vs := by
  cases b with
  | true => exact e.seq q
  | false => exact same_seqT e q
theorem wk_en {b : Bool} {a : Addr} {xs : List D} {vs : List V} (q : Sq K b w.F a vs) (r : RepAll K w xs vs) : Wk K w (JEn K b a) (enD 0 xs) := by
  have wl := walk_en (K := K) (b := b) (a := a) (xs := vs)
  rw [r.length, ← enD_len (k := 0)] at wl
  refine ⟨_, _, wl, fun H e => q.mono e, fun i H x H1 d y e => .inr ?_⟩
  obtain ⟨T, y1, y2, h1, h2, h3, h4, h5⟩ := y
  rw [enD_get] at e
  obtain ⟨z, ez, rfl⟩ := Option.map_eq_some_iff.mp e
  obtain ⟨u, eu, ru⟩ := r.get ez
  have h4' : some (V.int (i : Nat)) = some y1 := h4
  have h5' : vs[i]? = some y2 := h5
  rw [eu] at h5'
  cases h4'
  cases h5'
  exact ⟨T, _, [.int ((0 + i : Nat) : Int), z], h1, h2, h3, rfl, RepAll.cons (by rw [Nat.zero_add]; rfl) (RepAll.one ru)⟩
theorem wk_zp {b1 b2 : Bool} {a1 a2 : Addr} {xs ys : List D} {vs us : List V} (q1 : Sq K b1 w.F a1 vs) (r1 : RepAll K w xs vs) (q2 : Sq K b2 w.F a2 us) (r2 : RepAll K w ys us) : Wk K w (JZp K b1 b2 a1 a2) (zpD xs ys) := by
  have wl := walk_zp (K := K) (b1 := b1) (b2 := b2) (a1 := a1) (a2 := a2) (xs := vs) (ys := us) (n := (zpD xs ys).length) (by unfold zpD; rw [List.length_zipWith, r1.length, r2.length])
  refine ⟨_, _, wl, fun H e => ⟨q1.mono e, q2.mono e⟩, fun i H x H1 d y e => .inr ?_⟩
  obtain ⟨T, y1, y2, h1, h2, h3, h4, h5⟩ := y
  unfold zpD at e
  rw [List.getElem?_zipWith] at e
  cases ex : xs[i]? with
  | none => rw [ex] at e; cases e
  | some p =>
    cases ey : ys[i]? with
    | none => rw [ex, ey] at e; cases e
    | some q =>
      rw [ex, ey] at e
      cases e
      obtain ⟨u1, e1, s1⟩ := r1.get ex
      obtain ⟨u2, e2, s2⟩ := r2.get ey
      have h4' : vs[i]? = some y1 := h4
      have h5' : us[i]? = some y2 := h5
      rw [e1] at h4'
      rw [e2] at h5'
      cases h4'
      cases h5'
      exact ⟨T, _, [p, q], h1, h2, h3, rfl, RepAll.cons s1 (RepAll.one s2)⟩
end
def iEnM (m : M D) : M (List D) := fun s => (m s).bind fun d s1 => match seqD d with
  | some (_, xs) => .ok (enD 0 xs) s1
  | none => .no
def iZpM (ma mb : M D) : M (List D) := fun s => (ma s).bind fun x s1 => (mb s1).bind fun y s2 => match seqD x, seqD y with
  | some (_, xs), some (_, ys) => .ok (zpD xs ys) s2
  | _, _ => .no
section
variable {X : Cx} {W : WX} {a b e : Expr} {p pos tpos : Pos} {elts : List Expr} {kk : Nat} {ma mb m : M D}
theorem i_en (hg : Gl X "enumerate") (hm : X.mg "enumerate" = none) (ha : PE X a (tM X.K W m)) (hs : starEach [a] X.env = [(false, eval a X.env)] := by rfl) : PI X (.Tuple elts kk tpos) (.Call (.Name "enumerate" p) [a] [] pos) (tI X.K W (iEnM m)) := by
  refine pi_imp (pi_en hg hm (pa_cons ha pa_nil hs) hs) fun σ H R ⟨f, w, s, st, q⟩ => ⟨f, w, s, st, Po.thn q fun x w1 s1 v H1 e1 st1 r1 p1 => ?_⟩
  cases ed : seqD x with
  | none => rw [ed] at p1; exact p1.elim
  | some bx =>
    obtain ⟨b, xs⟩ := bx
    rw [ed] at p1
    obtain ⟨a', vs, rfl, h1, h2⟩ := r1.sq ed
    exact ⟨a', b, vs, rfl, h1.mono st1.sub, p1 w1 H1 _ (Ext.refl _) st1 (wk_en h1 h2)⟩
theorem i_zp (hg : Gl X "zip") (hm : X.mg "zip" = none) (ha : PE X a (tM X.K W ma)) (hb : PE X b (tM X.K W mb)) (hs : starEach [a, b] X.env = (false, eval a X.env) :: starEach [b] X.env := by rfl) (hs2 : starEach [b] X.env = (false, eval b X.env) :: starEach [] X.env := by rfl)
    (hpl : (backTo pos (starEach [b] X.env)).any (·.1) = false := by rfl) : PI X (.Tuple elts kk tpos) (.Call (.Name "zip" p) [a, b] [] pos) (tI X.K W (iZpM ma mb)) := by
  refine pi_imp (pi_zp hg hm (pa_cons ha (pa_cons hb pa_nil hs2) hs) hs hpl) fun σ H R ⟨f, w, s, st, q⟩ => ⟨f, w, s, st, Po.thn q fun x w1 s1 v H1 e1 st1 r1 p1 => ⟨f, w1, s1, st1, Po.thn p1 fun y w2 s2 u H2 e2 st2 r2 p2 => ?_⟩⟩
  cases ex : seqD x with
  | none => rw [ex] at p2; exact p2.elim
  | some bx =>
    cases ey : seqD y with
    | none => rw [ex, ey] at p2; exact p2.elim
    | some by' =>
      obtain ⟨b1, xs⟩ := bx
      obtain ⟨b2, ys⟩ := by'
      rw [ex, ey] at p2
      obtain ⟨a1, vs, rfl, h1, h2⟩ := (Rep.mono e2 r1).sq ex
      obtain ⟨a2, us, rfl, h3, h4⟩ := r2.sq ey
      exact ⟨a1, a2, b1, b2, vs, us, rfl, h1.mono st2.sub, h3.mono st2.sub, p2 w2 H2 _ (Ext.refl _) st2 (wk_zp h1 h2 h3 h4)⟩

/-! ### a lent name compared -/
def R2L (K : PySem.W.Frag) (r : R2) (g : D → D → Option D) : Prop := ∀ (f : Fm) (w : Wd) (s : S) (σ : L2.St) (H : Hp) (x y z : D) (v u : V) (Q : VK), StOk K f w s σ H → RL K f w s σ H x v → Rep K w y u → g x y = some z → (∀ t, Rep K w z t → Q t H) → r v u H Q
def m2N (g : D → D → Option Bool) (i : Nat) (mb : M D) : M Bool := fun s => match look i s with
  | none => .no
  | some _ => (mb s).bind fun y s1 => match look i s1 with
    | none => .no
    | some x => ofO (g x y) s1
theorem t_cmpN (i : Nat) {op : CmpOp} {x : Str} {r : R2} {g : D → D → Option Bool} (ho : OpR X (compareOp op) r) (hr : R2L X.K r fun x y => oB (g x y)) (hm : behindInMarks op b = false) (hb : PE X b (tM X.K W mb)) (hN : X.N[i]? = some x := by rfl)
    (hv : Vis X.env.scope x := by first | exact Or.inl rfl | exact Or.inr (Or.inl rfl) | exact Or.inr (Or.inr rfl)) (hd : (x == ("__debug__" : Str)) = false := by decide) (hcd : (x == ("__classdict__" : Str)) = false := by decide) :
    PT X (.Compare (.Name x p) [op] [b] pos) (tT X.K W (m2N g i mb)) := by
  refine pt_imp (pt_cmpR ho (pe_var hN hv hd hcd) hb hm) fun σ H Q ⟨f, w, s, st, q⟩ => ?_
  unfold m2N at q
  cases e0 : look i s with
  | none => rw [e0] at q; exact q.elim
  | some x0 =>
    rw [e0] at q
    obtain ⟨u, eu, _⟩ := st.look e0
    refine ⟨u, eu, f, w, s, st, Po.thn q fun y w1 s1 v H1 e1 st1 r1 p1 => ?_⟩
    cases e2 : look i s1 with
    | none => rw [e2] at p1; exact p1.elim
    | some x1 =>
      rw [e2] at p1
      obtain ⟨u1, eu1, rx⟩ := st1.look e2
      rw [eu] at eu1
      cases eu1
      obtain ⟨k, ek, pk⟩ := p1.ofO
      refine hr f w1 s1 σ H1 x1 y (.bl k) u v _ st1 rx r1 (by show oB (g x1 y) = _; rw [ek]; rfl) fun t rt => ⟨k, rt, pk w1 H1 k (Ext.refl _) st1 rfl⟩
end
section
variable {K : PySem.W.Frag} {f : Fm} {w : Wd} {s : S} {σ : L2.St} {H : Hp}
theorem RL.dp {d : D} {v : V} (st : StOk K f w s σ H) (h : okD d = true) (r : RL K f w s σ H d v) : Dp K H v (toP d) := by
  rcases r with r | ⟨p, vs, xs, rfl, rfl, h1, h2⟩
  · exact Rep.dp st.sub h r
  · exact .lst (SqL.of h1) (RepAll.dp st.sub (ds := xs) h h2)
theorem eq_same {f : Fm} {w : Wd} {s : S} {σ : L2.St} {H : Hp} {x y : D} {v u : V} {Q : VK} {k : Bool} (st : StOk K f w s σ H) (rv : Rep K w x v) (ru : Rep K w y u) (e : dEq x y = some k) (q : Q (.bl k) H) : rEqA K v u H Q := by
  unfold dEq at e
  split at e
  · rename_i a b
    cases e
    refine .inl ⟨by rw [show v = .str a from rv, show u = .str b from ru]; rfl, ?_⟩
    rw [show v = .str a from rv, show u = .str b from ru, dec_str]
    exact q
  · rename_i a b
    cases e
    refine .inl ⟨by rw [show v = .int a from rv, show u = .int b from ru]; rfl, ?_⟩
    rw [show v = .int a from rv, show u = .int b from ru, dec_int]
    exact q
  · rename_i a b
    cases e
    refine .inl ⟨by rw [show v = .bl a from rv, show u = .bl b from ru]; rfl, ?_⟩
    rw [show v = .bl a from rv, show u = .bl b from ru, dec_bl]
    exact q
  · split at e
    · rename_i h
      cases e
      have ho := Bool.and_eq_true_iff.mp h.1
      refine .inr ⟨_, _, Rep.dp st.sub ho.1 rv, Rep.dp st.sub ho.2 ru, shaped_of ho.1 h.2.1, shaped_of ho.2 h.2.2, ?_⟩
      rw [toP_eqv ho.1 ho.2]
      exact q
    · cases e
theorem eqL_ok : R2L K (rEqA K) (fun x y => oB (dEq x y)) := by
  intro f w s σ H x y z v u Q st rv ru ez q
  by_cases hl : ∃ xs, x = .lst xs
  · obtain ⟨xs, rfl⟩ := hl
    have ez' : oB (if (okD (.lst xs) && okD y) = true ∧ depthD (.lst xs) ≤ 64 ∧ depthD y ≤ 64 then some (eqD (.lst xs) y) else none) = some z := ez
    split at ez'
    · rename_i h
      cases ez'
      have ho := Bool.and_eq_true_iff.mp h.1
      refine .inr ⟨_, _, rv.dp st ho.1, Rep.dp st.sub ho.2 ru, shaped_of ho.1 h.2.1, shaped_of ho.2 h.2.2, ?_⟩
      rw [toP_eqv ho.1 ho.2]
      exact q _ rfl
    · cases ez'
  · have r' := rv.rep fun xs z => hl ⟨xs, z⟩
    cases hz : dEq x y with
    | none =>
      have ez' : oB (dEq x y) = some z := ez
      rw [hz] at ez'
      cases ez'
    | some k =>
      have ez' : oB (dEq x y) = some z := ez
      rw [hz] at ez'
      cases ez'
      exact eq_same st r' ru hz (q _ rfl)
theorem ne_same {f : Fm} {w : Wd} {s : S} {σ : L2.St} {H : Hp} {x y : D} {v u : V} {Q : VK} {k : Bool} (st : StOk K f w s σ H) (rv : Rep K w x v) (ru : Rep K w y u) (e : dEq x y = some k) (q : Q (.bl (!k)) H) : rNeA K v u H Q := by
  unfold dEq at e
  split at e
  · rename_i a b
    cases e
    refine .inl ⟨by rw [show v = .str a from rv, show u = .str b from ru]; rfl, ?_⟩
    rw [show v = .str a from rv, show u = .str b from ru, dec_str]
    exact q
  · rename_i a b
    cases e
    refine .inl ⟨by rw [show v = .int a from rv, show u = .int b from ru]; rfl, ?_⟩
    rw [show v = .int a from rv, show u = .int b from ru, dec_int]
    exact q
  · rename_i a b
    cases e
    refine .inl ⟨by rw [show v = .bl a from rv, show u = .bl b from ru]; rfl, ?_⟩
    rw [show v = .bl a from rv, show u = .bl b from ru, dec_bl]
    exact q
  · split at e
    · rename_i h
      cases e
      have ho := Bool.and_eq_true_iff.mp h.1
      refine .inr ⟨_, _, Rep.dp st.sub ho.1 rv, Rep.dp st.sub ho.2 ru, shaped_of ho.1 h.2.1, shaped_of ho.2 h.2.2, ?_⟩
      rw [toP_eqv ho.1 ho.2]
      exact q
    · cases e
theorem neL_ok : R2L K (rNeA K) (fun x y => oB ((dEq x y).map (!·))) := by
  intro f w s σ H x y z v u Q st rv ru ez q
  by_cases hl : ∃ xs, x = .lst xs
  · obtain ⟨xs, rfl⟩ := hl
    have ez' : oB ((if (okD (.lst xs) && okD y) = true ∧ depthD (.lst xs) ≤ 64 ∧ depthD y ≤ 64 then some (eqD (.lst xs) y) else none).map (!·)) = some z := ez
    split at ez'
    · rename_i h
      cases ez'
      have ho := Bool.and_eq_true_iff.mp h.1
      refine .inr ⟨_, _, rv.dp st ho.1, Rep.dp st.sub ho.2 ru, shaped_of ho.1 h.2.1, shaped_of ho.2 h.2.2, ?_⟩
      rw [toP_eqv ho.1 ho.2]
      exact q _ rfl
    · cases ez'
  · have r' := rv.rep fun xs z => hl ⟨xs, z⟩
    cases hz : dEq x y with
    | none =>
      have ez' : oB ((dEq x y).map (!·)) = some z := ez
      rw [hz] at ez'
      cases ez'
    | some k =>
      have ez' : oB ((dEq x y).map (!·)) = some z := ez
      rw [hz] at ez'
      cases ez'
      exact ne_same st r' ru hz (q _ rfl)
end

/-! ### isinstance -/
def tyD : D → Option String
  | .non => some "NoneType"
  | .bl _ => some "bool"
  | .int _ => some "int"
  | .str _ => some "str"
  | .lst _ => some "list"
  | .tup _ => some "tuple"
  | _ => none
def isSub (t T : String) : Bool := t == T || (t == "bool" && T == "int")
def tysD : List String := ["NoneType", "bool", "int", "str", "list", "tuple"]
def clsD : List String := ["bool", "int", "str", "list", "tuple"]
theorem kit_tab : ∀ t ∈ tysD, ∀ T ∈ clsD, kitB t T = some (isSub t T) := by decide +kernel
theorem tyD_mem {d : D} {t : String} (h : tyD d = some t) : t ∈ tysD := by
  cases d <;> first | (cases h; decide) | cases h
section
variable {K : PySem.W.Frag} {f : Fm} {w : Wd} {s : S} {σ : L2.St} {H H' : Hp}
theorem RL.ty {d : D} {v : V} {t : String} (st : StOk K f w s σ H) (r : RL K f w s σ H d v) (e : tyD d = some t) (k : Same H H') : TyX K H' v (.type t) := by
  cases d with
  | non => cases e; rw [show v = .non from r.rep fun _ z => nomatch z]; exact .base .non
  | bl b => cases e; rw [show v = .bl b from r.rep fun _ z => nomatch z]; exact .base (.bl b)
  | int b => cases e; rw [show v = .int b from r.rep fun _ z => nomatch z]; exact .base (.int b)
  | str b => cases e; rw [show v = .str b from r.rep fun _ z => nomatch z]; exact .base (.str b)
  | lst xs =>
    cases e
    obtain ⟨p, vs, rfl, h1, _⟩ := r.lst st
    exact .base (.lst (k _ _ h1))
  | tup xs =>
    cases e
    obtain ⟨p, vs, rfl, h1, _⟩ := r.tup st
    rcases same_seqT k h1 with (h | ⟨o, h⟩) | ⟨o, its, n, h, hc, _⟩
    · exact .base (.tup h)
    · exact .fTuple h
    · exact .kTuple h hc
  | _ => cases e
end
def dIsi (Ts : List String) (d : D) : Option D := (tyD d).map fun t => .bl (Ts.any (isSub t))
section
variable {X : Cx} {W : WX} {e : Expr} {p pos p1 p2 p3 : Pos} {m : M D} {c c1 c2 : Str} {T T1 T2 : String} {kk : Nat}
theorem q_isi (hg : Gl X "isinstance") (hm : X.mg "isinstance" = none) (ha : PE X e (tL X.K W m)) (hgc : Gl X c) (hmc : X.mg c = none) (hvc : bootBuiltins c = some (.type T)) (hT : T ∈ clsD) (hnc : c ≠ "__name__" := by decide) (hdc : (c == ("__debug__" : Str)) = false := by decide)
    (he : starEach [e, .Name c p1] X.env = (false, eval e X.env) :: starEach [.Name c p1] X.env := by rfl) (he2 : starEach [.Name c p1] X.env = (false, eval (.Name c p1) X.env) :: starEach [] X.env := by rfl) (hpl : (backTo pos (starEach [.Name c p1] X.env)).any (·.1) = false := by rfl) :
    PE X (.Call (.Name "isinstance" p) [e, .Name c p1] [] pos) (tM X.K W (mB1 (dIsi [T]) m)) := by
  refine pe_imp (pe_callB call_isi hg hm (by decide +kernel) (pa_cons ha (pa_cons (pe_bltn hgc hmc hvc (v := .ty T) rfl hnc hdc) pa_nil he2) he) (he := he) (hpl := hpl)) fun σ H Q ⟨f, w, s, st, q⟩ => ?_
  refine ⟨f, w, s, st, Po.thn q fun x w1 s1 v H1 e1 st1 r1 p1 => ?_⟩
  obtain ⟨z, ez, pz⟩ := p1.ofO
  unfold dIsi at ez
  obtain ⟨t, et, rfl⟩ := Option.map_eq_some_iff.mp ez
  refine ⟨v, .ty T, .type t, .type T, isSub t T, rfl, .ty T, r1.ty st1 et fun _ _ z => z, kit_ty (kit_tab t (tyD_mem et) T hT), pz w1 H1 _ (Ext.refl _) st1 ?_⟩
  show V.bl (isSub t T) = V.bl (isSub t T || false)
  rw [Bool.or_false]
theorem q_isi2 (hg : Gl X "isinstance") (hm : X.mg "isinstance" = none) (ha : PE X e (tL X.K W m)) (hgc : Gl X c1) (hmc : X.mg c1 = none) (hvc : bootBuiltins c1 = some (.type T1)) (hT : T1 ∈ clsD) (hgd : Gl X c2) (hmd : X.mg c2 = none) (hvd : bootBuiltins c2 = some (.type T2)) (hT2 : T2 ∈ clsD)
    (hnc : c1 ≠ "__name__" := by decide) (hdc : (c1 == ("__debug__" : Str)) = false := by decide) (hnd : c2 ≠ "__name__" := by decide) (hdd : (c2 == ("__debug__" : Str)) = false := by decide)
    (he : starEach [e, .Tuple [.Name c1 p1, .Name c2 p2] kk p3] X.env = (false, eval e X.env) :: starEach [.Tuple [.Name c1 p1, .Name c2 p2] kk p3] X.env := by rfl)
    (he2 : starEach [.Tuple [.Name c1 p1, .Name c2 p2] kk p3] X.env = (false, eval (.Tuple [.Name c1 p1, .Name c2 p2] kk p3) X.env) :: starEach [] X.env := by rfl) (hpl : (backTo pos (starEach [.Tuple [.Name c1 p1, .Name c2 p2] kk p3] X.env)).any (·.1) = false := by rfl)
    (hs1 : starEach [.Name c1 p1, .Name c2 p2] X.env = (false, eval (.Name c1 p1) X.env) :: starEach [.Name c2 p2] X.env := by rfl) (hs2 : starEach [.Name c2 p2] X.env = (false, eval (.Name c2 p2) X.env) :: starEach [] X.env := by rfl) :
    PE X (.Call (.Name "isinstance" p) [e, .Tuple [.Name c1 p1, .Name c2 p2] kk p3] [] pos) (tM X.K W (mB1 (dIsi [T1, T2]) m)) := by
  refine pe_imp (pe_callB call_isiT hg hm (by decide +kernel) (pa_cons ha (pa_cons (pe_tup (pa_cons (pe_bltn hgc hmc hvc (v := .ty T1) rfl hnc hdc) (pa_cons (pe_bltn hgd hmd hvd (v := .ty T2) rfl hnd hdd) pa_nil hs2) hs1)) pa_nil he2) he) (he := he) (hpl := hpl)) fun σ H Q ⟨f, w, s, st, q⟩ => ?_
  refine ⟨f, w, s, st, Po.thn q fun x w1 s1 v H1 e1 st1 r1 p1 => ?_⟩
  obtain ⟨z, ez, pz⟩ := p1.ofO
  unfold dIsi at ez
  obtain ⟨t, et, rfl⟩ := Option.map_eq_some_iff.mp ez
  refine ⟨by show 2 ≤ sizeLine; decide, fun tp ntp => ?_⟩
  have k : Same H1 (upd H1 tp (.tup [.ty T1, .ty T2])) := fun b u e => by
    rw [upd_ne (ne_of_none e ntp)]
    exact e
  refine ⟨v, tp, [.ty T1, .ty T2], .type t, [.type T1, .type T2], isSub t T1 || isSub t T2, rfl, upd_same, .cons (.ty T1) (.cons (.ty T2) .nil), r1.ty st1 et k, ?_, pz w1 _ _ (Ext.refl _) (st1.lay ntp) ?_⟩
  · have h1 := kit_ty (K := X.K) (kit_tab t (tyD_mem et) T1 hT)
    have h2 := kit_ty (K := X.K) (kit_tab t (tyD_mem et) T2 hT2)
    refine kitAny_cons h1 (fun b1 => ?_) fun b1 => by rw [b1]; rfl
    rw [b1, Bool.false_or]
    refine kitAny_cons h2 (fun b2 => ?_) fun b2 => b2
    rw [b2]
    exact kitAny_nil
  · show V.bl (isSub t T1 || isSub t T2) = V.bl (isSub t T1 || (isSub t T2 || false))
    rw [Bool.or_false]
end
end Pv
end PvQ_

section PvR_
set_option Elab.async false
set_option linter.all false
set_option maxRecDepth 100000
set_option maxHeartbeats 4000000
namespace Pv
open PySem PySem.Spec PyProof.Rows L2

/-! ### sorted -/
theorem ltCps_lt : ∀ (a b : List Nat), ltCps a b = decide (a < b)
  | [], [] => by decide
  | [], y :: b => (decide_eq_true (List.nil_lt_cons y b)).symm
  | x :: a, [] => (decide_eq_false (List.not_lt_nil (x :: a))).symm
  | x :: a, y :: b => by
    show (decide (x < y) || (x == y && ltCps a b)) = _
    rw [ltCps_lt a b]
    rw [Bool.eq_iff_iff, Bool.or_eq_true, Bool.and_eq_true, decide_eq_true_iff, decide_eq_true_iff, decide_eq_true_iff, beq_iff_eq, List.cons_lt_cons_iff]
/-- a comes not behind b -/
def leS (a b : Str) : Bool := !strLt b a
theorem leS_iff {a b : Str} : leS a b = true ↔ a.cps.toList ≤ b.cps.toList := by
  unfold leS strLt
  rw [Bool.not_eq_true', decide_eq_false_iff_not, List.not_lt]
theorem leS_trans (a b c : Str) (h : leS a b = true) (g : leS b c = true) : leS a c = true := leS_iff.mpr (List.le_trans (leS_iff.mp h) (leS_iff.mp g))
theorem leS_total (a b : Str) : (leS a b || leS b a) = true := by
  rw [Bool.or_eq_true, leS_iff, leS_iff]
  exact List.le_total _ _
theorem str_ext {a b : Str} (h : a.cps.toList = b.cps.toList) : a = b := by
  obtain ⟨⟨x⟩⟩ := a
  obtain ⟨⟨y⟩⟩ := b
  have h' : x = y := h
  rw [h']
theorem leS_anti {a b : Str} (h : leS a b = true) (g : leS b a = true) : a = b := str_ext (List.le_antisymm (leS_iff.mp h) (leS_iff.mp g))
def sortS (xs : List Str) : List Str := xs.mergeSort leS
def sortI (ns : List Int) : List Int := ns.mergeSort fun a b => decide (a ≤ b)
theorem rising_le : ∀ {r : List Str} {p : Str}, risingS p r = true → r.Pairwise (fun a b => leS a b = true) ∧ ∀ y ∈ r, leS p y = true
  | [], p, _ => ⟨.nil, fun _ h => by cases h⟩
  | x :: r, p, h => by
    have h' : (!ltCps x.cps.toList p.cps.toList && risingS x r) = true := h
    cases e : ltCps x.cps.toList p.cps.toList with
    | true => rw [e] at h'; cases h'
    | false =>
      rw [e, Bool.not_false, Bool.true_and] at h'
      obtain ⟨h1, h2⟩ := rising_le h'
      have px : leS p x = true := by
        unfold leS strLt
        rw [← ltCps_lt, e]
        rfl
      exact ⟨.cons h2 h1, fun y hy => by
        rcases List.mem_cons.mp hy with z | z
        · rw [z]; exact px
        · exact leS_trans _ _ _ px (h2 y z)⟩
theorem sorted_le : ∀ {l : List Str}, sortedS l = true → l.Pairwise (fun a b => leS a b = true)
  | [], _ => .nil
  | x :: r, h => .cons (rising_le h).2 (rising_le h).1
theorem sortS_only {xs ys : List Str} (h1 : ys.Perm xs) (h2 : sortedS ys = true) : ys = sortS xs :=
  List.Perm.eq_of_pairwise (le := fun a b => leS a b = true) (fun a b _ _ => leS_anti) (sorted_le h2) (List.pairwise_mergeSort leS_trans leS_total xs) (h1.trans (List.mergeSort_perm xs leS).symm)
theorem sortI_only {xs ys : List Int} (h1 : ys.Perm xs) (h2 : ys.Pairwise (· ≤ ·)) : ys = sortI xs :=
  List.Perm.eq_of_pairwise (le := (· ≤ ·)) (fun a b _ _ => Int.le_antisymm) h2
    ((List.pairwise_mergeSort (le := fun a b => decide (a ≤ b)) (fun a b c h g => by simp at *; omega) (fun a b => by simp; omega) xs).imp fun h => of_decide_eq_true h) (h1.trans (List.mergeSort_perm xs _).symm)
def dSort (d : D) : Option (List D) := match d with
  | .lst xs => match intsD xs with
    | some ns => some ((sortI ns).map .int)
    | none => match strsD xs with
      | some ss => if ss.length < 64 then some ((sortS ss).map .str) else none
      | none => none
  | _ => none
theorem sort_ok {K : PySem.W.Frag} : B1F K (fun vs H Q => rSortedI K vs H Q ∨ rSortedS K vs H Q) dSort := by
  intro f w s σ H d z v Q st rv ez q
  unfold dSort at ez
  split at ez
  · rename_i xs
    obtain ⟨p, vs, rfl, h1, h2⟩ := rv.lst st
    split at ez
    · rename_i ns e
      cases ez
      have := intsD_eq e
      subst this
      rw [h2.ints] at h1
      exact .inl ⟨p, ns, rfl, .inl (.inl h1), fun ns' a pm so ha => by rw [sortI_only pm so]; exact st.newF (RepAll.of_ints _) q a ha⟩
    · split at ez
      · rename_i ss e
        split at ez
        · rename_i lt
          cases ez
          have := strsD_eq e
          subst this
          rw [h2.strs] at h1
          exact .inr ⟨p, ss, rfl, .inl (.inl h1), lt, fun ys a pm so ha => by rw [sortS_only pm so]; exact st.newF (RepAll.of_strs _) q a ha⟩
        · cases ez
      · cases ez
  · cases ez
section
variable {X : Cx} {W : WX} {a b e : Expr} {m ma mb : M D} {p pos : Pos}
theorem f_sort (hg : Gl X "sorted") (hm : X.mg "sorted" = none) (ha : PE X e (tL X.K W m)) (he : starEach [e] X.env = (false, eval e X.env) :: starEach [] X.env := by rfl) (hpl : (backTo pos (starEach [] X.env)).any (·.1) = false := by rfl) :
    PE X (.Call (.Name "sorted" p) [e] [] pos) (tF X.K W (mB1F dSort m)) := pe_imp (pe_callB (cr_sortedI.or cr_sortedS) hg hm (by decide +kernel) (a_lend ha he) (he := he) (hpl := hpl)) (c_1F sort_ok)

/-! ### max(a, b), min(a, b) -/
def dMax2 : D → D → Option D := gII fun i j => some (.int (max i j))
def dMin2 : D → D → Option D := gII fun i j => some (.int (min i j))
theorem q_max2 (hc : X.calm = true) (hg : Gl X "max") (hm : X.mg "max" = none) (ha : PE X a (tM X.K W ma)) (hb : PE X b (tM X.K W mb)) (he : starEach [a, b] X.env = (false, eval a X.env) :: starEach [b] X.env := by rfl) (he2 : starEach [b] X.env = (false, eval b X.env) :: starEach [] X.env := by rfl)
    (hpl : (backTo pos (starEach [b] X.env)).any (·.1) = false := by rfl) : PE X (.Call (.Name "max" p) [a, b] [] pos) (tM X.K W (m2 dMax2 ma mb)) := by
  refine pe_imp (pe_callB (call_max2 hc) hg hm (by decide +kernel) (pa_cons ha (pa_cons hb pa_nil he2) he) (he := he) (hpl := hpl)) fun σ H Q ⟨f, w, s, st, q⟩ => ?_
  refine ⟨f, w, s, st, Po.thn q fun x w1 s1 v H1 e1 st1 r1 p1 => ⟨f, w1, s1, st1, Po.thn p1 fun y w2 s2 u H2 e2 st2 r2 p2 => ?_⟩⟩
  obtain ⟨z, ez, pz⟩ := p2.ofO
  unfold dMax2 gII at ez
  split at ez
  · rename_i i j
    cases ez
    refine ⟨i, j, by rw [show v = .int i from r1, show u = .int j from r2], pz w2 H2 _ (Ext.refl _) st2 ?_⟩
    show V.int _ = V.int _
    congr 1
    split <;> omega
  · cases ez
theorem q_min2 (hc : X.calm = true) (hg : Gl X "min") (hm : X.mg "min" = none) (ha : PE X a (tM X.K W ma)) (hb : PE X b (tM X.K W mb)) (he : starEach [a, b] X.env = (false, eval a X.env) :: starEach [b] X.env := by rfl) (he2 : starEach [b] X.env = (false, eval b X.env) :: starEach [] X.env := by rfl)
    (hpl : (backTo pos (starEach [b] X.env)).any (·.1) = false := by rfl) : PE X (.Call (.Name "min" p) [a, b] [] pos) (tM X.K W (m2 dMin2 ma mb)) := by
  refine pe_imp (pe_callB (call_min2 hc) hg hm (by decide +kernel) (pa_cons ha (pa_cons hb pa_nil he2) he) (he := he) (hpl := hpl)) fun σ H Q ⟨f, w, s, st, q⟩ => ?_
  refine ⟨f, w, s, st, Po.thn q fun x w1 s1 v H1 e1 st1 r1 p1 => ⟨f, w1, s1, st1, Po.thn p1 fun y w2 s2 u H2 e2 st2 r2 p2 => ?_⟩⟩
  obtain ⟨z, ez, pz⟩ := p2.ofO
  unfold dMin2 gII at ez
  split at ez
  · rename_i i j
    cases ez
    refine ⟨i, j, by rw [show v = .int i from r1, show u = .int j from r2], pz w2 H2 _ (Ext.refl _) st2 ?_⟩
    show V.int _ = V.int _
    congr 1
    split <;> omega
  · cases ez

/-! ### list(range(..)) -/
def mRg1 (m : M D) : M (List D) := fun s => (m s).bind fun x s1 => match x with
  | .int j => if 0 ≤ j ∧ j ≤ 16777216 then .ok (rgD 0 j.toNat) s1 else .no
  | _ => .no
def mRg2 (ma mb : M D) : M (List D) := fun s => (ma s).bind fun x s1 => (mb s1).bind fun y s2 => match x, y with
  | .int i, .int j => if 0 ≤ i ∧ i ≤ 16777216 ∧ 0 ≤ j ∧ j ≤ 16777216 then .ok (rgD i (j - i).toNat) s2 else .no
  | _, _ => .no
theorem rg_rep {K : PySem.W.Frag} {w : Wd} {i j : Int} : RepAll K w (rgD i (j - i).toNat) (rgV i j) := by
  have e : ∀ (l : List Nat), RepAll K w (l.map fun k => D.int (i + (k : Nat))) (l.map fun k => V.int (i + (k : Nat))) := fun l => by
    induction l with
    | nil => rfl
    | cons a r ih => exact ⟨_, _, rfl, rfl, ih⟩
  exact e _
theorem f_rg1 {p2 pos2 : Pos} (hc : X.calm = true) (hg : Gl X "list") (hm : X.mg "list" = none) (hgr : Gl X "range") (hmr : X.mg "range" = none) (ha : PE X a (tM X.K W m)) (na : starEach [a] X.env = (false, eval a X.env) :: starEach [] X.env := by rfl)
    (nl : starEach [.Call (.Name "range" p2) [a] [] pos2] X.env = (false, eval (.Call (.Name "range" p2) [a] [] pos2) X.env) :: starEach [] X.env := by rfl) : PE X (.Call (.Name "list" p) [.Call (.Name "range" p2) [a] [] pos2] [] pos) (tF X.K W (mRg1 m)) := by
  refine pe_imp (pe_listRg hc hg hm (prg_1 hgr hmr ha na) nl) fun σ H Q ⟨f, w, s, st, q⟩ => ?_
  refine ⟨f, w, s, st, Po.thn q fun x w1 s1 v H1 e1 st1 r1 p1 => ?_⟩
  cases x with
  | int j =>
    have p1' : Po X.K f W (RF X.K) w1 σ Q (if 0 ≤ j ∧ j ≤ 16777216 then .ok (rgD 0 j.toNat) s1 else .no) := p1
    split at p1'
    · rename_i hj
      have rp := rg_rep (K := X.K) (w := w1) (i := 0) (j := j)
      rw [Int.sub_zero] at rp
      exact ⟨j, r1, .of_le (Int.le_refl _) hj.2 (by omega) hj.1, st1.newF rp p1'⟩
    · exact p1'.elim
  | _ => exact p1.elim
theorem f_rg2 {p2 pos2 : Pos} (hc : X.calm = true) (hg : Gl X "list") (hm : X.mg "list" = none) (hgr : Gl X "range") (hmr : X.mg "range" = none) (ha : PE X a (tM X.K W ma)) (hb : PE X b (tM X.K W mb)) (na : starEach [a, b] X.env = (false, eval a X.env) :: starEach [b] X.env := by rfl)
    (hp : (backTo pos2 (starEach [b] X.env)).any (·.1) = false := by rfl) (nb : starEach [b] X.env = (false, eval b X.env) :: starEach [] X.env := by rfl)
    (nl : starEach [.Call (.Name "range" p2) [a, b] [] pos2] X.env = (false, eval (.Call (.Name "range" p2) [a, b] [] pos2) X.env) :: starEach [] X.env := by rfl) : PE X (.Call (.Name "list" p) [.Call (.Name "range" p2) [a, b] [] pos2] [] pos) (tF X.K W (mRg2 ma mb)) := by
  refine pe_imp (pe_listRg hc hg hm (prg_2 hgr hmr ha hb na nb (hp := hp)) nl) fun σ H Q ⟨f, w, s, st, q⟩ => ?_
  refine ⟨f, w, s, st, Po.thn q fun x w1 s1 v H1 e1 st1 r1 p1 => ⟨f, w1, s1, st1, Po.thn p1 fun y w2 s2 u H2 e2 st2 r2 p2 => ?_⟩⟩
  split at p2
  · rename_i i j
    split at p2
    · rename_i hj
      exact ⟨i, j, r1, r2, .of_le hj.1 hj.2.2.2 hj.2.1 hj.2.2.1, st2.newF rg_rep p2⟩
    · exact p2.elim
  · exact p2.elim

/-! ### int of a text -/
def dIntS (d : D) : Option D := match d with
  | .int i => some (.int i)
  | .bl k => some (.int (if k = true then 1 else 0))
  | .str z => if z.length ≤ 640 then (PySem.intText? z).map .int else none
  | _ => none
theorem intS_ok {K : PySem.W.Frag} : B1 K (fun xs H Q => ((∃ i, xs = [V.int i] ∧ Q (V.int i) H) ∨ ∃ k, xs = [V.bl k] ∧ Q (V.int (if k = true then 1 else 0)) H) ∨ ∃ a n, xs = [V.str a] ∧ PySem.intText? a = some n ∧ a.length ≤ 640 ∧ Q (V.int n) H) dIntS := by
  intro f w s σ H d z v Q st rv ez q
  unfold dIntS at ez
  split at ez
  · cases ez
    have hv := rv.rep (fun _ z => nomatch z)
    exact .inl (.inl ⟨_, by rw [show v = _ from hv], q w H _ (Ext.refl w) st rfl⟩)
  · cases ez
    have hv := rv.rep (fun _ z => nomatch z)
    exact .inl (.inr ⟨_, by rw [show v = _ from hv], q w H _ (Ext.refl w) st rfl⟩)
  · split at ez
    · rename_i hz
      obtain ⟨n, en, rfl⟩ := Option.map_eq_some_iff.mp ez
      have hv := rv.rep (fun _ z => nomatch z)
      exact .inr ⟨_, n, by rw [show v = _ from hv], en, hz, q w H _ (Ext.refl w) st rfl⟩
    · cases ez
  · cases ez
theorem q_intS (hg : Gl X "int") (hm : X.mg "int" = none) (ha : PE X e (tL X.K W m)) (he : starEach [e] X.env = (false, eval e X.env) :: starEach [] X.env := by rfl) (hpl : (backTo pos (starEach [] X.env)).any (·.1) = false := by rfl) :
    PE X (.Call (.Name "int" p) [e] [] pos) (tM X.K W (mB1 dIntS m)) := pe_imp (pe_callTy (call_int1.or call_int_str) hg hm (by decide +kernel) (a_lend ha he) (he := he) (hpl := hpl)) (c_1 intS_ok)

/-! ### what is not told -/
theorem q_no : PE X e (tM X.K W fun _ => .no) := ⟨fun pins s σ H Q I ⟨f, w, s', st, q⟩ => q.elim⟩
theorem s_no {st : Stmt} : PS X st (tS X.K W fun _ => .no) := ⟨fun pins s σ H Q I ⟨f, w, s', st, q⟩ => q.elim⟩
end
end Pv
end PvR_

section PvS_
set_option Elab.async false
set_option linter.all false
set_option maxRecDepth 100000
set_option maxHeartbeats 4000000
namespace Pv
open PySem PySem.Spec PyProof.Rows L2

/-! ### defs by name -/
/-- the def x of the module is worth F, where the stack has room for k more -/
structure Has (P : Program) (w : World) (K : PySem.W.Frag) (mg : Str → Option Value) (base : Heap) (x : Str) (n k : Nat) (F : Fn) : Prop where
  ex : ∃ (f : Addr) (fd : FuncData) (ps : List Str), FnOk P w K mg base (L2.CX P w) k f fd ps (spF K F n) ∧ mg x = some (.ref f) ∧ PySem.W.keepIn K (.ref f) = true ∧ Binds K fd ps []
/-- where a def stands -/
structure DefAt (K : PySem.W.Frag) (mg : Str → Option Value) (x : Str) (st : Stmt) (ps : List Str) : Prop where
  ex : ∃ (f : Addr) (fd : FuncData), L2.Fun K x x st f fd ∧ mg x = some (.ref f) ∧ Binds K fd ps []
section
variable {P : Program} {w : World} {K : PySem.W.Frag} {mg : Str → Option Value} {base : Heap} {x : Str} {n k j : Nat} {F G : Fn}
theorem Has.up (h : Has P w K mg base x n j F) (le : j ≤ k) : Has P w K mg base x n k F := by
  obtain ⟨f, fd, ps, h1, h2⟩ := h.ex
  exact ⟨f, fd, ps, h1.mono le, h2⟩
/-- wherever F tells, G tells the same -/
theorem Has.less (h : Has P w K mg base x n k G) (q : ∀ ds b, ds.length = n → F ds b ≠ .no → G ds b = F ds b) : Has P w K mg base x n k F := by
  obtain ⟨f, fd, ps, h1, h2⟩ := h.ex
  refine ⟨f, fd, ps, h1.imp fun vs H Q E ⟨ds, w, b, e1, e2, e3, e4, e5⟩ => ⟨ds, w, b, e1, e2, e3, e4, ?_⟩, h2⟩
  rw [q ds b e1 fun z => by rw [z] at e5; exact e5]
  exact e5
theorem has_of {st : Stmt} {N ps : List Str} (D : DefAt K mg x st ps) (S : FnScope N ps (defScope st)) (hn : ps.length = n)
    (body : ∀ ds b, ds.length = n → G ds b ≠ .no → ∃ ms : MS, (∀ (cdv : Value) (A : Around) (outer : List Env) (s : Shared) (H : Hp) (E : XK) (f : Addr), Bd (cxOf (L2.CX P w) P w K mg base N x (defScope st) f cdv A outer s H E) (fun c d _ H => E c d H) k →
      PSs (cxOf (L2.CX P w) P w K mg base N x (defScope st) f cdv A outer s H E) (defBody st) (tS K (fun c d _ H => E c d H) ms)) ∧ outOf (ms (s0 N ds b)) = G ds b) : Has P w K mg base x n (k + 1) G := by
  obtain ⟨f, fd, h1, h2, h3⟩ := D.ex
  refine ⟨f, fd, ps, def_ok h1 S n hn fun ds b e g => ?_, h2, h1.kp, h3⟩
  obtain ⟨ms, q1, q2⟩ := body ds b e g
  exact ⟨ms, fun cdv A outer s H E B => q1 cdv A outer s H E f B, q2⟩
end
section
variable {X : Cx} {W : WX} {e : Expr} {es : List Expr} {m : M (List D)} {F : Fn} {x : Str} {p pos : Pos} {n k : Nat}
theorem q_callH (h : Has X.prog X.w X.K X.mg X.base x n k F) (hr : Room k X.A) (tk : Takes X W) (hg : Gl X x) (ha : PA X (e :: es) (tA X.K W m)) (hn : ∀ s ds s1, m s = .ok ds s1 → ds.length = n) (hdb : (x == ("__debug__" : Str)) = false := by decide)
    (he : starEach (e :: es) X.env = (false, eval e X.env) :: starEach es X.env := by rfl) (hpl : (backTo pos (starEach es X.env)).any (·.1) = false := by rfl) : PE X (.Call (.Name x p) (e :: es) [] pos) (tM X.K W (mCall F m)) := by
  obtain ⟨f, fd, ps, h1, h2, h3, h4⟩ := h.ex
  exact q_call h1 hr tk hg h2 h3 h4 ha hn hdb he hpl
end
end Pv
end PvS_

section PvT_
set_option Elab.async false
set_option linter.all false
set_option maxRecDepth 100000
set_option maxHeartbeats 4000000
namespace Pv
open PySem PySem.Spec PyProof.Rows L2

/-! ### zip of three -/
def JZ3 (K : PySem.W.Frag) (b1 b2 b3 : Bool) (a1 a2 a3 : Addr) : It :=
  ⟨fun i H => ∃ (xs ys zs : List V) (x y z : V), Sq K b1 H a1 xs ∧ Sq K b2 H a2 ys ∧ Sq K b3 H a3 zs ∧ xs[i]? = some x ∧ ys[i]? = some y ∧ zs[i]? = some z,
    fun i H v H' => ∃ T x y z, v = .ref T ∧ H T = none ∧ H' = upd H T (.tup [x, y, z]) ∧ (∀ xs, Sq K b1 H a1 xs → xs[i]? = some x) ∧ (∀ ys, Sq K b2 H a2 ys → ys[i]? = some y) ∧ ∀ zs, Sq K b3 H a3 zs → zs[i]? = some z,
    fun i H => ∃ xs ys zs : List V, Sq K b1 H a1 xs ∧ Sq K b2 H a2 ys ∧ Sq K b3 H a3 zs ∧ i = min (min xs.length ys.length) zs.length⟩
theorem turn_z3 {P : Program} {w : World} {K : PySem.W.Frag} {elts : List Expr} {kk : Nat} {tpos : Pos} {a1 a2 a3 z TI TO i1 i2 i3 : Addr} (b1 b2 b3 : Bool) (S : ZipSep3 z TI TO i1 i2 i3 [i1, a1] [i2, a2] [i3, a3]) :
    Turn P w K (.Tuple elts kk tpos) (JZ3 K b1 b2 b3 a1 a2 a3) [z, TI, TO, i1, i2, i3] z (fun i h => IsZip h z TI TO .none ∧ IsTupOf3 h TI (.ref i1) (.ref i2) (.ref i3) ∧ (∃ x y u, IsTupOf3 h TO x y u) ∧ HIt b1 h i1 a1 i ∧ HIt b2 h i2 a2 i ∧ HIt b3 h i3 a3 i ∧ a1 ≠ i1 ∧ a2 ≠ i2 ∧ a3 ≠ i3) where
  mem := by simp
  obj := fun i h st c hc => by
    obtain ⟨hz, hTI, ⟨x, y, u, hTO⟩, o1, o2, o3, _⟩ := st
    have six : c = z ∨ c = TI ∨ c = TO ∨ c = i1 ∨ c = i2 ∨ c = i3 := by simpa using hc
    rcases six with q | q | q | q | q | q
    · rw [q]; exact ⟨_, hz, fun v q => nomatch q⟩
    · rw [q]; exact ⟨_, hTI, fun v q => nomatch q⟩
    · rw [q]; exact ⟨_, hTO, fun v q => nomatch q⟩
    · rw [q]; exact o1.obj
    · rw [q]; exact o2.obj
    · rw [q]; exact o3.obj
  keep := fun i h h' st k => by
    obtain ⟨hz, hTI, ⟨x, y, u, hTO⟩, h1, h2, h3, ne⟩ := st
    exact ⟨k z (by simp) _ hz, k TI (by simp) _ hTI, ⟨x, y, u, k TO (by simp) _ hTO⟩, h1.keep fun o q => k i1 (by simp) o q, h2.keep fun o q => k i2 (by simp) o q, h3.keep fun o q => k i3 (by simp) o q, ne⟩
  item := by
    intro X hP hw hK hc i pins s σ H E I hf st hg
    subst hP hw hK
    obtain ⟨hz, hTI, ⟨x0, y0, z0, hTO⟩, h1, h2, h3, n1, n2, n3⟩ := st
    obtain ⟨xs, ys, zs, x, y, t, hqx, hqy, hqz, hx, hy, ht⟩ := hg
    obtain ⟨its, rv, p, _⟩ := inv_sq I hqx
    obtain ⟨its2, rv2, p2, _⟩ := inv_sq I hqy
    obtain ⟨its3, rv3, p3, _⟩ := inv_sq I hqz
    obtain ⟨u, hu, ru⟩ := rv.get hx
    obtain ⟨u2, hu2, ru2⟩ := rv2.get hy
    obtain ⟨u3, hu3, ru3⟩ := rv3.get ht
    have lt1 : i < its.toArray.size := by rw [List.size_toArray]; exact (List.getElem?_eq_some_iff.mp hu).1
    have lt2 : i < its2.toArray.size := by rw [List.size_toArray]; exact (List.getElem?_eq_some_iff.mp hu2).1
    have lt3 : i < its3.toArray.size := by rw [List.size_toArray]; exact (List.getElem?_eq_some_iff.mp hu3).1
    have zl : z < s.heap.objs.size := Heap.lt_size hz
    refine wpAny_pyNext_zipD3_item S (draws b1 (A := X.A.in1) (I.ok.hd hc) i1 a1 n1 its.toArray) (draws b2 (A := X.A.in1) (I.ok.hd hc) i2 a2 n2 its2.toArray) (draws b3 (A := X.A.in1) (I.ok.hd hc) i3 a3 n3 its3.toArray) hz hTI hTO ⟨h1, p⟩ ⟨h2, p2⟩ ⟨h3, p3⟩ lt1 lt2 lt3
      fun v1 v2 v3 h' tk e1 e2 e3 z' TO' s1' s2' s3' hT hsz hk => ?_
    have q1 : v1 = u := by
      have e1' : its.toArray[i]? = some v1 := e1
      rw [List.getElem?_toArray, hu] at e1'
      exact (Option.some.inj e1').symm
    have q2 : v2 = u2 := by
      have e2' : its2.toArray[i]? = some v2 := e2
      rw [List.getElem?_toArray, hu2] at e2'
      exact (Option.some.inj e2').symm
    have q3 : v3 = u3 := by
      have e3' : its3.toArray[i]? = some v3 := e3
      rw [List.getElem?_toArray, hu3] at e3'
      exact (Option.some.inj e3').symm
    subst q1 q2 q3
    refine ⟨_, rfl, wpAny_letOwnedTupleGo_zip (s := { s with heap := h', toks := tk }) z' fun h'' z'' sb => ?_⟩
    have hT2 : h''.get? s.heap.objs.size = some { cls := .type "tuple", data := .seq #[v1, v2, v3] } := (sb.2 _ (Nat.ne_of_gt zl)).trans hT
    have new : ObjOk X.prog X.w (upd H s.heap.objs.size (.tup [x, y, t])) h'' s.heap.objs.size (.tup [x, y, t]) := ⟨by show 3 ≤ sizeLine; decide, [v1, v2, v3], .cons ru (.cons ru2 (.cons ru3 .nil)), ⟨_, hT2, rfl, _, rfl⟩⟩
    have I1 : Inv X pins σ (upd H s.heap.objs.size (.tup [x, y, t])) { s with heap := h'', toks := tk } :=
      I.turnedNew (ch := [z, TI, TO, i1, i2, i3]) (fun c o hb q => (sb.2 c (fun q' => hb (by simp [q']))).trans (hk c o (fun q' => hb (by simp [q'])) (fun q' => hb (by simp [q'])) (fun q' => hb (by simp [q'])) (fun q' => hb (by simp [q'])) (fun q' => hb (by simp [q'])) q)) hf (Nat.le_refl _) new
    refine ⟨.ref s.heap.objs.size, _, I1, rfl, ⟨_, x, y, t, rfl, I.hok.fresh (Nat.le_refl _), rfl, fun l hl => by rw [inv_inj I hl hqx]; exact hx, fun l hl => by rw [inv_inj I hl hqy]; exact hy, fun l hl => by rw [inv_inj I hl hqz]; exact ht⟩, ⟨z'', ?_, ⟨v1, v2, v3, ?_⟩, ?_, ?_, ?_, n1, n2, n3⟩, fun c hcm => ?_⟩
    · exact (sb.2 _ S.TIz).trans (hk _ _ S.TIz S.TITO S.TIi1 S.TIi2 S.TIi3 hTI)
    · exact (sb.2 _ S.TOz).trans TO'
    · exact s1'.1.keep fun o q => (sb.2 _ (Ne.symm S.zi1)).trans q
    · exact s2'.1.keep fun o q => (sb.2 _ (Ne.symm S.zi2)).trans q
    · exact s3'.1.keep fun o q => (sb.2 _ (Ne.symm S.zi3)).trans q
    · have lt : c < s.heap.objs.size := by
        have six : c = z ∨ c = TI ∨ c = TO ∨ c = i1 ∨ c = i2 ∨ c = i3 := by simpa using hcm
        rcases six with q | q | q | q | q | q
        · rw [q]; exact zl
        · rw [q]; exact Heap.lt_size hTI
        · rw [q]; exact Heap.lt_size hTO
        · rw [q]; obtain ⟨_, e1, _⟩ := h1.obj; exact Heap.lt_size e1
        · rw [q]; obtain ⟨_, e2, _⟩ := h2.obj; exact Heap.lt_size e2
        · rw [q]; obtain ⟨_, e3, _⟩ := h3.obj; exact Heap.lt_size e3
      rw [upd_ne (Nat.ne_of_lt lt)]
      exact (hf c hcm).1
  done := by
    intro X hP hw hK hc i pins s σ H E I hf st hg
    subst hP hw hK
    obtain ⟨hz, hTI, ⟨x0, y0, z0, hTO⟩, h1, h2, h3, n1, n2, n3⟩ := st
    obtain ⟨xs, ys, zs, hqx, hqy, hqz, hend⟩ := hg
    obtain ⟨its, rv, p, _⟩ := inv_sq I hqx
    obtain ⟨its2, rv2, p2, _⟩ := inv_sq I hqy
    obtain ⟨its3, rv3, p3, _⟩ := inv_sq I hqz
    have l1 : xs.length = its.toArray.size := by rw [List.size_toArray]; exact rv.length
    have l2 : ys.length = its2.toArray.size := by rw [List.size_toArray]; exact rv2.length
    have l3 : zs.length = its3.toArray.size := by rw [List.size_toArray]; exact rv3.length
    exact wpAny_pyNext_zipD3_end S (draws b1 (A := X.A.in1) (I.ok.hd hc) i1 a1 n1 its.toArray) (draws b2 (A := X.A.in1) (I.ok.hd hc) i2 a2 n2 its2.toArray) (draws b3 (A := X.A.in1) (I.ok.hd hc) i3 a3 n3 its3.toArray) hz hTI hTO ⟨h1, p⟩ ⟨h2, p2⟩ ⟨h3, p3⟩ (by omega) (by omega) (by omega) (by omega) fun h' tk hk =>
      ⟨rfl, I.turnedL (t' := tk) (ch := [z, TI, TO, i1, i2, i3]) (fun c o hb q => hk c o (fun q' => hb (by simp [q'])) (fun q' => hb (by simp [q'])) (fun q' => hb (by simp [q'])) (fun q' => hb (by simp [q'])) (fun q' => hb (by simp [q'])) q) hf⟩
  self := fun A i s Q E st h => wpAny_pyIter_zip st.1 h
def iZ3 (K : PySem.W.Frag) (ta : TA) : TI := fun σ H R => ta σ H fun vs H1 => ∃ a1 a2 a3 b1 b2 b3 xs ys zs, vs = [.ref a1, .ref a2, .ref a3] ∧ Sq K b1 H1 a1 xs ∧ Sq K b2 H1 a2 ys ∧ Sq K b3 H1 a3 zs ∧ R (JZ3 K b1 b2 b3 a1 a2 a3) H1
theorem pi_z3 {X : Cx} {e e2 e3 : Expr} {ta : TA} {p pos tpos : Pos} {elts : List Expr} {kk : Nat} (hg : Gl X "zip") (hm : X.mg "zip" = none) (ha : PA X [e, e2, e3] ta)
    (hs : starEach [e, e2, e3] X.env = (false, eval e X.env) :: starEach [e2, e3] X.env := by rfl) (hpl : (backTo pos (starEach [e2, e3] X.env)).any (·.1) = false := by rfl) :
    PI X (.Tuple elts kk tpos) (.Call (.Name "zip" p) [e, e2, e3] [] pos) (iZ3 X.K ta) := by
  refine ⟨fun pins s σ H R I hyp => ?_⟩
  refine Call_ (ld_blt I hg hm PyProof.Rows.boot_zip (PyProof.Rows.callWith_type1 (thn (ha.run pos pins s σ H _ I hyp) fun us s1 ⟨vs, H1, I1, r1, a1, a2, a3, b1, b2, b3, xs, ys, zs, ex, hqx, hqy, hqz, q⟩ => ?_) hs hpl))
  subst ex
  cases r1 with
  | cons r rr =>
    cases rr with
    | cons r' rr =>
      cases rr with
      | cons r'' rr =>
        cases rr
        cases r
        cases r'
        cases r''
        obtain ⟨its, rv, p1, _⟩ := inv_sq I1 hqx
        obtain ⟨its2, rv2, p2, _⟩ := inv_sq I1 hqy
        obtain ⟨its3, rv3, p3, _⟩ := inv_sq I1 hqz
        have l1 := p1.lt
        have l2 := p2.lt
        have l3 := p3.lt
        refine zip_begins3 (beg b1 a1 its.toArray) (beg b2 a2 its2.toArray) (beg b3 a3 its3.toArray) p1 p2 p3 fun h' hz hTI hTO g1 g2 g3 hsz hk => wpAny_pyIter_zip hz ?_
        have I2 : Inv X pins σ H1 { s1 with heap := h' } := I1.kept (t' := s1.toks) hk
        have sep := zip_sep3 (N := s1.heap.objs.size) (fp1 := [a1]) (fp2 := [a2]) (fp3 := [a3]) (fun c hc => by rw [List.mem_singleton.mp hc]; exact l1) (fun c hc => by rw [List.mem_singleton.mp hc]; exact l2) (fun c hc => by rw [List.mem_singleton.mp hc]; exact l3)
        refine ⟨s1.heap.objs.size + 5, [s1.heap.objs.size + 5, s1.heap.objs.size + 3, s1.heap.objs.size + 4, s1.heap.objs.size, s1.heap.objs.size + 1, s1.heap.objs.size + 2], _, _, H1, rfl, I2, turn_z3 b1 b2 b3 sep,
          ⟨hz, hTI, ⟨_, _, _, hTO⟩, HIt.first g1, HIt.first g2, HIt.first g3, Nat.ne_of_lt l1, Nat.ne_of_lt (Nat.lt_succ_of_lt l2), Nat.ne_of_lt (Nat.lt_succ_of_lt (Nat.lt_succ_of_lt l3))⟩, fun c hcm => ?_, q⟩
        have hle : s1.heap.objs.size ≤ c := by
          have six : c = s1.heap.objs.size + 5 ∨ c = s1.heap.objs.size + 3 ∨ c = s1.heap.objs.size + 4 ∨ c = s1.heap.objs.size ∨ c = s1.heap.objs.size + 1 ∨ c = s1.heap.objs.size + 2 := by simpa using hcm
          rcases six with z | z | z | z | z | z
          · rw [z]; exact Nat.le_add_right _ _
          · rw [z]; exact Nat.le_add_right _ _
          · rw [z]; exact Nat.le_add_right _ _
          · rw [z]; exact Nat.le_refl _
          · rw [z]; exact Nat.le_add_right _ _
          · rw [z]; exact Nat.le_add_right _ _
        exact I1.fpOk hle (I1.hok.fresh hle)
theorem walk_z3 {K : PySem.W.Frag} {b1 b2 b3 : Bool} {a1 a2 a3 : Addr} {xs ys zs : List V} {n : Nat} (hn : n = min (min xs.length ys.length) zs.length) :
    Walk (JZ3 K b1 b2 b3 a1 a2 a3) n (fun H => Sq K b1 H a1 xs ∧ Sq K b2 H a2 ys ∧ Sq K b3 H a3 zs) (fun i H v H' => ∃ T x y z, v = .ref T ∧ H T = none ∧ H' = upd H T (.tup [x, y, z]) ∧ xs[i]? = some x ∧ ys[i]? = some y ∧ zs[i]? = some z) := by
  subst hn
  refine ⟨fun i _ hi q => ?_, fun _ q => ⟨xs, ys, zs, q.1, q.2.1, q.2.2, rfl⟩, fun i H v H' _ q y => ?_⟩
  · have h1 : i < xs.length := by omega
    have h2 : i < ys.length := by omega
    have h3 : i < zs.length := by omega
    exact ⟨xs, ys, zs, xs[i], ys[i], zs[i], q.1, q.2.1, q.2.2, by simp [h1], by simp [h2], by simp [h3]⟩
  · obtain ⟨T, x, y, z, h1, h2, h3, h4, h5, h6⟩ := y
    exact ⟨T, x, y, z, h1, h2, h3, h4 xs q.1, h5 ys q.2.1, h6 zs q.2.2⟩
def z3D : List D → List D → List D → List D
  | x :: xs, y :: ys, z :: zs => .tup [x, y, z] :: z3D xs ys zs
  | _, _, _ => []
theorem z3D_len : ∀ xs ys zs, (z3D xs ys zs).length = min (min xs.length ys.length) zs.length
  | [], _, _ => by simp [z3D]
  | _ :: _, [], _ => by simp [z3D]
  | _ :: _, _ :: _, [] => by simp [z3D]
  | x :: xs, y :: ys, z :: zs => by
    have := z3D_len xs ys zs
    show (z3D xs ys zs).length + 1 = min (min (xs.length + 1) (ys.length + 1)) (zs.length + 1)
    omega
theorem z3D_get : ∀ {xs ys zs : List D} {i : Nat} {d : D}, (z3D xs ys zs)[i]? = some d → ∃ x y z, xs[i]? = some x ∧ ys[i]? = some y ∧ zs[i]? = some z ∧ d = .tup [x, y, z]
  | [], _, _, _, _, h => by simp [z3D] at h
  | _ :: _, [], _, _, _, h => by simp [z3D] at h
  | _ :: _, _ :: _, [], _, _, h => by simp [z3D] at h
  | x :: xs, y :: ys, z :: zs, 0, d, h => ⟨x, y, z, rfl, rfl, rfl, (Option.some.inj h).symm⟩
  | x :: xs, y :: ys, z :: zs, i + 1, d, h => z3D_get (xs := xs) (i := i) h
section
variable {K : PySem.W.Frag} {w : Wd}
theorem wk_z3 {b1 b2 b3 : Bool} {a1 a2 a3 : Addr} {xs ys zs : List D} {vs us ts : List V} (q1 : Sq K b1 w.F a1 vs) (r1 : RepAll K w xs vs) (q2 : Sq K b2 w.F a2 us) (r2 : RepAll K w ys us) (q3 : Sq K b3 w.F a3 ts) (r3 : RepAll K w zs ts) : Wk K w (JZ3 K b1 b2 b3 a1 a2 a3) (z3D xs ys zs) := by
  have wl := walk_z3 (K := K) (b1 := b1) (b2 := b2) (b3 := b3) (a1 := a1) (a2 := a2) (a3 := a3) (xs := vs) (ys := us) (zs := ts) (n := (z3D xs ys zs).length) (by rw [z3D_len, r1.length, r2.length, r3.length])
  refine ⟨_, _, wl, fun H e => ⟨q1.mono e, q2.mono e, q3.mono e⟩, fun i H x H1 d y e => .inr ?_⟩
  obtain ⟨T, y1, y2, y3, h1, h2, h3, h4, h5, h6⟩ := y
  obtain ⟨d1, d2, d3, e1, e2, e3, rfl⟩ := z3D_get e
  obtain ⟨u1, g1, s1⟩ := r1.get e1
  obtain ⟨u2, g2, s2⟩ := r2.get e2
  obtain ⟨u3, g3, s3⟩ := r3.get e3
  rw [g1] at h4
  rw [g2] at h5
  rw [g3] at h6
  cases h4
  cases h5
  cases h6
  exact ⟨T, _, [d1, d2, d3], h1, h2, h3, rfl, RepAll.cons s1 (RepAll.cons s2 (RepAll.one s3))⟩
end
def iZ3M (ma mb mc : M D) : M (List D) := fun s => (ma s).bind fun x s1 => (mb s1).bind fun y s2 => (mc s2).bind fun z s3 => match seqD x, seqD y, seqD z with
  | some (_, xs), some (_, ys), some (_, zs) => .ok (z3D xs ys zs) s3
  | _, _, _ => .no
theorem i_z3 {X : Cx} {W : WX} {a b c : Expr} {p pos tpos : Pos} {elts : List Expr} {kk : Nat} {ma mb mc : M D} (hg : Gl X "zip") (hm : X.mg "zip" = none) (ha : PE X a (tM X.K W ma)) (hb : PE X b (tM X.K W mb)) (hd : PE X c (tM X.K W mc))
    (hs : starEach [a, b, c] X.env = (false, eval a X.env) :: starEach [b, c] X.env := by rfl) (hs2 : starEach [b, c] X.env = (false, eval b X.env) :: starEach [c] X.env := by rfl) (hs3 : starEach [c] X.env = (false, eval c X.env) :: starEach [] X.env := by rfl)
    (hpl : (backTo pos (starEach [b, c] X.env)).any (·.1) = false := by rfl) : PI X (.Tuple elts kk tpos) (.Call (.Name "zip" p) [a, b, c] [] pos) (tI X.K W (iZ3M ma mb mc)) := by
  refine pi_imp (pi_z3 hg hm (pa_cons ha (pa_cons hb (pa_cons hd pa_nil hs3) hs2) hs) hs hpl) fun σ H R ⟨f, w, s, st, q⟩ => ⟨f, w, s, st, Po.thn q fun x w1 s1 v H1 e1 st1 r1 p1 => ⟨f, w1, s1, st1, Po.thn p1 fun y w2 s2 u H2 e2 st2 r2 p2 => ⟨f, w2, s2, st2, Po.thn p2 fun z w3 s3 t H3 e3 st3 r3 p3 => ?_⟩⟩⟩
  cases ex : seqD x with
  | none => rw [ex] at p3; exact p3.elim
  | some bx =>
    cases ey : seqD y with
    | none => rw [ex, ey] at p3; exact p3.elim
    | some by' =>
      cases ez : seqD z with
      | none => rw [ex, ey, ez] at p3; exact p3.elim
      | some bz =>
        obtain ⟨b1, xs⟩ := bx
        obtain ⟨b2, ys⟩ := by'
        obtain ⟨b3, zs⟩ := bz
        rw [ex, ey, ez] at p3
        obtain ⟨a1, vs, rfl, h1, h2⟩ := (Rep.mono (e2.trans e3) r1).sq ex
        obtain ⟨a2, us, rfl, h3, h4⟩ := (Rep.mono e3 r2).sq ey
        obtain ⟨a3, ts, rfl, h5, h6⟩ := r3.sq ez
        exact ⟨a1, a2, a3, b1, b2, b3, vs, us, ts, rfl, h1.mono st3.sub, h3.mono st3.sub, h5.mono st3.sub, p3 w3 H3 _ (Ext.refl _) st3 (wk_z3 h1 h2 h3 h4 h5 h6)⟩
def dIsN (x y : D) : Option Bool := match y with
  | .non => some (isNonD x)
  | _ => none
def dNotN (x y : D) : Option Bool := match y with
  | .non => some (!isNonD x)
  | _ => none
theorem isN_okB {K : PySem.W.Frag} : R2Ok K (fun x y H Q => y = .non ∧ Q (.bl (decide (x = .non))) H) (fun x y => oB (dIsN x y)) := isN_ok.g fun x y => by cases y <;> rfl
theorem notN_okB {K : PySem.W.Frag} : R2Ok K (fun x y H Q => y = .non ∧ Q (.bl (!decide (x = .non))) H) (fun x y => oB (dNotN x y)) := notN_ok.g fun x y => by cases y <;> rfl
theorem q_gintE {X : Cx} {W : WX} {x : Str} {i : Int} {pos : Pos} (hg : Gl X x) (hm : ∃ t, X.mg x = some (.int i t)) (hd : (x == ("__debug__" : Str)) = false := by decide) : PE X (.Name x pos) (tM X.K W (con (.int i))) := by
  obtain ⟨t, h⟩ := hm
  exact q_gint hg h hd
end Pv
end PvT_

section PvU_
set_option Elab.async false
set_option linter.all false
set_option maxRecDepth 100000
set_option maxHeartbeats 4000000
namespace Pv
open PySem PySem.Spec PyProof.Rows L2

/-! ### a def's worth, told over a type of arguments -/
open Classical in
noncomputable def fnOf {α : Type} (enc : α → List D) (res : α → Box → RO) : Fn := fun ds b => if h : ∃ a, enc a = ds then res h.choose b else .no
section
variable {α : Type} {enc : α → List D} {res : α → Box → RO}
theorem fnOf_at (inj : ∀ a a', enc a = enc a' → a = a') (a : α) (b : Box) : fnOf enc res (enc a) b = res a b := by
  have h : ∃ a', enc a' = enc a := ⟨a, rfl⟩
  unfold fnOf
  rw [dif_pos h, inj _ _ h.choose_spec]
theorem fnOf_inv {ds : List D} {b : Box} (h : fnOf enc res ds b ≠ .no) : ∃ a, enc a = ds := by
  unfold fnOf at h
  split at h
  · assumption
  · exact absurd rfl h
theorem has_enc {P : Program} {w : World} {K : PySem.W.Frag} {mg : Str → Option Value} {base : Heap} {x : Str} {n k : Nat} {st : Stmt} {N ps : List Str} (D : DefAt K mg x st ps) (S : FnScope N ps (defScope st)) (hn : ps.length = n) (inj : ∀ a a', enc a = enc a' → a = a')
    (body : ∀ a b, res a b ≠ .no → ∃ ms : MS, (∀ (cdv : Value) (A : Around) (outer : List Env) (s : Shared) (H : Hp) (E : XK) (f : Addr), Bd (cxOf (L2.CX P w) P w K mg base N x (defScope st) f cdv A outer s H E) (fun c d _ H => E c d H) k →
      PSs (cxOf (L2.CX P w) P w K mg base N x (defScope st) f cdv A outer s H E) (defBody st) (tS K (fun c d _ H => E c d H) ms)) ∧ outOf (ms (s0 N (enc a) b)) = res a b) : Has P w K mg base x n (k + 1) (fnOf enc res) := by
  refine has_of D S hn fun ds b e g => ?_
  obtain ⟨a, rfl⟩ := fnOf_inv g
  rw [fnOf_at inj] at g ⊢
  exact body a b g
end

/-! ### comprehensions that draw nothing -/
theorem setE_len {i : Nat} {x : SV} {e : List SV} : (e.set i x).length = e.length := List.length_set
theorem back_same : ∀ {vs : List Nat} {e0 e : List SV}, e.length = e0.length → wipeE vs e = wipeE vs e0 → backE vs e0 e = e0 := by
  intro vs e0 e hl hw
  apply List.ext_getElem?
  intro j
  by_cases lt : j < e.length
  · have e1 : (backE vs e0 e)[j]? = some ((backE vs e0 e)[j]'(by rw [backE_length]; exact lt)) := List.getElem?_eq_getElem _
    rcases backE_get e1 with ⟨h1, h2⟩ | ⟨h1, h2⟩
    · rw [e1, h2, List.getD_eq_getElem?_getD, List.getElem?_eq_getElem (by omega)]
      rfl
    · have a1 : (wipeE vs e)[j]? = some ((wipeE vs e)[j]'(by rw [wipeE_length]; exact lt)) := List.getElem?_eq_getElem _
      have a2 : (wipeE vs e0)[j]? = some ((wipeE vs e)[j]'(by rw [wipeE_length]; exact lt)) := by rw [← hw]; exact a1
      rcases wipeE_get a1 with ⟨c, _⟩ | ⟨_, c1⟩
      · exact absurd c h1
      · rcases wipeE_get a2 with ⟨c, _⟩ | ⟨_, c2⟩
        · exact absurd c h1
        · rw [e1, ← h2, c1, c2]
  · rw [List.getElem?_eq_none (by rw [backE_length]; omega), List.getElem?_eq_none (by omega)]
theorem compL_pure {g : D → S → Option S} {tt : M Bool} {me : M D} {vs : List Nat} {s1 : S} {p : D → Bool} {f : D → D} : ∀ (ds acc : List D) (s : S), wipeS vs s = wipeS vs s1 →
    (∀ d ∈ ds, ∃ s', g d (wipeS vs s1) = some s' ∧ tt s' = .ok (p d) s' ∧ (p d = true → me s' = .ok (f d) s') ∧ wipeS vs s' = wipeS vs s1) → acc.length + ds.length ≤ sizeLine →
    ∃ s2, sCompL g tt me vs ds acc s = .ok (acc ++ (ds.filter p).map f) s2 ∧ wipeS vs s2 = wipeS vs s1
  | [], acc, s, hw, _, _ => ⟨s, by simp [sCompL], hw⟩
  | d :: r, acc, s, hw, h, hl => by
    obtain ⟨s', h1, h2, h3, h4⟩ := h d (by simp)
    rw [List.length_cons] at hl
    have step : sCompL g tt me vs (d :: r) acc s = (match tt s' with
        | .ok false s2 => sCompL g tt me vs r acc s2
        | .ok true s2 => (match me s2 with
          | .ok x s3 => if acc.length < sizeLine then sCompL g tt me vs r (acc ++ [x]) s3 else .no
          | _ => .no)
        | _ => .no) := by
      show (match g d (wipeS vs s) with
        | none => Out.no
        | some s1 => _) = _
      rw [hw, h1]
      try rfl
    rw [step, h2]
    cases hp : p d with
    | false =>
      obtain ⟨s2, q1, q2⟩ := compL_pure r acc s' h4 (fun d hd => h d (by simp [hd])) (by omega)
      exact ⟨s2, by rw [List.filter_cons_of_neg (by rw [hp]; exact Bool.false_ne_true)]; exact q1, q2⟩
    | true =>
      obtain ⟨s2, q1, q2⟩ := compL_pure r (acc ++ [f d]) s' h4 (fun d hd => h d (by simp [hd])) (by rw [List.length_append, List.length_singleton]; omega)
      refine ⟨s2, ?_, q2⟩
      show (match me s' with
          | .ok x s3 => if acc.length < sizeLine then sCompL g tt me vs r (acc ++ [x]) s3 else .no
          | _ => .no) = _
      rw [h3 hp]
      show (if acc.length < sizeLine then sCompL g tt me vs r (acc ++ [f d]) s' else .no) = _
      rw [if_pos (by omega), q1, List.filter_cons_of_pos hp, List.map_cons, List.append_assoc]
      rfl
/-- [f(d) for d in ds if p(d)], where nothing else changes -/
theorem comp_pure {mi : M (List D)} {g : D → S → Option S} {tt : M Bool} {me : M D} {vs : List Nat} {s s1 : S} {ds : List D} (p : D → Bool) (f : D → D) (h1 : mi s = .ok ds s1) (hno : vs.all (fun i => !(getS i s1).own) = true)
    (h : ∀ d ∈ ds, ∃ s', g d (wipeS vs s1) = some s' ∧ tt s' = .ok (p d) s' ∧ (p d = true → me s' = .ok (f d) s') ∧ wipeS vs s' = wipeS vs s1) (hl : ds.length ≤ sizeLine) : mComp mi g tt me vs s = .ok ((ds.filter p).map f) s1 := by
  unfold mComp
  rw [h1]
  show (if vs.all (fun i => !(getS i s1).own) = true then _ else _) = _
  rw [if_pos hno]
  obtain ⟨s2, q1, q2⟩ := compL_pure ds [] s1 rfl h (by simpa using hl)
  rw [q1]
  have eb : s2.box = s1.box := (congrArg S.box q2 : (wipeS vs s2).box = (wipeS vs s1).box)
  have ee : wipeE vs s2.env = wipeE vs s1.env := (congrArg S.env q2 : (wipeS vs s2).env = (wipeS vs s1).env)
  have el : s2.env.length = s1.env.length := by
    have := congrArg List.length ee
    rw [wipeE_length, wipeE_length] at this
    exact this
  show Out.ok ([] ++ (ds.filter p).map f) ({ s2 with env := backE vs s1.env s2.env } : S) = _
  rw [back_same el ee, List.nil_append, eb]
/-- without a test -/
theorem comp_map {mi : M (List D)} {g : D → S → Option S} {me : M D} {vs : List Nat} {s s1 : S} {ds : List D} (f : D → D) (h1 : mi s = .ok ds s1) (hno : vs.all (fun i => !(getS i s1).own) = true)
    (h : ∀ d ∈ ds, ∃ s', g d (wipeS vs s1) = some s' ∧ me s' = .ok (f d) s' ∧ wipeS vs s' = wipeS vs s1) (hl : ds.length ≤ sizeLine) : mComp mi g mYes me vs s = .ok (ds.map f) s1 := by
  have := comp_pure (tt := mYes) (fun _ => true) f h1 hno (fun d hd => by
    obtain ⟨s', q1, q2, q3⟩ := h d hd
    exact ⟨s', q1, rfl, fun _ => q2, q3⟩) hl
  rw [List.filter_eq_self.mpr (fun _ _ => rfl)] at this
  exact this

/-! ### comprehensions whose elements draw: the box goes from one to the next -/
def accum (f : D → Box → D × Box) : List D → Box → List D × Box
  | [], b => ([], b)
  | d :: r, b => ((f d b).1 :: (accum f r (f d b).2).1, (accum f r (f d b).2).2)
theorem accum_len {f : D → Box → D × Box} : ∀ {ds : List D} {b : Box}, (accum f ds b).1.length = ds.length
  | [], _ => rfl
  | d :: r, b => congrArg (· + 1) (accum_len (ds := r))
def withBox (s : S) (b : Box) : S := { s with box := b }
theorem compL_box {g : D → S → Option S} {me : M D} {vs : List Nat} {s1 : S} {f : D → Box → D × Box} : ∀ (ds acc : List D) (s : S), wipeE vs s.env = wipeE vs s1.env →
    (∀ d ∈ ds, ∀ b, ∃ s', g d (withBox (wipeS vs s1) b) = some s' ∧ ∃ s3, me s' = .ok (f d b).1 s3 ∧ s3.box = (f d b).2 ∧ wipeE vs s3.env = wipeE vs s1.env) → acc.length + ds.length ≤ sizeLine →
    ∃ s2, sCompL g mYes me vs ds acc s = .ok (acc ++ (accum f ds s.box).1) s2 ∧ wipeE vs s2.env = wipeE vs s1.env ∧ s2.box = (accum f ds s.box).2
  | [], acc, s, hw, _, _ => ⟨s, by simp [sCompL, accum], hw, rfl⟩
  | d :: r, acc, s, hw, h, hl => by
    obtain ⟨s', h1, s3, h2, h3, h4⟩ := h d (by simp) s.box
    rw [List.length_cons] at hl
    have ew : wipeS vs s = withBox (wipeS vs s1) s.box := by
      show ({ s with env := wipeE vs s.env } : S) = { wipeS vs s1 with box := s.box }
      rw [hw]
      rfl
    have step : sCompL g mYes me vs (d :: r) acc s = (match me s' with
          | .ok x s3 => if acc.length < sizeLine then sCompL g mYes me vs r (acc ++ [x]) s3 else .no
          | _ => .no) := by
      show (match g d (wipeS vs s) with
        | none => Out.no
        | some s1 => _) = _
      rw [ew, h1]
      rfl
    rw [step, h2]
    obtain ⟨s2, q1, q2, q3⟩ := compL_box r (acc ++ [(f d s.box).1]) s3 h4 (fun d hd => h d (by simp [hd])) (by rw [List.length_append, List.length_singleton]; omega)
    rw [h3] at q1 q3
    refine ⟨s2, ?_, q2, q3⟩
    show (if acc.length < sizeLine then sCompL g mYes me vs r (acc ++ [(f d s.box).1]) s3 else .no) = _
    rw [if_pos (by omega), q1, List.append_assoc]
    rfl
theorem comp_box {mi : M (List D)} {g : D → S → Option S} {me : M D} {vs : List Nat} {s s1 : S} {ds : List D} (f : D → Box → D × Box) (h1 : mi s = .ok ds s1) (hno : vs.all (fun i => !(getS i s1).own) = true)
    (h : ∀ d ∈ ds, ∀ b, ∃ s', g d (withBox (wipeS vs s1) b) = some s' ∧ ∃ s3, me s' = .ok (f d b).1 s3 ∧ s3.box = (f d b).2 ∧ wipeE vs s3.env = wipeE vs s1.env) (hl : ds.length ≤ sizeLine) :
    mComp mi g mYes me vs s = .ok (accum f ds s1.box).1 (withBox s1 (accum f ds s1.box).2) := by
  unfold mComp
  rw [h1]
  show (if vs.all (fun i => !(getS i s1).own) = true then _ else _) = _
  rw [if_pos hno]
  obtain ⟨s2, q1, q2, q3⟩ := compL_box ds [] s1 rfl h (by simpa using hl)
  rw [q1]
  have el : s2.env.length = s1.env.length := by
    have := congrArg List.length q2
    rw [wipeE_length, wipeE_length] at this
    exact this
  show Out.ok ([] ++ _) ({ s2 with env := backE vs s1.env s2.env } : S) = _
  rw [back_same el q2, List.nil_append, q3]
  rfl

/-! ### loops -/
theorem for_nil {g : D → S → Option S} {mb : MS} {s : S} : sForL g mb [] s = .nx s := rfl
theorem for_cons {g : D → S → Option S} {mb : MS} {d : D} {r : List D} {s s1 s2 : S} (h1 : g d s = some s1) (h2 : mb s1 = .nx s2) : sForL g mb (d :: r) s = sForL g mb r s2 := by
  show (match g d s with
    | none => SO.no
    | some s1 => match mb s1 with
      | .nx s2 => sForL g mb r s2
      | .ct s2 => sForL g mb r s2
      | .bk s2 => .nx s2
      | o => o) = _
  rw [h1]
  show (match mb s1 with
      | .nx s2 => sForL g mb r s2
      | .ct s2 => sForL g mb r s2
      | .bk s2 => .nx s2
      | o => o) = _
  rw [h2]
theorem for_ct {g : D → S → Option S} {mb : MS} {d : D} {r : List D} {s s1 s2 : S} (h1 : g d s = some s1) (h2 : mb s1 = .ct s2) : sForL g mb (d :: r) s = sForL g mb r s2 := by
  show (match g d s with
    | none => SO.no
    | some s1 => match mb s1 with
      | .nx s2 => sForL g mb r s2
      | .ct s2 => sForL g mb r s2
      | .bk s2 => .nx s2
      | o => o) = _
  rw [h1]
  show (match mb s1 with
      | .nx s2 => sForL g mb r s2
      | .ct s2 => sForL g mb r s2
      | .bk s2 => .nx s2
      | o => o) = _
  rw [h2]
theorem for_bk {g : D → S → Option S} {mb : MS} {d : D} {r : List D} {s s1 s2 : S} (h1 : g d s = some s1) (h2 : mb s1 = .bk s2) : sForL g mb (d :: r) s = .nx s2 := by
  show (match g d s with
    | none => SO.no
    | some s1 => match mb s1 with
      | .nx s2 => sForL g mb r s2
      | .ct s2 => sForL g mb r s2
      | .bk s2 => .nx s2
      | o => o) = _
  rw [h1]
  show (match mb s1 with
      | .nx s2 => sForL g mb r s2
      | .ct s2 => sForL g mb r s2
      | .bk s2 => .nx s2
      | o => o) = _
  rw [h2]
theorem for_rt {g : D → S → Option S} {mb : MS} {d x : D} {r : List D} {s s1 s2 : S} (h1 : g d s = some s1) (h2 : mb s1 = .rt x s2) : sForL g mb (d :: r) s = .rt x s2 := by
  show (match g d s with
    | none => SO.no
    | some s1 => match mb s1 with
      | .nx s2 => sForL g mb r s2
      | .ct s2 => sForL g mb r s2
      | .bk s2 => .nx s2
      | o => o) = _
  rw [h1]
  show (match mb s1 with
      | .nx s2 => sForL g mb r s2
      | .ct s2 => sForL g mb r s2
      | .bk s2 => .nx s2
      | o => o) = _
  rw [h2]
theorem small_line {n : Nat} (h : n ≤ 100000) : n ≤ sizeLine := by rw [PySem.sizeLine_eq]; omega
end Pv
end PvU_

section PvV_
set_option Elab.async false
set_option linter.all false
set_option maxRecDepth 100000
set_option maxHeartbeats 4000000
namespace Pv
open PySem PySem.Spec PyProof.Rows L2

/-! ### [..] or [..] -/
def fOr (ma mb : M (List D)) : M (List D) := fun s => (ma s).bind fun xs s1 => if xs.isEmpty then mb s1 else .ok xs s1
theorem f_or {X : Cx} {W : WX} {a b : Expr} {pos : Pos} {ma mb : M (List D)} (ha : PE X a (tF X.K W ma)) (hb : PE X b (tF X.K W mb)) : PE X (.BoolOp .Or [a, b] pos) (tF X.K W (fOr ma mb)) := by
  refine pe_imp (pe_orT ha (pe_one hb)) fun σ H Q ⟨f, w, s, st, q⟩ => ⟨f, w, s, st, Po.thn q fun xs w1 s1 v H1 e1 st1 r1 p1 => ?_⟩
  obtain ⟨p, vs, rfl, h1, h2, h3⟩ := id r1
  cases xs with
  | nil =>
    have hv : vs = [] := h2
    subst hv
    refine ⟨false, .inl ⟨[], .inl (.inl h1), rfl⟩, ?_⟩
    rw [if_neg Bool.false_ne_true]
    exact ⟨f, w1, s1, st1, p1⟩
  | cons x r =>
    obtain ⟨y, z, rfl, _⟩ := id h2
    refine ⟨true, .inl ⟨_, .inl (.inl h1), rfl⟩, ?_⟩
    rw [if_pos rfl]
    exact p1 w1 H1 _ (Ext.refl _) st1 r1

/-! ### a def whose answer is a new list of three ints: the box -/
def PoR (K : PySem.W.Frag) (f : Fm) (W : WX) (w : Wd) (E : Ends) : Out (List D) → Prop
  | .ok a s' => ∀ w' σ' H' v, Ext w w' → StOk K f w' s' σ' H' → RF K f w' s' σ' H' a v → E.rt v H'
  | .exc e s' => ∀ w' σ' H' c dd, Ext w w' → StOk K f w' s' σ' H' → RepX K w' H' e c dd → W c dd σ' H'
  | .no => False
abbrev tR (K : PySem.W.Frag) (W : WX) (m : M (List D)) : TS := fun E σ H => ∃ f w s, StOk K f w s σ H ∧ PoR K f W w E (m s)
theorem PoR.ext {K : PySem.W.Frag} {f : Fm} {W : WX} {w w' : Wd} {E : Ends} {o : Out (List D)} (h : PoR K f W w E o) (e : Ext w w') : PoR K f W w' E o := by
  cases o with
  | ok a s => exact fun w2 σ2 H2 v e2 => h w2 σ2 H2 v (e.trans e2)
  | exc x s => exact fun w2 σ2 H2 c dd e2 => h w2 σ2 H2 c dd (e.trans e2)
  | no => exact h
def rSeq (ms : MS) (m : M (List D)) : M (List D) := fun s => match ms s with
  | .nx s1 => m s1
  | .exc e s1 => .exc e s1
  | _ => .no
theorem s_retF {X : Cx} {W : WX} {e : Expr} {pos : Pos} {m : M (List D)} (he : PE X e (tF X.K W m)) : PS X (.Return (some e) pos) (tR X.K W m) := ps_imp (ps_ret he) fun E σ H ⟨f, w, s, st, p⟩ => ⟨f, w, s, st, by
  cases em : m s with
  | ok a s1 => rw [em] at p; exact fun w' H' b e1 st1 r => p w' σ H' b e1 st1 r
  | exc y s1 => rw [em] at p; exact fun w' H' c dd e1 st1 r => p w' σ H' c dd e1 st1 r
  | no => rw [em] at p; exact p.elim⟩
theorem r_one {X : Cx} {W : WX} {st : Stmt} {m : M (List D)} (h : PS X st (tR X.K W m)) : PSs X [st] (tR X.K W m) := pss_one h
theorem r_cons {X : Cx} {W : WX} {st : Stmt} {rest : List Stmt} {ms : MS} {m : M (List D)} (h : PS X st (tS X.K W ms)) (g : PSs X rest (tR X.K W m)) : PSs X (st :: rest) (tR X.K W (rSeq ms m)) := by
  refine pss_imp (pss_cons h g) fun E σ H ⟨f, w, s, st, p⟩ => ⟨f, w, s, st, ?_⟩
  unfold rSeq at p
  cases e : ms s with
  | nx s1 => rw [e] at p; exact fun w' σ' H' x st' => ⟨f, w', s1, st', PoR.ext p x⟩
  | exc y s1 => rw [e] at p; exact p
  | rt _ _ => rw [e] at p; exact p.elim
  | bk _ => rw [e] at p; exact p.elim
  | ct _ => rw [e] at p; exact p.elim
  | no => rw [e] at p; exact p.elim
def spB (K : PySem.W.Frag) (F : List D → Option Box) (n : Nat) : Sp := fun vs H Q E => ∃ ds w, ds.length = n ∧ Same w.F H ∧ RepAll K w ds vs ∧ w.bp = none ∧ ∃ b, F ds = some b ∧
  ∀ w' H' p, Ext w w' → w'.bp = none → Same w'.F H' → (∀ a o, H a = some o → H' a = some o) → (∀ a, H a ≠ none → w.F a = none → w'.F a = none) → H' p = some (boxV b) → w'.F p = none → H p = none → Q (.ref p) H'
structure HasB (P : Program) (w : World) (K : PySem.W.Frag) (mg : Str → Option Value) (base : Heap) (x : Str) (n k : Nat) (F : List D → Option Box) : Prop where
  ex : ∃ (f : Addr) (fd : FuncData) (ps : List Str), FnOk P w K mg base (L2.CX P w) k f fd ps (spB K F n) ∧ mg x = some (.ref f) ∧ PySem.W.keepIn K (.ref f) = true ∧ Binds K fd ps []
theorem hasB_of {P : Program} {w : World} {K : PySem.W.Frag} {mg : Str → Option Value} {base : Heap} {x : Str} {n k : Nat} {F : List D → Option Box} {st : Stmt} {N ps : List Str} (D : DefAt K mg x st ps) (S : FnScope N ps (defScope st)) (hn : ps.length = n)
    (body : ∀ ds b, ds.length = n → F ds = some b → ∃ m : M (List Pv.D), (∀ (cdv : Value) (A : Around) (outer : List Env) (s : Shared) (H : Hp) (E : XK) (f : Addr), Bd (cxOf (L2.CX P w) P w K mg base N x (defScope st) f cdv A outer s H E) (fun c d _ H => E c d H) k →
      PSs (cxOf (L2.CX P w) P w K mg base N x (defScope st) f cdv A outer s H E) (defBody st) (tR K (fun c d _ H => E c d H) m)) ∧ ∃ s1, m (s0 N ds (0, 0, 0)) = .ok [.int b.1, .int b.2.1, .int b.2.2] s1) : HasB P w K mg base x n (k + 1) F := by
  obtain ⟨f, fd, h1, h2, h3⟩ := D.ex
  refine ⟨f, fd, ps, h1.okX S (fun vs H Q E ⟨ds, w, e1, _, e3, _⟩ => by rw [e3.length, e1, hn]) fun cdv A outer s H vs Q E hr ⟨ds, w0, e1, e2, e3, e4, b, e5, q⟩ => ?_, h2, h1.kp, h3⟩
  obtain ⟨m, m1, s1, m2⟩ := body ds b e1 e5
  refine ⟨_, m1 cdv A outer s H E f ⟨takes_of rfl rfl rfl rfl, passes_of rfl, hr⟩, _, w0, s0 N ds (0, 0, 0), st0 N e2 e3 (fun p z => by rw [e4] at z; cases z), ?_⟩
  rw [m2]
  intro w' σ' H' v x1 st r
  obtain ⟨p, us, rfl, g1, g2, g3, g4, g5, g6⟩ := r
  have eb : w'.bp = none := (st.bf rfl).trans e4
  have hv : us = [V.int b.1, .int b.2.1, .int b.2.2] := RepAll.ints (ns := [b.1, b.2.1, b.2.2]) g2
  refine q w' H' p x1 eb st.sub (fun a o z => st.fr a o z (by rw [e4]; exact fun z => nomatch z)) (fun a z1 z2 => st.ff a z1 z2) ?_ g3 g5
  rw [g1, hv]
  rfl
/-- the law's first statement: the box is made -/
abbrev tB (K : PySem.W.Frag) (W : WX) (m : MS) : TS := fun E σ H => ∃ f w s, StOk K f w s σ H ∧ f.fx = true ∧ f.b0 = none ∧ PoS K { f with fx := false } W w E (m s)
def sBox (i : Nat) (F : List D → Option Box) (m : M (List D)) : MS := fun s => (m s).toS fun ds s1 => match F ds with
  | some b => .nx { setS i .bx s1 with box := b }
  | none => .no
section
variable {X : Cx} {W : WX} {e : Expr} {es rest : List Expr} {m : M (List D)} {F : List D → Option Box} {x y : Str} {p pos pos' cpos : Pos} {n k i : Nat} {mr : MS} {sts : List Stmt}
theorem StOk.loose {K : PySem.W.Frag} {f : Fm} {w : Wd} {s : S} {σ : L2.St} {H : Hp} (st : StOk K f w s σ H) : StOk K { f with fx := false } w s σ H :=
  ⟨st.sub, st.fr, st.ff, st.f0, st.bb, (fun z => nomatch z), st.len, st.slot, st.bx, st.dist⟩
theorem box_cons (h : HasB X.prog X.w X.K X.mg X.base x n k F) (hr : Room k X.A) (tk : Takes X W) (hg : Gl X x) (ha : PA X (e :: es) (tA X.K W m)) (hn : ∀ s ds s1, m s = .ok ds s1 → ds.length = n) (hN : X.N.Nodup) (hi : X.N[i]? = some y) (hx : Loc X.env.scope y) (hrest : PSs X sts (tS X.K W mr))
    (hs : swapsWith (.Call (.Name x p) (e :: es) [] cpos) (some (.Name y pos')) pos.line X.env = pure false := by rfl) (hdb : (x == ("__debug__" : Str)) = false := by decide)
    (hf : X.fn y = true ∨ X.env.scope.names.lookup y = some .local := by first | exact .inl rfl | exact .inr rfl | assumption)
    (he : starEach (e :: es) X.env = (false, eval e X.env) :: starEach es X.env := by rfl) (hpl : (backTo cpos (starEach es X.env)).any (·.1) = false := by rfl) :
    PSs X (.Assign [.Name y pos'] (.Call (.Name x p) (e :: es) [] cpos) pos :: sts) (tB X.K W (sSeq (sBox i F m) mr)) := by
  obtain ⟨f0, fd, ps, h1, h2, h3, h4⟩ := h.ex
  refine pss_imp (pss_cons (ps_set hN hi hx (pe_callS (E := WE W) h1 hr hg h2 h3 h4 (passAt tk) ha hdb he hpl) hs hf) hrest) fun E σ H ⟨f, w, s, st, fx, b0, p⟩ => ⟨f, w, s, st, ?_⟩
  have p1 : PoS X.K { f with fx := false } W w E ((sBox i F m s).bind mr) := p
  unfold sBox at p1
  cases em : m s with
  | no => rw [em] at p1; exact p1.elim
  | exc z s1 =>
    rw [em] at p1
    exact fun w' H' c dd e1 st1 r => p1 w' σ H' c dd e1 st1.loose r
  | ok ds s1 =>
    rw [em] at p1
    intro w1 H1 vs x1 st1 r1
    have p2 : PoS X.K { f with fx := false } W w E (SO.bind (match F ds with | some b => .nx { setS i .bx s1 with box := b } | none => .no) mr) := p1
    cases eF : F ds with
    | none => rw [eF] at p2; exact p2.elim
    | some b =>
      rw [eF] at p2
      have wb : w1.bp = none := (st1.bf fx).trans b0
      refine ⟨ds, w1, hn _ _ _ em, st1.sub, r1, wb, b, eF, fun w' H' q x2 wb' sub fr ff hq hF hq1 => ?_⟩
      have fresh : f.H0 q = none := st1.fresh0 hq1
      have okk : StOk X.K { f with fx := false } ⟨w'.F, some q⟩ { setS i .bx s1 with box := b } (σ.set i (some (.ref q))) H' := by
        have x3 : Ext w1 ⟨w'.F, some q⟩ := ⟨x2.same, fun p z => by rw [wb] at z; cases z⟩
        refine ⟨sub, fun a o z n => fr a o (st1.fr a o z n), fun a z1 z2 => ?_, st1.f0.trans x2.same, (fun p z => by rw [show f.b0 = none from b0] at z; cases z), (fun z => nomatch z), by simpa [setS] using st1.len, fun j u g => ?_, fun p z => ?_, fun j l u v r nn g1 g2 o1 o2 e7 => ?_⟩
        · refine ff a ?_ (st1.ff a z1 z2)
          cases z3 : f.H0 a with
          | none => exact absurd z3 z1
          | some o =>
            rw [st1.fr a o z3 (by rw [b0]; exact fun z => nomatch z)]
            exact fun z => nomatch z
        · rcases getElem?_set_cases g with ⟨rfl, rfl⟩ | ⟨nj, g⟩
          · have hi : i < σ.length := by
              have := lt_of_get (s := setS i .bx s1) g
              rw [← st1.len]
              simpa [setS] using this
            refine ⟨q, ?_, rfl⟩
            rw [List.getElem?_set_self hi]
            rfl
          · rw [List.getElem?_set_ne nj]
            refine (st1.slot j u g).ext x3 fun r o e1 => ?_
            obtain ⟨r', g2, g3, g4, g5, g6⟩ := (st1.slot j u g).at o
            rw [e1] at g2
            cases g2
            refine ⟨?_, ff r g3 g4, fun z => ?_⟩
            · cases z : H1 r with
              | none => exact absurd z g3
              | some o => exact fr r o z
            · cases z
              exact g3 hq1
        · cases z
          exact ⟨hq, hF, .inr fresh⟩
        · rcases getElem?_set_cases g1 with ⟨rfl, rfl⟩ | ⟨n1, g1⟩
          · cases o1
          · rcases getElem?_set_cases g2 with ⟨rfl, rfl⟩ | ⟨n2, g2⟩
            · cases o2
            · rw [List.getElem?_set_ne n1] at e7
              rw [List.getElem?_set_ne n2]
              exact st1.dist j l u v r nn g1 g2 o1 o2 e7
      exact ⟨_, _, _, okk, PoS.ext p2 ⟨(x1.trans x2).same, fun p z => by have := x1.bp p z; rw [wb] at this; cases this⟩⟩
end
end Pv
end PvV_

section PvW_
set_option Elab.async false
set_option linter.all false
set_option maxRecDepth 100000
set_option maxHeartbeats 4000000
namespace Pv
open PySem PySem.Spec PyProof.Rows L2
/-! ### the semantics step by step -/
section
variable {s s1 s2 : S} {m m' : M D} {ml : M (List D)} {ds xs : List D} {d x y z : D} {b' : Box} {F : Fn} {a c : MS} {tc : M Bool} {i n : Nat} {e : Exn}
theorem call_at (h : ml s = .ok ds s1) (hF : F ds s1.box = .ok d b') : mCall F ml s = .ok d (withBox s1 b') := by
  unfold mCall
  rw [h]
  show ofRO (F ds s1.box) s1 = _
  rw [hF]
  rfl
/-- a call that leaves the box alone -/
theorem call_same (h : ml s = .ok ds s1) (hF : F ds s1.box = .ok d s1.box) : mCall F ml s = .ok d s1 := call_at h hF
theorem seq_nx (h : a s = .nx s1) : sSeq a c s = c s1 := by unfold sSeq; rw [h]; rfl
theorem seq_rt (h : a s = .rt x s1) : sSeq a c s = .rt x s1 := by unfold sSeq; rw [h]; rfl
theorem set_at (h : m s = .ok x s1) : sSet i m s = .nx (setS i (.d x) s1) := by unfold sSet; rw [h]; rfl
theorem setF_at (h : ml s = .ok xs s1) : sSetF i ml s = .nx (setS i (.o xs) s1) := by unfold sSetF; rw [h]; rfl
theorem if_t (h : tc s = .ok true s1) : sIf tc a c s = a s1 := by unfold sIf; rw [h]; rfl
theorem if_f (h : tc s = .ok false s1) : sIf tc a c s = c s1 := by unfold sIf; rw [h]; rfl
theorem ret_at (h : m s = .ok x s1) : sRet m s = .rt x s1 := by unfold sRet; rw [h]; rfl
theorem drop_at (h : m s = .ok x s1) : sDrop m s = .nx s1 := by unfold sDrop; rw [h]; rfl
theorem asg_at {g : D → S → Option S} (h : m s = .ok x s1) (hg : g x s1 = some s2) : sAsg g m s = .nx s2 := by
  unfold sAsg
  rw [h]
  show (match g x s1 with
    | some s2 => SO.nx s2
    | none => .no) = _
  rw [hg]
theorem while_go {mb : MS} (h1 : tc s = .ok true s1) (h2 : mb s1 = .nx s2) : sWhile tc mb (n + 1) s = sWhile tc mb n s2 := by
  show ((tc s).toS fun k s1 => if k then (match mb s1 with
      | .nx s2 => sWhile tc mb n s2
      | .ct s2 => sWhile tc mb n s2
      | .bk s2 => .nx s2
      | o => o) else .nx s1) = _
  rw [h1]
  show (if true = true then (match mb s1 with
      | .nx s2 => sWhile tc mb n s2
      | .ct s2 => sWhile tc mb n s2
      | .bk s2 => .nx s2
      | o => o) else .nx s1) = _
  rw [if_pos rfl, h2]
theorem while_end {mb : MS} (h1 : tc s = .ok false s1) : sWhile tc mb (n + 1) s = .nx s1 := by
  show ((tc s).toS fun k s1 => if k then (match mb s1 with
      | .nx s2 => sWhile tc mb n s2
      | .ct s2 => sWhile tc mb n s2
      | .bk s2 => .nx s2
      | o => o) else .nx s1) = _
  rw [h1]
  rfl
theorem for_at {mi : M (List D)} {g : D → S → Option S} {mb : MS} (h : mi s = .ok ds s1) : sFor mi g mb s = sForL g mb ds s1 := by unfold sFor; rw [h]; rfl
theorem lnew_at (h : ml s = .ok xs s1) (hl : xs.length ≤ 100000) : lNew ml s = .ok xs s1 := by
  unfold lNew
  rw [h]
  show (if xs.length ≤ sizeLine then _ else _) = _
  rw [if_pos (small_line hl)]
theorem tup_at (h : ml s = .ok xs s1) (hl : xs.length ≤ 100000) : mTup ml s = .ok (.tup xs) s1 := by
  unfold mTup
  rw [h]
  show (if xs.length ≤ sizeLine then _ else _) = _
  rw [if_pos (small_line hl)]
theorem fz_at (h : ml s = .ok xs s1) : fz ml s = .ok (.lst xs) s1 := by unfold fz; rw [h]; rfl
theorem lst_at (h : ml s = .ok xs s1) : mLst ml s = .ok (.lst xs) s1 := by unfold mLst; rw [h]; rfl
theorem cons_at (h1 : m s = .ok x s1) (h2 : ml s1 = .ok xs s2) : aCons m ml s = .ok (x :: xs) s2 := by
  unfold aCons
  rw [h1]
  show (ml s1).bind _ = _
  rw [h2]
  rfl
theorem b1_at {g : D → Option D} (h : m s = .ok x s1) (hg : g x = some y) : mB1 g m s = .ok y s1 := by
  unfold mB1
  rw [h]
  show ofO (g x) s1 = _
  rw [hg]
  rfl
theorem b1F_at {g : D → Option (List D)} (h : m s = .ok x s1) (hg : g x = some xs) : mB1F g m s = .ok xs s1 := by
  unfold mB1F
  rw [h]
  show ofO (g x) s1 = _
  rw [hg]
  rfl
theorem m2_at {g : D → D → Option D} (h1 : m s = .ok x s1) (h2 : m' s1 = .ok y s2) (hg : g x y = some z) : m2 g m m' s = .ok z s2 := by
  unfold m2
  rw [h1]
  show (m' s1).bind _ = _
  rw [h2]
  show ofO (g x y) s2 = _
  rw [hg]
  rfl
theorem m2b_at {g : D → D → Option Bool} {k : Bool} (h1 : m s = .ok x s1) (h2 : m' s1 = .ok y s2) (hg : g x y = some k) : m2b g m m' s = .ok k s2 := by
  unfold m2b
  rw [h1]
  show (m' s1).bind _ = _
  rw [h2]
  show ofO (g x y) s2 = _
  rw [hg]
  rfl
theorem ix_at (h1 : m s = .ok x s1) (h2 : m' s1 = .ok y s2) (hg : dIx x y s2 = some z) : mIx m m' s = .ok z s2 := by
  unfold mIx
  rw [h1]
  show (m' s1).bind _ = _
  rw [h2]
  show ofO (dIx x y s2) s2 = _
  rw [hg]
  rfl
theorem ixN_at {w : D} (h0 : look i s = some w) (h1 : m s = .ok y s1) (h2 : look i s1 = some x) (hg : dIx x y s1 = some z) : mIxN i m s = .ok z s1 := by
  unfold mIxN
  rw [h0]
  show (m s).bind _ = _
  rw [h1]
  show (match look i s1 with
    | none => Out.no
    | some x => ofO (dIx x y s1) s1) = _
  rw [h2]
  show ofO (dIx x y s1) s1 = _
  rw [hg]
  rfl
theorem pop_at (l : List D) (h : getS i s = .o (l ++ [x])) : mPop i s = .ok x (setS i (.o l) s) := by
  unfold mPop
  rw [h]
  show popO i (l ++ [x]) s = _
  unfold popO
  have e : (l ++ [x])[(l ++ [x]).length - 1]? = some x := by simp
  rw [e]
  simp
theorem app_at {l l' : List D} (h0 : getS i s = .o l') (h1 : m s = .ok x s1) (h : getS i s1 = .o l) (hl : l.length < 100000) : mApp i m s = .ok .non (setS i (.o (l ++ [x])) s1) := by
  unfold mApp
  rw [h0]
  show (m s).bind _ = _
  rw [h1]
  show (match getS i s1 with
    | .o xs => if xs.length < sizeLine then Out.ok D.non (setS i (.o (xs ++ [x])) s1) else .no
    | _ => .no) = _
  rw [h]
  show (if l.length < sizeLine then Out.ok D.non (setS i (.o (l ++ [x])) s1) else .no) = _
  rw [if_pos (by have := PySem.sizeLine_eq; omega)]
theorem ext_at {l l' ys : List D} (h0 : getS i s = .o l') (h1 : m s = .ok (.lst ys) s1) (h : getS i s1 = .o l) (hl : l.length + ys.length ≤ 100000) : mExt i m s = .ok .non (setS i (.o (l ++ ys)) s1) := by
  unfold mExt
  rw [h0]
  show (m s).bind _ = _
  rw [h1]
  show (match (D.lst ys), getS i s1 with
    | .lst ys, .o xs => if xs.length + ys.length ≤ sizeLine then Out.ok D.non (setS i (.o (xs ++ ys)) s1) else .no
    | _, _ => .no) = _
  rw [h]
  show (if l.length + ys.length ≤ sizeLine then Out.ok D.non (setS i (.o (l ++ ys)) s1) else .no) = _
  rw [if_pos (small_line hl)]
theorem dEq_nil {l : List D} (h : okDs l = true) (g : depthDs l ≤ 63) : dEq (.lst l) (.lst []) = some l.isEmpty := by
  have c1 : (okD (.lst l) && okD (.lst [])) = true := by
    show (okDs l && true) = true
    rw [h]
    rfl
  have c2 : depthD (.lst l) ≤ 64 := by
    show depthDs l + 1 ≤ 64
    omega
  have c3 : depthD (.lst []) ≤ 64 := by
    show 0 + 1 ≤ 64
    omega
  show (if (okD (.lst l) && okD (.lst [])) = true ∧ depthD (.lst l) ≤ 64 ∧ depthD (.lst []) ≤ 64 then some (eqD (.lst l) (.lst [])) else none) = _
  rw [if_pos ⟨c1, c2, c3⟩]
  cases l <;> rfl
theorem nil_new : fz (lNew aNil) s = .ok (.lst []) s := fz_at (lnew_at rfl (Nat.zero_le _))
theorem ne_nil_at {l : List D} (h0 : look i s = some (.lst l)) (h : okDs l = true) (g : depthDs l ≤ 63) : m2N (fun x y => (dEq x y).map (!·)) i (fz (lNew aNil)) s = .ok (!l.isEmpty) s := by
  unfold m2N
  rw [h0]
  show (fz (lNew aNil) s).bind _ = _
  rw [nil_new]
  show (match look i s with
    | none => Out.no
    | some x => ofO ((dEq x (.lst [])).map (!·)) s) = _
  rw [h0]
  show ofO ((dEq (.lst l) (.lst [])).map (!·)) s = _
  rw [dEq_nil h g]
  rfl
theorem eq_nil_at {l : List D} (h0 : look i s = some (.lst l)) (h : okDs l = true) (g : depthDs l ≤ 63) : m2N dEq i (fz (lNew aNil)) s = .ok l.isEmpty s := by
  unfold m2N
  rw [h0]
  show (fz (lNew aNil) s).bind _ = _
  rw [nil_new]
  show (match look i s with
    | none => Out.no
    | some x => ofO (dEq x (.lst [])) s) = _
  rw [h0]
  show ofO (dEq (.lst l) (.lst [])) s = _
  rw [dEq_nil h g]
  rfl
theorem and_t {tb : M Bool} (h : tc s = .ok true s1) : tAndM tc tb s = tb s1 := by unfold tAndM; rw [h]; rfl
theorem and_f {tb : M Bool} (h : tc s = .ok false s1) : tAndM tc tb s = .ok false s1 := by unfold tAndM; rw [h]; rfl
theorem or_t {tb : M Bool} (h : tc s = .ok true s1) : tOrM tc tb s = .ok true s1 := by unfold tOrM; rw [h]; rfl
theorem or_f {tb : M Bool} (h : tc s = .ok false s1) : tOrM tc tb s = tb s1 := by unfold tOrM; rw [h]; rfl
theorem not_at {k : Bool} (h : tc s = .ok k s1) : tNotM tc s = .ok (!k) s1 := by unfold tNotM; rw [h]; rfl
theorem mT_at {k : Bool} (h : m s = .ok (.bl k) s1) : mT m s = .ok k s1 := by unfold mT; rw [h]; rfl
theorem mB_at {k : Bool} (h : tc s = .ok k s1) : mB tc s = .ok (.bl k) s1 := by unfold mB; rw [h]; rfl
theorem mIf_t (h : tc s = .ok true s1) : mIf tc m m' s = m s1 := by unfold mIf; rw [h]; rfl
theorem mIf_f (h : tc s = .ok false s1) : mIf tc m m' s = m' s1 := by unfold mIf; rw [h]; rfl
theorem mAnd_t (h : m s = .ok (.bl true) s1) : mAnd m m' s = m' s1 := by unfold mAnd; rw [h]; rfl
theorem mAnd_f (h : m s = .ok (.bl false) s1) : mAnd m m' s = .ok (.bl false) s1 := by unfold mAnd; rw [h]; rfl
theorem mOr_t (h : m s = .ok (.bl true) s1) : mOr m m' s = .ok (.bl true) s1 := by unfold mOr; rw [h]; rfl
theorem mOr_f (h : m s = .ok (.bl false) s1) : mOr m m' s = m' s1 := by unfold mOr; rw [h]; rfl
theorem m1_at {g : D → Option D} (h : m s = .ok x s1) (hg : g x = some y) : m1 g m s = .ok y s1 := by
  unfold m1
  rw [h]
  show ofO (g x) s1 = _
  rw [hg]
  rfl
theorem m3b_at {g h : D → D → Option Bool} {mc : M D} {s3 : S} {k : Bool} (h1 : m s = .ok x s1) (h2 : m' s1 = .ok y s2) (hg : g x y = some true) (h3 : mc s2 = .ok z s3) (hh : h y z = some k) : m3b g h m m' mc s = .ok k s3 := by
  unfold m3b
  rw [h1]
  show (m' s1).bind _ = _
  rw [h2]
  show (ofO (g x y) s2).bind _ = _
  rw [hg]
  show (mc s2).bind _ = _
  rw [h3]
  show ofO (h y z) s3 = _
  rw [hh]
  rfl
theorem parV_at {j : Nat} {ma mb : M SV} {u v : SV} (h1 : ma s = .ok u s1) (h2 : mb s1 = .ok v s2) : sParV i j ma mb s = .nx (setS j v (setS i u s2)) := by
  unfold sParV
  rw [h1]
  show (mb s1).toS _ = _
  rw [h2]
  rfl
theorem par3V_at {j l : Nat} {ma mb mc : M SV} {u v w : SV} {s3 : S} (h1 : ma s = .ok u s1) (h2 : mb s1 = .ok v s2) (h3 : mc s2 = .ok w s3) : sPar3V i j l ma mb mc s = .nx (setS l w (setS j v (setS i u s3))) := by
  unfold sPar3V
  rw [h1]
  show (mb s1).toS _ = _
  rw [h2]
  show (mc s2).toS _ = _
  rw [h3]
  rfl
theorem val_at (h : m s = .ok x s1) : mVal m s = .ok (.d x) s1 := by unfold mVal; rw [h]; rfl
theorem new_at (h : ml s = .ok xs s1) : mNew ml s = .ok (.o xs) s1 := by unfold mNew; rw [h]; rfl
theorem seq_it {xs : List D} (h : m s = .ok (.lst xs) s1) : iSeq m s = .ok xs s1 := by unfold iSeq; rw [h]; rfl
theorem seq_it' {xs : List D} (h : m s = .ok (.tup xs) s1) : iSeq m s = .ok xs s1 := by unfold iSeq; rw [h]; rfl
theorem en_it {q : Bool × List D} (h : m s = .ok x s1) (hs : seqD x = some q) : iEnM m s = .ok (enD 0 q.2) s1 := by
  unfold iEnM
  rw [h]
  show (match seqD x with
    | some (_, xs) => Out.ok (enD 0 xs) s1
    | none => .no) = _
  rw [hs]
theorem zp_it {q r : Bool × List D} (h1 : m s = .ok x s1) (h2 : m' s1 = .ok y s2) (hs : seqD x = some q) (hr : seqD y = some r) : iZpM m m' s = .ok (zpD q.2 r.2) s2 := by
  unfold iZpM
  rw [h1]
  show (m' s1).bind _ = _
  rw [h2]
  show (match seqD x, seqD y with
    | some (_, xs), some (_, ys) => Out.ok (zpD xs ys) s2
    | _, _ => .no) = _
  rw [hs, hr]
theorem putIx_at {mi me : M D} {so : SO} {w : D} (h1 : me s = .ok x s1) (h0 : look i s1 = some w) (h2 : mi s1 = .ok y s2) (h3 : putIx i y x s2 = so) : sPutIx i mi me s = so := by
  unfold sPutIx
  rw [h1]
  show (match look i s1 with
    | none => SO.no
    | some _ => (mi s1).toS fun y s2 => putIx i y x s2) = _
  rw [h0]
  show (mi s1).toS _ = _
  rw [h2]
  exact h3
theorem rg1_at {j : Int} (h : m s = .ok (.int j) s1) (h0 : 0 ≤ j) (h1 : j ≤ 16777216) : mRg1 m s = .ok (rgD 0 j.toNat) s1 := by
  unfold mRg1
  rw [h]
  show (if 0 ≤ j ∧ j ≤ 16777216 then _ else _) = _
  rw [if_pos ⟨h0, h1⟩]
end
end Pv
end PvW_

section PvX_
set_option Elab.async false
set_option linter.all false
set_option maxRecDepth 100000
set_option maxHeartbeats 4000000
namespace Pv
open PySem PySem.Spec PyProof.Rows L2

/-! ### an own class of exceptions under ValueError, without a text -/
structure ClsE (K : PySem.W.Frag) (mg : Str → Option Value) (x : Str) (C : Addr) : Prop where
  mg : mg x = some (.ref C)
  keep : PySem.W.keepIn K (.ref C) = true
  exc : PySem.W.excIn K C [.type "ValueError", .type "Exception", .type "BaseException", .type "object"] "ValueError.__new__" = true
  sub : PySem.W.subIn K (.ref C) (.type "BaseException") = some true
  ty : PySem.W.typeIn K (.ref C) = some (.type "type")
def sRaise (e : Exn) : MS := fun s => .exc e s
section
variable {X : Cx} {W : WX}
theorem pmk_own0 {C : Addr} {x : Str} {p pos : Pos} (F : ClsE X.K X.mg x C) (hg : Gl X x) (hdb : (x == ("__debug__" : Str)) = false := by decide) : PMk X (.Call (.Name x p) [] [] pos) (fun _ H Q => Q (.ref C) none H) := by
  intro pins s σ H Q I h
  refine wpAny_Call_Name_kw (ld_glob I hg F.mg ?_ hdb)
  refine PySem.W.callWith_K0 I.kIn F.keep ?_
  show wpAny _ _ (call (.ref C) []) _ _ _
  obtain ⟨bm, N, nm, qn, bs, hdct, sn, sub, ab, col, dd, k0, k1, k2, k3, k5, mN, hC, hN, hni, T⟩ := exc_obj I.kIn F.exc
  refine wpAny_call_exc_subT PySem.F.excBase_ValueError T hC hN hni (fun h' e hm => ?_) (by show 0 ≤ sizeLine; omega)
  exact mk_of I hm (raises_own F.sub F.ty) h (I.hok.gone hm.new)
theorem s_raise0 {C : Addr} {x : Str} {p pos pos' : Pos} (hc : X.calm = true) (tk : Takes X W) (F : ClsE X.K X.mg x C) (hg : Gl X x) (hdb : (x == ("__debug__" : Str)) = false := by decide) :
    PS X (.Raise (some (.Call (.Name x p) [] [] pos)) none pos') (tS X.K W (sRaise (.pl (.ref C)))) := by
  refine ps_imp (ps_raise hc tk (pmk_own0 F hg hdb)) fun E σ H ⟨f, w, s, st, q⟩ => ?_
  exact q w σ H (.ref C) none (Ext.refl _) st ⟨rfl, rfl⟩
end

/-! ### a call of a local name that holds a def -/
structure HasA (P : Program) (w : World) (K : PySem.W.Frag) (mg : Str → Option Value) (base : Heap) (a : Addr) (n k : Nat) (F : Fn) : Prop where
  ex : ∃ (fd : FuncData) (ps : List Str), FnOk P w K mg base (L2.CX P w) k a fd ps (spF K F n) ∧ PySem.W.keepIn K (.ref a) = true ∧ Binds K fd ps []
theorem Has.at {P : Program} {w : World} {K : PySem.W.Frag} {mg : Str → Option Value} {base : Heap} {x : Str} {n k : Nat} {F : Fn} {a : Addr} (h : Has P w K mg base x n k F) (e : mg x = some (.ref a)) : HasA P w K mg base a n k F := by
  obtain ⟨f, fd, ps, h1, h2, h3, h4⟩ := h.ex
  rw [e] at h2
  cases h2
  exact ⟨fd, ps, h1, h3, h4⟩
abbrev Doors := Addr → Option (Nat × Fn)
def mCallL (T : Doors) (i n : Nat) (m : M (List D)) : M D := fun s => match look i s with
  | some (.fn a) => (match T a with
    | some (n', F) => if n' = n then mCall F m s else .no
    | none => .no)
  | _ => .no
section
variable {X : Cx} {W : WX} {e : Expr} {es : List Expr} {m : M (List D)} {x : Str} {p pos : Pos} {k n i : Nat} {T : Doors}
theorem pe_callLS {sp : Sp} {E : L2.St → XK} {f : Addr} {fd : FuncData} {ps : List Str} {t : TA} (F : FnOk X.prog X.w X.K X.mg X.base (L2.CX X.prog X.w) k f fd ps sp) (hr : Room k X.A) (hN : X.N[i]? = some x) (hv : Vis X.env.scope x) (hk : PySem.W.keepIn X.K (.ref f) = true) (hb : Binds X.K fd ps []) (hx : ∀ σ, PassesAt (L2.CX X.prog X.w) X σ (E σ)) (ha : PA X (e :: es) t)
    (hdb : (x == ("__debug__" : Str)) = false) (hcd : (x == ("__classdict__" : Str)) = false)
    (he : starEach (e :: es) X.env = (false, eval e X.env) :: starEach es X.env) (hpl : (backTo pos (starEach es X.env)).any (·.1) = false) : PE X (.Call (.Name x p) (e :: es) [] pos) (fun σ H Q => σ[i]? = some (some (.ref f)) ∧ t σ H fun vs H1 => sp vs H1 Q (E σ)) := by
  refine ⟨fun pins s σ H Q I h => ?_⟩
  obtain ⟨hs, ht⟩ := h
  refine wpAny_Call_Name_kw (thn ((pe_var (pos := p) hN hv hdb hcd).run pins s σ H (fun v H1 => v = .ref f ∧ H1 = H) I ⟨.ref f, hs, rfl, rfl⟩) fun u s1 ⟨v, H1, I1, r1, q1⟩ => ?_)
  obtain ⟨rfl, rfl⟩ := q1
  cases r1
  refine PySem.W.callWith_K (h₀ := X.base) I.ok.mod.kin hk (thn (ha.run pos pins s1 σ _ _ I1 ht) fun us s2 ⟨vs, H2, I2, r, q⟩ => ⟨I2.kIn, ?_⟩) he hpl
  exact run_fnS F hr hb (hx σ) I2 r q
theorem q_callL (i : Nat) (hT : ∀ a n F, T a = some (n, F) → HasA X.prog X.w X.K X.mg X.base a n k F) (hr : Room k X.A) (tk : Takes X W) (ha : PA X (e :: es) (tA X.K W m)) (hn : ∀ s ds s1, m s = .ok ds s1 → ds.length = n)
    (hN : X.N[i]? = some x := by rfl) (hv : Vis X.env.scope x := by first | exact Or.inl rfl | exact Or.inr (Or.inl rfl) | exact Or.inr (Or.inr rfl)) (hdb : (x == ("__debug__" : Str)) = false := by decide) (hcd : (x == ("__classdict__" : Str)) = false := by decide)
    (he : starEach (e :: es) X.env = (false, eval e X.env) :: starEach es X.env := by rfl) (hpl : (backTo pos (starEach es X.env)).any (·.1) = false := by rfl) : PE X (.Call (.Name x p) (e :: es) [] pos) (tM X.K W (mCallL T i n m)) := by
  refine ⟨fun pins s σ H Q I ⟨f, w, s', st, q⟩ => ?_⟩
  unfold mCallL at q
  cases el : look i s' with
  | none => rw [el] at q; exact q.elim
  | some d =>
    rw [el] at q
    cases d with
    | fn a =>
      have q' : Po X.K f W (RD X.K) w σ Q (match T a with
        | some (n', F) => if n' = n then mCall F m s' else .no
        | none => .no) := q
      cases eT : T a with
      | none => rw [eT] at q'; exact q'.elim
      | some nF =>
        obtain ⟨n', F⟩ := nF
        rw [eT] at q'
        have q2 : Po X.K f W (RD X.K) w σ Q (if n' = n then mCall F m s' else .no) := q'
        by_cases en : n' = n
        · subst en
          rw [if_pos rfl] at q2
          obtain ⟨fd, ps, h1, h2, h3⟩ := (hT a n' F eT).ex
          obtain ⟨u, u1, u2⟩ := st.look el
          have eu : u = .ref a := by
            rcases u2 with u2 | ⟨_, _, _, z, _⟩
            · exact u2
            · cases z
          subst eu
          refine (pe_callLS (E := WE W) h1 hr hN hv h2 h3 (passAt tk) ha hdb hcd he hpl).run pins s σ H Q I ⟨u1, f, w, s', st, ?_⟩
          cases em : m s' with
          | no => unfold mCall at q2; rw [em] at q2; exact q2.elim
          | exc y s1 => unfold mCall at q2; rw [em] at q2; exact q2
          | ok ds s1 =>
            unfold mCall at q2
            rw [em] at q2
            exact fun w1 H1 vs e1 st1 r1 => call_sp st1 r1 (hn _ _ _ em) (fun _ _ _ h => h) (Po.ext q2 e1)
        · rw [if_neg en] at q2
          exact q2.elim
    | _ => exact q.elim
end
end Pv
end PvX_

section PvY_
set_option Elab.async false
set_option linter.all false
set_option maxRecDepth 100000
set_option maxHeartbeats 4000000
namespace Pv
open PySem PySem.Spec PyProof.Rows L2

/-! ### try: several clauses «except X as n» -/
abbrev Hd := Value × Nat × (Addr → Value → Option Addr → TS)
def wManyA (K : PySem.W.Frag) (Wout : WX) (D : Ends) : List Hd → WX
  | [] => Wout
  | (c, i, ts) :: r => fun cls d σ H => ∃ b, PySem.W.exmOne K cls c = some b ∧
      (b = true → ∀ a, H a = none → ts a cls d { nx := fun σ' H' => D.nx (σ'.set i none) H', rt := D.rt, bk := fun σ' H' => D.bk (σ'.set i none) H', ct := fun σ' H' => D.ct (σ'.set i none) H' } (σ.set i (some (.ref a))) H) ∧
      (b = false → wManyA K Wout D r cls d σ H)
inductive HdsA (X : Cx) : List ExceptHandler → List Hd → Prop
  | nil : HdsA X [] []
  | cons {x n : Str} {c : Value} {i : Nat} {ts : Addr → Value → Option Addr → TS} {b₀ : Stmt} {suite : List Stmt} {np pos' : Pos} {hds : List ExceptHandler} {l : List Hd} (hi : X.N[i]? = some n) (hln : X.env.kindOf n = some .local) (hc : Names X x c)
      (hsu : ∀ (a : Addr) (oe : Obj) (cls : Value) (d : Option Addr) (pn : List (Addr × Obj)), Zc cls d oe → (∃ vs, oe.data = .fields vs) → PSs (X.suite a ((a, oe) :: pn)) (b₀ :: suite) (ts a cls d)) (r : HdsA X hds l) :
      HdsA X (.ExceptHandler (some (.Name x np)) (some n) (b₀ :: suite) pos' :: hds) ((c, i, ts) :: l)
section
variable {X : Cx} {body : List Stmt} {h₀ : ExceptHandler} {hds : List ExceptHandler} {l : List Hd} {pos : Pos} {tb : WX → TS} {Wout : WX}
theorem ps_try_manyA (hs : X.stack = X.env :: X.outer) (hf : X.env.frame = some X.env.locals) (hN : X.N.Nodup) (tk : Takes X Wout)
    (hb : ∀ (W : WX) (pn : List (Addr × Obj)) (xe : Value → Shared → Prop), Takes (X.tr pn xe) W → PassesOwn (model X.prog X.w) X.A X.env xe → PSs (X.tr pn xe) body (tb W))
    (hh : HdsA X (h₀ :: hds) l) : PS X (.Try body (h₀ :: hds) [] [] pos) (fun D σ H => tb (wManyA X.K Wout D l) D σ H) := by
  refine ⟨fun pins s σ H D I h => ?_⟩
  have ok := I.ok
  have hfr : X.A.frames = some (X.env :: X.outer) := by rw [ok.frames, hs]
  refine wpAny_Try_except ?_
  refine wpAny_mono ((hb (wManyA X.K Wout D l) (X.pn ++ pins) (fun e s₁ => wpAny (model X.prog X.w) X.A (noteFrame e X.env) (fun _ s₂ => wpAny (model X.prog X.w) X.A (setFlight e none) (fun _ s₃ =>
    wpAny (model X.prog X.w) X.A (handleBy e X.env (h₀ :: hds)) (SP X pins D) X.xe s₃) X.xe s₂) X.xe s₁) (fun u s' xx => ?_) PassesOwn.looking).run [] s σ H D (I.toTry _) h) (fun f s1 hsp => ?_) (fun e s1 he => he)
  · obtain ⟨a, B, sI, pins', σ', H', cls, d, rfl, J', nb, up, sky, na, os, ag, w⟩ := xx
    have J : Inv X pins σ' H' sI := J'.ofTry ok
    have sky' : Sky B (X.env :: X.outer) a (Zc cls d) X.env.locals s'.heap := by rw [← hs]; exact sky
    show wpAny (model X.prog X.w) X.A (noteFrame (.ref a) X.env) _ _ _
    refine Sky.land Zc.steady hfr hf sky' fun h3 fl3 up3 => ?_
    have J3 : Inv X pins σ' H' { s' with heap := h3 } := J.landed nb fl3.1 (up.trans up3) os ag
    obtain ⟨oe3, vs3, he3, hz3, hd3⟩ := fl3.there
    have notFr : ∀ {h : Heap} {o : Obj} {vs : Array Value}, h.FunFrames B (X.env :: X.outer) → h.get? a = some o → o.data = .fields vs → a ∉ frs (X.env :: X.outer) := fun {h o vs} ff e dd hm => by
      obtain ⟨_, o', e', hnf⟩ := ff.mem hm
      rw [e] at e'; cases e'
      exact hnf _ dd
    have nfr := notFr fl3.2.2.1 he3 hd3
    have nL : a ≠ X.env.locals := fun z => nfr (List.mem_filterMap.mpr ⟨X.env, List.mem_cons_self, by rw [hf, z]⟩)
    have nF : a ∉ X.fs := fun hm => by
      obtain ⟨e, he, q⟩ := List.mem_filterMap.mp hm
      exact nfr (List.mem_filterMap.mpr ⟨e, List.mem_cons_of_mem _ he, q⟩)
    have S3 := J3.suite he3 hd3 na nL nF
    have go : ∀ {hds' : List ExceptHandler} {l' : List Hd}, HdsA X hds' l' → wManyA X.K Wout D l' cls d σ' H' →
        wpAny (model X.prog X.w) X.A (handleBy (.ref a) X.env hds') (SP X pins D) X.xe { s' with heap := h3 } := by
      intro hds' l' hk
      induction hk with
      | nil =>
        intro w
        refine wpAny_handleBy_nil ?_
        obtain ⟨k1, k2, k3, oe, vs, T, oT, ts', he, hz, hd, h1, hr⟩ := id fl3
        unfold PySem.passOn
        refine wpAny_bind (wpAny_field he hd h1 ?_)
        rw [if_neg (show ¬ ((Value.ref T == Value.none) = true) from by simp)]
        have fin : wpAny (model X.prog X.w) X.A (setFlight (.ref a) X.env.frame) (fun _ s4 => wpAny (model X.prog X.w) X.A (throw (.ref a) : Sem Flow) (SP X pins D) X.xe s4) X.xe { s' with heap := h3 } := by
          rw [hf]
          refine HandSPX.setFlight_upZ fl3 fun h4 hh4 up4 => wpAny_throw (tk _ _ ?_)
          exact ⟨a, B, sI, pins, σ', H', cls, d, rfl, J, nb, (up.trans up3).trans up4, .inr (.inr (by rw [hs]; exact hh4)), na, os, ag, w⟩
        first
          | exact wpAny_bind (wpAny_pure (wpAny_bind fin))
          | exact wpAny_bind fin
      | @cons x n c i ts b₀ suite np pos' hds2 l2 hi hln hc hsu r ih =>
        intro w
        obtain ⟨b, hb1, hyes, hno⟩ := w
        refine wpAny_handleBy_cons (codeAny_handlers_test ?_) (by intro q; cases q)
        have LT : PySem.W.Looks (model X.prog X.w) h3 (typeOf (.ref a)) cls := fun A Q E s k q => wpAny_typeOf_ref (k _ _ he3) (by rw [hz3.1]; exact q)
        have LM := PySem.W.exm_one (M := model X.prog X.w) (J3.kIn) LT hb1
        have test : ∀ {Q : Value → Shared → Prop} {E : Value → Shared → Prop}, Q c { s' with heap := h3 } → wpAny (model X.prog X.w) (X.A.mark (some (.ref a))) (eval (.Name x np) X.env) Q E { s' with heap := h3 } := fun {Q E} q => by
          obtain ⟨hg, hdbg, hm | ⟨hm, hv, hnn⟩⟩ := hc
          · exact ld_glob (X := X.suite a ((a, oe3) :: (X.pn ++ pins))) S3 hg hm q hdbg
          · exact ld_blt (X := X.suite a ((a, oe3) :: (X.pn ++ pins))) S3 hg hm hv q hnn hdbg
        refine test (LM.here ?_)
        cases b with
        | true =>
          refine codeAny_handlers_suite_as ?_
          refine HandSPX.lands_againZ fl3 fun h4 fl4 up4 => ?_
          have J4 : Inv X pins σ' H' { s' with heap := h4 } := J.landed nb fl4.1 ((up.trans up3).trans up4) os ag
          obtain ⟨oe4, vs4, he4, hz4, hd4⟩ := fl4.there
          have S4 := J4.suite he4 hd4 na nL nF
          refine store_ok (X := X.suite a ((a, oe4) :: (X.pn ++ pins))) (v := .ref a) S4 hN hi (.inl hln) rfl (fun s5 S5 => ?_) (.inr hln)
          refine wpAny_mono ((hsu a oe4 cls d (X.pn ++ pins) hz4 ⟨_, hd4⟩).run [] s5 _ H' _ S5 (hyes rfl a na)) (fun f s6 hsp => ?_) (fun _ _ z => False.elim z)
          have end_ : ∀ {σ6 : L2.St} {H6 : Hp} {Q : Shared → Prop}, Inv (X.suite a ((a, oe4) :: (X.pn ++ pins))) [] σ6 H6 s6 → (∀ s7, Inv X pins (σ6.set i none) H6 s7 → Q s7) →
              wpAny (model X.prog X.w) X.A (do bindName X.env n .none; unbindBehindTheSuite X.env n pos') (fun _ s7 => Q s7) X.xe s6 := fun {σ6 H6 Q} S6 hq => gone_ok (S6.unsuite ok) hN hi hln hq
          cases f with
          | next =>
            obtain ⟨σ6, H6, S6, q6⟩ := hsp
            exact end_ S6 fun s7 J7 => ⟨_, _, J7, q6⟩
          | brk =>
            obtain ⟨σ6, H6, S6, q6⟩ := hsp
            exact end_ S6 fun s7 J7 => ⟨_, _, J7, q6⟩
          | cont =>
            obtain ⟨σ6, H6, S6, q6⟩ := hsp
            exact end_ S6 fun s7 J7 => ⟨_, _, J7, q6⟩
          | ret u =>
            obtain ⟨v6, σ6, H6, S6, r6, q6⟩ := hsp
            exact end_ S6 fun s7 J7 => ⟨_, _, _, J7, r6, q6⟩
        | false =>
          show wpAny _ X.A (handleBy (.ref a) X.env hds2) _ _ _
          exact ih (hno rfl)
    exact go hh w
  · cases f with
    | next =>
      obtain ⟨σ', H', J', q⟩ := hsp
      exact wpAny_execs_nil ⟨σ', H', J'.ofTry ok, q⟩
    | brk =>
      obtain ⟨σ', H', J', q⟩ := hsp
      exact ⟨σ', H', J'.ofTry ok, q⟩
    | cont =>
      obtain ⟨σ', H', J', q⟩ := hsp
      exact ⟨σ', H', J'.ofTry ok, q⟩
    | ret u =>
      obtain ⟨v, σ', H', J', r, q⟩ := hsp
      exact ⟨v, σ', H', J'.ofTry ok, r, q⟩
end

/-! ### its meaning: each clause answers a text -/
/-- what a clause answers for a class: its slot and its text; none: never there -/
abbrev Ans := List (Value × Nat × Option Str)
def ansO (i : Nat) (s : S) : Option Str → SO
  | some t => if i < s.env.length then .rt (.str t) s else .no
  | none => .no
def pickA (mt : Value → Value → Option Bool) (c : Value) (s : S) : Ans → SO
  | [] => .exc (.pl c) s
  | (c', i, t) :: r => match mt c c' with
    | some true => ansO i s t
    | some false => pickA mt c s r
    | none => .no
def sTry (mt : Value → Value → Option Bool) (l : Ans) (mb : MS) : MS := fun s => match mb s with
  | .exc (.pl c) s1 => pickA mt c s1 l
  | .exc _ _ => .no
  | o => o
/-- what the classes must say -/
structure Mt (K : PySem.W.Frag) (mt : Value → Value → Option Bool) : Prop where
  one : ∀ c c' b, mt c c' = some b → PySem.W.exmOne K c c' = some b
  ve : ∀ c c', mt c c' = some true → ∃ C, c = .ref C ∧ ExcC K C ∧ PySem.W.kitOne K (.ref C) (.type "ValueError") = some true
section
variable {X : Cx} {W : WX}
/-- return s1 if isinstance(n, ValueError) else .. -/
theorem suite_ret {a D : Addr} {oe : Obj} {pn : List (Addr × Obj)} {i : Nat} {nm s1 : Str} {j1 : Nat} {p1 p2 p3 p4 p5 p6 p7 : Pos} {eo : Expr} (C : ExcC X.K D) (hV : PySem.W.kitOne X.K (.ref D) (.type "ValueError") = some true) (hz : Zc (.ref D) none oe) (hf : ∃ vs, oe.data = .fields vs)
    (hN : X.N[i]? = some nm) (hv : Vis X.env.scope nm) (hg : Gl X "isinstance") (hm : X.mg "isinstance" = none) (hgv : Gl X "ValueError") (hmv : X.mg "ValueError" = none) (hd : (nm == ("__debug__" : Str)) = false) (hcd : (nm == ("__classdict__" : Str)) = false)
    (h2 : starEach [.Name nm p2, .Name "ValueError" p3] X.env = (false, eval (.Name nm p2) X.env) :: starEach [.Name "ValueError" p3] X.env := by rfl) (h3 : starEach [.Name "ValueError" p3] X.env = (false, eval (.Name "ValueError" p3) X.env) :: starEach [] X.env := by rfl) :
    PSs (X.suite a ((a, oe) :: pn)) [.Return (some (.IfExp (.Call (.Name "isinstance" p1) [.Name nm p2, .Name "ValueError" p3] [] p4) (.Constant (.str s1) j1 p5) eo p6)) p7] (fun E σ H => σ[i]? = some (some (.ref a)) ∧ E.rt (.str s1) H) := by
  have ha : PA (X.suite a ((a, oe) :: pn)) [.Name nm p2, .Name "ValueError" p3] (tCons (tVar i) (tCons (tC (.ty "ValueError")) tNil)) :=
    pa_cons (pe_var hN hv hd hcd) (pa_cons (pe_bltn (v := .ty "ValueError") hgv hmv boot_ValueError rfl) pa_nil h3) h2
  have ht : PT (X.suite a ((a, oe) :: pn)) (.Call (.Name "isinstance" p1) [.Name nm p2, .Name "ValueError" p3] [] p4) _ := pt_val (pe_callB (call_isE C hz hf) hg hm (by decide +kernel) ha (he := h2) (hpl := by rfl)) (by intro _; rfl)
  have hno : PE (X.suite a ((a, oe) :: pn)) eo (fun _ _ _ => False) := ⟨fun _ _ _ _ _ _ z => z.elim⟩
  refine ⟨fun pins s σ H E I ⟨e1, e2⟩ => ?_⟩
  refine (pss_one (ps_ret (pe_ifExp ht pe_str hno))).run pins s σ H E I ?_
  refine ⟨.ref a, e1, ?_⟩
  refine ⟨.ty "ValueError", .type "ValueError", true, rfl, fun u r => r, hV, true, rfl, ?_⟩
  exact e2
def tAns (K : PySem.W.Frag) (mt : Value → Value → Option Bool) (c' : Value) (i : Nat) : Option Str → Addr → Value → Option Addr → TS
  | some t => fun a cls d E σ H => (mt cls c' = some true ∧ d = none ∧ σ[i]? = some (some (.ref a))) ∧ E.rt (.str t) H
  | none => fun _ _ _ _ _ _ => False
theorem hd_ret {x nm s1 : Str} {c : Value} {i j1 : Nat} {mt : Value → Value → Option Bool} {p1 p2 p3 p4 p5 p6 p7 np pos' : Pos} {eo : Expr} {hds : List ExceptHandler} {l : List Hd} (M : Mt X.K mt) (hi : X.N[i]? = some nm) (hln : X.env.kindOf nm = some .local) (hc : Names X x c)
    (hg : Gl X "isinstance") (hm : X.mg "isinstance" = none) (hgv : Gl X "ValueError") (hmv : X.mg "ValueError" = none) (r : HdsA X hds l) (hd : (nm == ("__debug__" : Str)) = false := by decide) (hcd : (nm == ("__classdict__" : Str)) = false := by decide)
    (h2 : starEach [.Name nm p2, .Name "ValueError" p3] X.env = (false, eval (.Name nm p2) X.env) :: starEach [.Name "ValueError" p3] X.env := by rfl) (h3 : starEach [.Name "ValueError" p3] X.env = (false, eval (.Name "ValueError" p3) X.env) :: starEach [] X.env := by rfl) :
    HdsA X (.ExceptHandler (some (.Name x np)) (some nm) [.Return (some (.IfExp (.Call (.Name "isinstance" p1) [.Name nm p2, .Name "ValueError" p3] [] p4) (.Constant (.str s1) j1 p5) eo p6)) p7] pos' :: hds) ((c, i, tAns X.K mt c i (some s1)) :: l) := by
  refine .cons hi hln hc (fun a oe cls d pn hz hf => ⟨fun pins s σ H E I ⟨⟨e1, e2, e3⟩, e4⟩ => ?_⟩) r
  obtain ⟨D, rfl, C, hV⟩ := M.ve _ _ e1
  subst e2
  exact (suite_ret (nm := nm) C hV hz hf hi (.inl hln) hg hm hgv hmv hd hcd h2 h3).run pins s σ H E I ⟨e3, e4⟩
theorem hd_no {x nm : Str} {c : Value} {i : Nat} {mt : Value → Value → Option Bool} {np pos' : Pos} {b₀ : Stmt} {suite : List Stmt} {hds : List ExceptHandler} {l : List Hd} (hi : X.N[i]? = some nm) (hln : X.env.kindOf nm = some .local) (hc : Names X x c) (r : HdsA X hds l) :
    HdsA X (.ExceptHandler (some (.Name x np)) (some nm) (b₀ :: suite) pos' :: hds) ((c, i, tAns X.K mt c i none) :: l) :=
  .cons hi hln hc (fun a oe cls d pn hz hf => ⟨fun pins s σ H E I z => z.elim⟩) r
theorem names_own {x : Str} {C : Value} (hg : Gl X x) (hm : X.mg x = some C) (hd : (x == ("__debug__" : Str)) = false := by decide) : Names X x C := ⟨hg, hd, .inl hm⟩
/-- the clauses: class, slot, text -/
def hdsOf (K : PySem.W.Frag) (mt : Value → Value → Option Bool) (l : Ans) : List Hd := l.map fun x => (x.1, x.2.1, tAns K mt x.1 x.2.1 x.2.2)
theorem pick_ok {K : PySem.W.Frag} {mt : Value → Value → Option Bool} (M : Mt K mt) {f : Fm} {w w' : Wd} {E : Ends} {s1 : S} {σ' : L2.St} {H' : Hp} {cls : Value} (x1 : Ext w w') (st1 : StOk K f w' s1 σ' H') :
    ∀ l : Ans, PoS K f W w E (pickA mt cls s1 l) → wManyA K W E (hdsOf K mt l) cls none σ' H'
  | [], q => q w' σ' H' cls none x1 st1 ⟨rfl, rfl⟩
  | (c', i, t) :: r, q => by
    have q' : PoS K f W w E (match mt cls c' with
      | some true => ansO i s1 t
      | some false => pickA mt cls s1 r
      | none => .no) := q
    cases eb : mt cls c' with
    | none => rw [eb] at q'; exact q'.elim
    | some b =>
      rw [eb] at q'
      refine ⟨b, M.one _ _ _ eb, fun hb => ?_, fun hb => ?_⟩
      · subst hb
        intro a na
        cases t with
        | none => exact q'.elim
        | some t =>
          have q2 : PoS K f W w E (if i < s1.env.length then .rt (.str t) s1 else .no) := q'
          split at q2
          · rename_i hi
            refine ⟨⟨eb, rfl, ?_⟩, q2 w' σ' H' (.str t) x1 st1 rfl⟩
            rw [List.getElem?_set_self (by rw [← st1.len]; exact hi)]
          · exact q2.elim
      · subst hb
        exact pick_ok M x1 st1 r q'
theorem s_try {body : List Stmt} {h₀ : ExceptHandler} {hds : List ExceptHandler} {pos : Pos} {mt : Value → Value → Option Bool} {mb : MS} (l : Ans) (M : Mt X.K mt) (hs : X.stack = X.env :: X.outer) (hf : X.env.frame = some X.env.locals) (hN : X.N.Nodup) (tk : Takes X W)
    (hb : ∀ (W : WX) (pn : List (Addr × Obj)) (xe : Value → Shared → Prop), Takes (X.tr pn xe) W → PassesOwn (model X.prog X.w) X.A X.env xe → PSs (X.tr pn xe) body (tS X.K W mb))
    (hh : HdsA X (h₀ :: hds) (hdsOf X.K mt l)) : PS X (.Try body (h₀ :: hds) [] [] pos) (tS X.K W (sTry mt l mb)) := by
  refine ⟨fun pins s σ H E I ⟨f, w, s', st, q⟩ => ?_⟩
  refine (ps_try_manyA hs hf hN tk hb hh).run pins s σ H E I ⟨f, w, s', st, ?_⟩
  unfold sTry at q
  cases em : mb s' with
  | nx s1 => rw [em] at q; exact q
  | rt d s1 => rw [em] at q; exact q
  | bk s1 => rw [em] at q; exact q
  | ct s1 => rw [em] at q; exact q
  | no => rw [em] at q; exact q
  | exc e s1 =>
    rw [em] at q
    cases e with
    | «at» c n x => exact q.elim
    | pl c =>
      intro w' σ' H' cls d x1 st1 rx
      obtain ⟨rfl, rfl⟩ := rx
      exact pick_ok M x1 st1 l q
end
end Pv
end PvY_

section PvZ_
set_option Elab.async false
set_option linter.all false
set_option maxRecDepth 100000
set_option maxHeartbeats 4000000
namespace Pv
open PySem PySem.Spec PyProof.Rows L2
/-- where the own classes of exceptions and the defs stand -/
structure Ad where
  U : Addr
  C : Addr
  M : Addr
  B : Addr
  N : Addr
  fn : Str → Addr
/-- which class is caught by which -/
def Ad.mt (A : Ad) (c c' : Value) : Option Bool := match c, c' with
  | .ref a, .ref b =>
    if a = A.U then (if b = A.U then some true else none)
    else if a = A.C then (if b = A.U then some false else if b = A.C then some true else none)
    else if a = A.M then (if b = A.U ∨ b = A.C then some false else if b = A.M then some true else none)
    else none
  | _, _ => none
structure Ad.ok (A : Ad) : Prop where
  UC : A.U ≠ A.C
  UM : A.U ≠ A.M
  CM : A.C ≠ A.M
section
variable {A : Ad}
theorem mt_UU : A.mt (.ref A.U) (.ref A.U) = some true := by unfold Ad.mt; simp
theorem mt_CU (h : A.ok) : A.mt (.ref A.C) (.ref A.U) = some false := by unfold Ad.mt; simp [Ne.symm h.UC]
theorem mt_CC (h : A.ok) : A.mt (.ref A.C) (.ref A.C) = some true := by unfold Ad.mt; simp [Ne.symm h.UC]
theorem mt_MU (h : A.ok) : A.mt (.ref A.M) (.ref A.U) = some false := by unfold Ad.mt; simp [Ne.symm h.UM, Ne.symm h.CM]
theorem mt_MC (h : A.ok) : A.mt (.ref A.M) (.ref A.C) = some false := by unfold Ad.mt; simp [Ne.symm h.UM, Ne.symm h.CM]
theorem mt_MM (h : A.ok) : A.mt (.ref A.M) (.ref A.M) = some true := by unfold Ad.mt; simp [Ne.symm h.UM, Ne.symm h.CM]
end
/-- a class that is only named -/
structure Cls0 (K : PySem.W.Frag) (mg : Str → Option Value) (x : Str) (C : Addr) : Prop where
  mg : mg x = some (.ref C)
theorem HasA.up {P : Program} {w : World} {K : PySem.W.Frag} {mg : Str → Option Value} {base : Heap} {a : Addr} {n j k : Nat} {F : Fn} (h : HasA P w K mg base a n j F) (le : j ≤ k) : HasA P w K mg base a n k F := by
  obtain ⟨fd, ps, h1, h2⟩ := h.ex
  exact ⟨fd, ps, h1.mono le, h2⟩
theorem Bd.tr {X : Cx} {W W' : WX} {k : Nat} {pn : List (Addr × Obj)} {xe : Value → Shared → Prop} (B : Bd X W k) (tk : Takes (X.tr pn xe) W') (po : PassesOwn (model X.prog X.w) X.A X.env xe) : Bd (X.tr pn xe) W' k := ⟨tk, po, B.hr⟩
theorem room65 {k : Nat} {A : Around} (r : Room k A) : A.units + 65 < cLine := by have := r.un; omega
theorem q_gstrE {X : Cx} {W : WX} {x z : Str} {pos : Pos} (hg : Gl X x) (hm : ∃ t, X.mg x = some (.str z t)) (hd : (x == ("__debug__" : Str)) = false := by decide) : PE X (.Name x pos) (tM X.K W (con (.str z))) := by
  obtain ⟨t, h⟩ := hm
  exact q_gstr hg h hd

/-! ### sep.join(texts) -/
def dJoin (a : Str) (y : D) : Option D := ((itemsD y).bind strsD).bind fun ys => if (ys.map (·.length)).sum + ys.length * a.length ≤ 16777216 then some (.str (Txt.join a ys)) else none
def mJoin (ma mb : M D) : M D := fun s => (ma s).bind fun x s1 => match x with
  | .str a => (mb s1).bind fun y s2 => ofO (dJoin a y) s2
  | _ => .no
theorem q_join {X : Cx} {W : WX} {o e : Expr} {apos pos : Pos} {ma mb : M D} (ho : PE X o (tM X.K W ma)) (he : PE X e (tL X.K W mb)) (hs : starEach [e] X.env = [(false, eval e X.env)] := by rfl) (hbase : attributeBase o "join" X.env (eval o X.env) = eval o X.env := by rfl) (hline : (apos.endLine == pos.line) = true := by rfl) :
    PE X (.Call (.Attribute o "join" apos) [e] [] pos) (tM X.K W (mJoin ma mb)) := by
  refine pe_imp (pe_join ho he hs hbase hline) fun σ H Q ⟨f, w, s, st, q⟩ => ?_
  refine ⟨f, w, s, st, Po.thn q fun x w1 s1 v H1 e1 st1 r1 p1 => ?_⟩
  cases x with
  | str a =>
    refine ⟨⟨a, r1⟩, f, w1, s1, st1, Po.thn p1 fun y w2 s2 u H2 e2 st2 r2 p2 => ?_⟩
    obtain ⟨z, ez, pz⟩ := p2.ofO
    unfold dJoin at ez
    cases hi : itemsD y with
    | none => rw [hi] at ez; cases ez
    | some xs =>
      rw [hi] at ez
      have ez2 : (strsD xs).bind (fun ys => if (ys.map (·.length)).sum + ys.length * a.length ≤ 16777216 then some (D.str (Txt.join a ys)) else none) = some z := ez
      cases hy : strsD xs with
      | none => rw [hy] at ez2; cases ez2
      | some ys =>
        rw [hy] at ez2
        have ez3 : (if (ys.map (·.length)).sum + ys.length * a.length ≤ 16777216 then some (D.str (Txt.join a ys)) else none) = some z := ez2
        split at ez3
        · rename_i hz
          cases ez3
          have exs := strsD_eq hy
          subst exs
          have fin : Q (.str (Txt.join a ys)) H2 := pz w2 H2 _ (Ext.refl _) st2 rfl
          unfold itemsD at hi
          split at hi
          · cases hi
            obtain ⟨p, vs, rfl, h1, h2⟩ := r2.lst st2
            have := h2.strs
            subst this
            exact ⟨a, p, ys, r1, rfl, .inl (SqL.of h1), hz, fin⟩
          · cases hi
            obtain ⟨p, vs, rfl, h1, h2⟩ := r2.tup st2
            have := h2.strs
            subst this
            exact ⟨a, p, ys, r1, rfl, .inr h1, hz, fin⟩
          · cases hi
        · cases ez3
  | _ => exact p1.elim

/-! ### list(zip(..)) -/
def mLzp (ma mb : M D) : M (List D) := fun s => (ma s).bind fun x s1 => (mb s1).bind fun y s2 => match seqD x, seqD y with
  | some (_, xs), some (_, ys) => .ok (zpD xs ys) s2
  | _, _ => .no
end Pv
namespace PySem
open Sem (wp)
section
variable {prog : Program} {w : World} {A : Around} {E : Value → Shared → Prop} {s : Shared} {z TI TO i1 i2 T : Addr} {fp1 fp2 : List Addr} {n1 n2 i : Nat} {P1 P2 : Nat → Value → Prop} {St1 St2 : Nat → Heap → Prop} {f : Bool} {oT : Obj}
theorem zipD2_item_held {Q : Value → Shared → Prop} (S : ZipSep2 z TI TO i1 i2 fp1 fp2) (D1 : Draws prog w A i1 fp1 n1 P1 St1) (D2 : Draws prog w A i2 fp2 n2 P2 St2)
    (hz : IsZipHeld s.heap z TI TO T f) (hT : s.heap.get? T = some oT) (hTI : IsTupOf2 s.heap TI (.ref i1) (.ref i2)) (st1 : St1 i s.heap) (st2 : St2 i s.heap) (hlt1 : i < n1) (hlt2 : i < n2)
    (hQ : ∀ x1 x2 h' tk, P1 i x1 → P2 i x2 → IsZipHeld h' z TI TO T true → St1 (i + 1) h' → St2 (i + 1) h' → IsTupOf2 h' s.heap.objs.size x1 x2 → h'.objs.size = s.heap.objs.size + 1 →
      (∀ c o, c ≠ z → c ≠ i1 → c ≠ i2 → s.heap.get? c = some o → h'.get? c = some o) → Q (.ref s.heap.objs.size) { s with heap := h', toks := tk }) :
    wpAny (model prog w) A (Builtin.«zip.__next__» ⟨[.ref z], []⟩) (fun fin s' => ∃ v, fin = .done (.ret v) ∧ Q v s') E s := by
  obtain ⟨hp, g, d, tk0, os⟩ := s
  show wpAny _ _ (field (.ref z) 2 >>= _) _ _ _
  refine wpAny_bind (wpAny_field hz rfl (x := .bool false) rfl ?_)
  show wpAny _ _ (field (.ref z) 3 >>= _) _ _ _
  refine wpAny_bind (wpAny_field hz rfl (x := .ref TI) rfl ?_)
  refine wpAny_bind (wpAny_seqItems hTI rfl ?_)
  show wpAny _ _ (Builtin.SmallTypes.ownedTupleIsFree (.ref z) >>= _) _ _ _
  refine wpAny_bind (wpAny_tupleHeld_zip hz hT fun h₁ hz₁ hs₁ => ?_)
  replace hs₁ : Heap.SameBut z hp h₁ := hs₁
  simp only [Bool.false_eq_true, if_false]
  refine wpAny_bind ?_
  rw [← Array.forIn_toList]
  simp only [List.forIn_cons, List.forIn_nil]
  refine wpAny_bind (wpAny_bind (wpAny_holding ?_))
  show wpAny _ _ (Builtin.SmallTypes.nextOf (.ref i1) >>= _) _ _ ⟨h₁, g, d, tk0, os⟩
  refine wpAny_bind (D1.item i _ _ _ hlt1 (D1.over st1 hs₁ S.zf1) fun x1 p1 tk1 hx1 sn1 hp1 => wpAny_pure ?_)
  replace hp1 : Heap.SameBut i1 h₁ p1 := hp1
  refine wpAny_pure ?_
  refine wpAny_bind (wpAny_bind (wpAny_holding ?_))
  show wpAny _ _ (Builtin.SmallTypes.nextOf (.ref i2) >>= _) _ _ ⟨p1, g, d, tk1, os⟩
  refine wpAny_bind (D2.item i _ _ _ hlt2 (D2.over (D2.over st2 hs₁ S.zf2) hp1 S.sep1_2) fun x2 p2 tk2 hx2 sn2 hp2 => wpAny_pure ?_)
  replace hp2 : Heap.SameBut i2 p1 p2 := hp2
  refine wpAny_pure (wpAny_pure ?_)
  show wpAny _ _ (newTuple [x1, x2] >>= _) _ _ _
  refine wpAny_bind (wpAny_newTuple ?_)
  have hsz : p2.objs.size = hp.objs.size := by rw [hp2.1, hp1.1, hs₁.1]
  have hz₃ : IsZipHeld p2 z TI TO T true := hp2.extBut _ _ S.zi2 (hp1.extBut _ _ S.zi1 hz₁)
  have hk : ∀ c o, c ≠ z → c ≠ i1 → c ≠ i2 → hp.get? c = some o → p2.get? c = some o := fun c o c1 c2 c3 e => hp2.extBut _ _ c3 (hp1.extBut _ _ c2 (hs₁.extBut _ _ c1 e))
  have hj1 : St1 (i + 1) p2 := D1.over sn1 hp2 S.sep2_1
  refine wpAny_pure ⟨_, rfl, ?_⟩
  show Q (.ref p2.objs.size) ⟨p2.push { cls := .type "tuple", data := .seq #[x1, x2] }, g, d, tk2, os⟩
  have hpp : IsTupOf2 (p2.push { cls := .type "tuple", data := .seq #[x1, x2] }) p2.objs.size x1 x2 := Heap.get?_push_size _ rfl
  have hz4 : (p2.push { cls := .type "tuple", data := .seq #[x1, x2] }).objs.size = p2.objs.size + 1 := Heap.size_push ..
  rw [hsz] at hpp hz4 ⊢
  exact hQ x1 x2 _ tk2 hx1 hx2 (Heap.get?_push_of_some _ hz₃) (D1.frame _ _ _ hj1 fun b _ o e => Heap.get?_push_of_some _ e) (D2.frame _ _ _ sn2 fun b _ o e => Heap.get?_push_of_some _ e) hpp hz4 fun c o c1 c2 c3 e => Heap.get?_push_of_some _ (hk c o c1 c2 c3 e)
theorem zipD2_end_held {Q : Fin → Shared → Prop} (S : ZipSep2 z TI TO i1 i2 fp1 fp2) (D1 : Draws prog w A i1 fp1 n1 P1 St1) (D2 : Draws prog w A i2 fp2 n2 P2 St2)
    (hz : IsZipHeld s.heap z TI TO T f) (hT : s.heap.get? T = some oT) (hTI : IsTupOf2 s.heap TI (.ref i1) (.ref i2)) (st1 : St1 i s.heap) (st2 : St2 i s.heap) (hle1 : i ≤ n1) (hle2 : i ≤ n2) (hend : i = n1 ∨ i = n2)
    (hE : ∀ h' tk e, (∀ c o, c ≠ z → c ≠ i1 → c ≠ i2 → s.heap.get? c = some o → h'.get? c = some o) → (∃ o, h'.get? e = some o ∧ o.cls = .type "StopIteration") → E (.ref e) { s with heap := h', toks := tk }) :
    wpAny (model prog w) A (Builtin.«zip.__next__» ⟨[.ref z], []⟩) Q E s := by
  obtain ⟨hp, g, d, tk0, os⟩ := s
  show wpAny _ _ (field (.ref z) 2 >>= _) _ _ _
  refine wpAny_bind (wpAny_field hz rfl (x := .bool false) rfl ?_)
  show wpAny _ _ (field (.ref z) 3 >>= _) _ _ _
  refine wpAny_bind (wpAny_field hz rfl (x := .ref TI) rfl ?_)
  refine wpAny_bind (wpAny_seqItems hTI rfl ?_)
  show wpAny _ _ (Builtin.SmallTypes.ownedTupleIsFree (.ref z) >>= _) _ _ _
  refine wpAny_bind (wpAny_tupleHeld_zip hz hT fun h₁ hz₁ hs₁ => ?_)
  replace hs₁ : Heap.SameBut z hp h₁ := hs₁
  simp only [Bool.false_eq_true, if_false]
  refine wpAny_bind ?_
  rw [← Array.forIn_toList]
  simp only [List.forIn_cons, List.forIn_nil]
  refine wpAny_bind (wpAny_bind (wpAny_holding ?_))
  show wpAny _ _ (Builtin.SmallTypes.nextOf (.ref i1) >>= _) _ _ ⟨h₁, g, d, tk0, os⟩
  by_cases hlt1 : i < n1
  · refine wpAny_bind (D1.item i _ _ _ hlt1 (D1.over st1 hs₁ S.zf1) fun x1 p1 tk1 hx1 sn1 hp1 => wpAny_pure ?_)
    replace hp1 : Heap.SameBut i1 h₁ p1 := hp1
    refine wpAny_pure ?_
    refine wpAny_bind (wpAny_bind (wpAny_holding ?_))
    show wpAny _ _ (Builtin.SmallTypes.nextOf (.ref i2) >>= _) _ _ ⟨p1, g, d, tk1, os⟩
    have e2 : i = n2 := by omega
    subst e2
    refine wpAny_bind (D2.done ⟨p1, g, d, tk1, os⟩ _ _ (D2.over (D2.over st2 hs₁ S.zf2) hp1 S.sep1_2) fun h₃ e hs₃ he => ?_)
    exact hE h₃ tk1 e (fun c o c1 c2 c3 x => hs₃ _ _ c3 (hp1.extBut _ _ c2 (hs₁.extBut _ _ c1 x))) he
  · have e1 : i = n1 := by omega
    subst e1
    refine wpAny_bind (D1.done ⟨h₁, g, d, tk0, os⟩ _ _ (D1.over st1 hs₁ S.zf1) fun h₂ e hs₂ he => ?_)
    exact hE h₂ tk0 e (fun c o c1 c2 _ x => hs₂ _ _ c2 (hs₁.extBut _ _ c1 x)) he
theorem pyNext_zipD2_item_held {Q : Option Value → Shared → Prop} (S : ZipSep2 z TI TO i1 i2 fp1 fp2) (D1 : Draws prog w A.in1 i1 fp1 n1 P1 St1) (D2 : Draws prog w A.in1 i2 fp2 n2 P2 St2)
    (hz : IsZipHeld s.heap z TI TO T f) (hT : s.heap.get? T = some oT) (hTI : IsTupOf2 s.heap TI (.ref i1) (.ref i2)) (st1 : St1 i s.heap) (st2 : St2 i s.heap) (hlt1 : i < n1) (hlt2 : i < n2)
    (hQ : ∀ x1 x2 h' tk, P1 i x1 → P2 i x2 → IsZipHeld h' z TI TO T true → St1 (i + 1) h' → St2 (i + 1) h' → IsTupOf2 h' s.heap.objs.size x1 x2 → h'.objs.size = s.heap.objs.size + 1 →
      (∀ c o, c ≠ z → c ≠ i1 → c ≠ i2 → s.heap.get? c = some o → h'.get? c = some o) → Q (some (.ref s.heap.objs.size)) { s with heap := h', toks := tk }) :
    wpAny (model prog w) A (pyNext (.ref z)) Q E s := by
  have hTy : s.TypeIs (.ref z) "zip" := ⟨_, hz, rfl⟩
  unfold pyNext
  exact wpAny_bind (wpAny_attempt (wpAny_callSpecial?_slot (name := Str.ofString "__next__") hTy F.slot_zip_next
    (wpAny_call_entry F.slot_zip_next hTy F.entry_zip_next
      (zipD2_item_held S D1 D2 hz hT hTI st1 st2 hlt1 hlt2 fun x1 x2 h' tk y1 y2 a1 a3 a4 a5 a6 a7 => wpAny_pure (hQ x1 x2 h' tk y1 y2 a1 a3 a4 a5 a6 a7)) (F.args_zip_next_1 _))))
theorem pyNext_zipD2_end_held {Q : Option Value → Shared → Prop} (S : ZipSep2 z TI TO i1 i2 fp1 fp2) (D1 : Draws prog w A.in1 i1 fp1 n1 P1 St1) (D2 : Draws prog w A.in1 i2 fp2 n2 P2 St2)
    (hz : IsZipHeld s.heap z TI TO T f) (hT : s.heap.get? T = some oT) (hTI : IsTupOf2 s.heap TI (.ref i1) (.ref i2)) (st1 : St1 i s.heap) (st2 : St2 i s.heap) (hle1 : i ≤ n1) (hle2 : i ≤ n2) (hend : i = n1 ∨ i = n2)
    (hQ : ∀ h' tk, (∀ c o, c ≠ z → c ≠ i1 → c ≠ i2 → s.heap.get? c = some o → h'.get? c = some o) → Q none { s with heap := h', toks := tk }) : wpAny (model prog w) A (pyNext (.ref z)) Q E s := by
  have hTy : s.TypeIs (.ref z) "zip" := ⟨_, hz, rfl⟩
  unfold pyNext
  refine wpAny_bind (wpAny_attempt (wpAny_callSpecial?_slot (name := Str.ofString "__next__") hTy F.slot_zip_next
    (wpAny_call_entry F.slot_zip_next hTy F.entry_zip_next (zipD2_end_held S D1 D2 hz hT hTI st1 st2 hle1 hle2 hend fun h' tk e hk he => ?_) (F.args_zip_next_1 _))))
  obtain ⟨o, ho, hc⟩ := he
  refine wpAny_bind (wpAny_isInstance (T := "StopIteration") (b := true) ⟨o, ho, hc⟩ isSubtype_stop ?_)
  exact wpAny_pure (hQ _ _ hk)
theorem zip_no_len : typeLookup (.type "zip") "__len__" = pure none := am_miss_of_fast (by decide +kernel)
theorem zip_no_hint : typeLookup (.type "zip") "__length_hint__" = pure none := am_miss_of_fast (by decide +kernel)
theorem zip_hint {Q : Bool → Shared → Prop} (hT : s.TypeIs (.ref z) "zip") (h : Q true s) : wpAny (model prog w) A (Builtin.List.listLengthHint (.ref z)) Q E s := by
  unfold Builtin.List.listLengthHint
  refine wpAny_bind (wpAny_specialOf hT zip_no_len ?_)
  wp_delta
  refine wpAny_ite_split (fun hab => absurd hab (by decide)) (fun _ => ?_)
  refine wpAny_bind (wpAny_specialOf hT zip_no_hint ?_)
  exact wpAny_pure h
end
end PySem
namespace Pv
open PySem PySem.Spec PyProof.Rows L2
abbrev lstO (acc : Array Value) (c : Nat) : Obj := { cls := .type "list", dict := none, data := .seq acc c, slots := #[] }
structure ZSep (h0 : Heap) (z TI TO i1 i2 a1 a2 S : Addr) : Prop where
  sp : ZipSep2 z TI TO i1 i2 [i1, a1] [i2, a2]
  z0 : h0.objs.size ≤ z
  to0 : h0.objs.size ≤ TO
  i10 : h0.objs.size ≤ i1
  i20 : h0.objs.size ≤ i2
  S0 : h0.objs.size ≤ S
  Sz : S ≠ z
  STI : S ≠ TI
  STO : S ≠ TO
  Si1 : S ≠ i1
  Si2 : S ≠ i2
  Sa1 : S ≠ a1
  Sa2 : S ≠ a2
  a1i : a1 ≠ i1
  a2i : a2 ≠ i2
/-- list(zip(..)) with i items taken -/
structure ZL (h0 h : Heap) (z TI TO i1 i2 a1 a2 S : Addr) (b1 b2 : Bool) (its1 its2 : Array Value) (i : Nat) (Ts : List Addr) (acc : Array Value) : Prop where
  hTI : IsTupOf2 h TI (.ref i1) (.ref i2)
  st1 : HIt b1 h i1 a1 i ∧ HIs b1 h a1 its1
  st2 : HIt b2 h i2 a2 i ∧ HIs b2 h a2 its2
  zz : (IsZip h z TI TO .none ∧ ∃ x y, IsTupOf2 h TO x y) ∨ ∃ (T : Addr) (f : Bool) (oT : Obj), IsZipHeld h z TI TO T f ∧ h.get? T = some oT ∧ T ≠ z ∧ T ≠ TO ∧ T ≠ i1 ∧ T ≠ i2 ∧ T ≠ S
  lst : ∃ c, h.get? S = some (lstO acc c)
  toz : ∃ o, h.get? TO = some o
  ac : acc.toList = Ts.map .ref
  ln : Ts.length = i
  nd : Ts.Nodup
  tup : ∀ (j : Nat) (T : Addr), Ts[j]? = some T → h0.objs.size ≤ T ∧ T < h.objs.size ∧ T ≠ z ∧ T ≠ TO ∧ T ≠ i1 ∧ T ≠ i2 ∧ T ≠ S ∧ ∃ x y, its1[j]? = some x ∧ its2[j]? = some y ∧ IsTupOf2 h T x y
  kp : ∀ b o, h0.get? b = some o → h.get? b = some o
section
variable {prog : Program} {w : World} {A : Around} {R : Result → Shared → Prop} {h0 : Heap} {z TI TO i1 i2 a1 a2 S : Addr} {b1 b2 : Bool} {its1 its2 : Array Value}
theorem ZL.ac_size {h : Heap} {i : Nat} {Ts : List Addr} {acc : Array Value} (Z : ZL h0 h z TI TO i1 i2 a1 a2 S b1 b2 its1 its2 i Ts acc) : acc.size = i := by
  have := congrArg List.length Z.ac
  rw [Array.length_toList, List.length_map] at this
  rw [this]; exact Z.ln
/-- one more item is put -/
theorem ZL.next {h h' : Heap} {i : Nat} {Ts : List Addr} {acc : Array Value} {x y : Value} (P : ZSep h0 z TI TO i1 i2 a1 a2 S) (Z : ZL h0 h z TI TO i1 i2 a1 a2 S b1 b2 its1 its2 i Ts acc)
    (hx : its1[i]? = some x) (hy : its2[i]? = some y)
    (zz : ∃ (T : Addr) (f : Bool) (oT : Obj), IsZipHeld h' z TI TO T f ∧ h'.get? T = some oT ∧ T ≠ z ∧ T ≠ TO ∧ T ≠ i1 ∧ T ≠ i2 ∧ T ≠ S) (tz : ∃ o, h'.get? TO = some o)
    (e1 : HIt b1 h' i1 a1 (i + 1) ∧ HIs b1 h' a1 its1) (e2 : HIt b2 h' i2 a2 (i + 1) ∧ HIs b2 h' a2 its2) (new : IsTupOf2 h' h.objs.size x y) (hs : h'.objs.size = h.objs.size + 1)
    (hk : ∀ c o, c ≠ z → c ≠ TO → c ≠ i1 → c ≠ i2 → h.get? c = some o → h'.get? c = some o) :
    ZL h0 (h'.update S (Obj.mapSeq (·.push (.ref h.objs.size)))) z TI TO i1 i2 a1 a2 S b1 b2 its1 its2 (i + 1) (Ts ++ [h.objs.size]) (acc.push (.ref h.objs.size)) := by
  obtain ⟨c, lst⟩ := Z.lst
  have lt : ∀ {b o}, h.get? b = some o → b < h.objs.size := fun e => Heap.lt_size e
  have sS := lt lst
  have sz : z < h.objs.size := by
    rcases Z.zz with ⟨q, _⟩ | ⟨T, f, oT, q, _⟩ <;> exact lt q
  have sTO : TO < h.objs.size := let ⟨_, q⟩ := Z.toz; lt q
  have si1 : i1 < h.objs.size := let ⟨_, q, _⟩ := Z.st1.1.obj; lt q
  have si2 : i2 < h.objs.size := let ⟨_, q, _⟩ := Z.st2.1.obj; lt q
  have up : ∀ b o, b ≠ S → h'.get? b = some o → (h'.update S (Obj.mapSeq (·.push (.ref h.objs.size)))).get? b = some o := fun b o hb e => (Heap.get?_update_other _ _ (Ne.symm hb)).trans e
  have hS' := hk S _ P.Sz P.STO P.Si1 P.Si2 lst
  have nS : h.objs.size ≠ S := Nat.ne_of_gt sS
  have hsz : (h'.update S (Obj.mapSeq (·.push (.ref h.objs.size)))).objs.size = h.objs.size + 1 := (Heap.SameBut.update ..).1.trans hs
  refine {
    hTI := up _ _ (Ne.symm P.STI) (hk _ _ P.sp.TIz P.sp.TITO P.sp.TIi1 P.sp.TIi2 Z.hTI)
    st1 := ⟨e1.1.keep fun o q => up _ _ (Ne.symm P.Si1) q, by
      cases b1 with
      | true => exact Heap.IsList.at e1.2 fun o q => up _ _ (Ne.symm P.Sa1) q
      | false => exact Heap.IsTuple.at e1.2 fun o q => up _ _ (Ne.symm P.Sa1) q⟩
    st2 := ⟨e2.1.keep fun o q => up _ _ (Ne.symm P.Si2) q, by
      cases b2 with
      | true => exact Heap.IsList.at e2.2 fun o q => up _ _ (Ne.symm P.Sa2) q
      | false => exact Heap.IsTuple.at e2.2 fun o q => up _ _ (Ne.symm P.Sa2) q⟩
    zz := .inr (by
      obtain ⟨T, f, oT, q1, q2, n1, n2, n3, n4, n5⟩ := zz
      exact ⟨T, f, oT, up _ _ (Ne.symm P.Sz) q1, up _ _ n5 q2, n1, n2, n3, n4, n5⟩)
    lst := ⟨_, Heap.get?_update_self _ hS' rfl⟩
    toz := let ⟨o, q⟩ := tz; ⟨o, up _ _ (Ne.symm P.STO) q⟩
    ac := by rw [Array.toList_push, Z.ac, List.map_append]; rfl
    ln := by rw [List.length_append, Z.ln]; rfl
    nd := by
      refine List.nodup_append.mpr ⟨Z.nd, by simp, fun a ha b hb => ?_⟩
      rw [List.mem_singleton.mp hb]
      obtain ⟨j, hj⟩ := List.mem_iff_getElem?.mp ha
      exact Nat.ne_of_lt (Z.tup j a hj).2.1
    tup := fun j T hj => by
      by_cases hl : j < Ts.length
      · rw [List.getElem?_append_left hl] at hj
        obtain ⟨q1, q2, n1, n2, n3, n4, n5, x', y', u1, u2, u3⟩ := Z.tup j T hj
        exact ⟨q1, by rw [hsz]; exact Nat.lt_succ_of_lt q2, n1, n2, n3, n4, n5, x', y', u1, u2, up _ _ n5 (hk _ _ n1 n2 n3 n4 u3)⟩
      · rw [List.getElem?_append_right (by omega)] at hj
        have j0 : j - Ts.length = 0 := by
          have := (List.getElem?_eq_some_iff.mp hj).1
          rw [List.length_singleton] at this
          omega
        rw [j0] at hj
        cases hj
        have ji : j = i := by have := Z.ln; omega
        subst ji
        exact ⟨Nat.le_trans P.z0 (Nat.le_of_lt sz), by rw [hsz]; exact Nat.lt_succ_self _, Nat.ne_of_gt sz, Nat.ne_of_gt sTO, Nat.ne_of_gt si1, Nat.ne_of_gt si2, nS, x, y, hx, hy, up _ _ nS new⟩
    kp := fun b o e => by
      have bl := Heap.lt_size e
      have ne : ∀ {q : Addr}, h0.objs.size ≤ q → b ≠ q := fun g => Nat.ne_of_lt (Nat.lt_of_lt_of_le bl g)
      exact up _ _ (ne P.S0) (hk _ _ (ne P.z0) (ne P.to0) (ne P.i10) (ne P.i20) (Z.kp b o e)) }
/-- the loop -/
theorem zl_loop (hh : A.handled = none) (P : ZSep h0 z TI TO i1 i2 a1 a2 S) (res : Value) (n : Nat) (hn : n = min its1.size its2.size) (hz : n ≤ sizeLine) :
    ∀ (k i : Nat) (s : Shared) (Ts : List Addr) (acc : Array Value), n - i = k → i ≤ n → ZL h0 s.heap z TI TO i1 i2 a1 a2 S b1 b2 its1 its2 i Ts acc →
    (∀ h' tk Ts' acc', ZL h0 h' z TI TO i1 i2 a1 a2 S b1 b2 its1 its2 n Ts' acc' ∨ (∃ h2, ZL h0 h2 z TI TO i1 i2 a1 a2 S b1 b2 its1 its2 n Ts' acc' ∧ ∀ c o, c ≠ z → c ≠ TO → c ≠ i1 → c ≠ i2 → h2.get? c = some o → h'.get? c = some o) → R (.ok (.ret res)) { s with heap := h', toks := tk }) →
    codeAny (model prog w) A (.builtin "list.extend.loop" ⟨[.ref S, .ref z, res], []⟩) R s := by
  intro k
  induction k with
  | zero =>
    intro i s Ts acc hk hi Z hR
    have hin : i = n := by omega
    subst hin
    refine codeAny_builtin F.entry_extend_loop ?_
    rw [Around.under_plainId F.plain_extend_loop _]
    show wpAny _ A.in1 (pyNext (.ref z) >>= _) _ _ s
    refine wpAny_bind ?_
    rcases Z.zz with ⟨q, x, y, t⟩ | ⟨T, f, oT, q, qT, n1, n2, n3, n4, n5⟩
    · refine wpAny_pyNext_zipD2_end P.sp (draws b1 (A := A.in1.in1) hh i1 a1 P.a1i its1) (draws b2 (A := A.in1.in1) hh i2 a2 P.a2i its2) q Z.hTI t Z.st1 Z.st2 (by omega) (by omega) (by omega) fun h' tk hk' => ?_
      exact wpAny_pure (hR h' tk Ts acc (.inr ⟨_, Z, hk'⟩))
    · refine pyNext_zipD2_end_held P.sp (draws b1 (A := A.in1.in1) hh i1 a1 P.a1i its1) (draws b2 (A := A.in1.in1) hh i2 a2 P.a2i its2) q qT Z.hTI Z.st1 Z.st2 (by omega) (by omega) (by omega) fun h' tk hk' => ?_
      exact wpAny_pure (hR h' tk Ts acc (.inr ⟨_, Z, fun c o c1 _ c3 c4 e => hk' c o c1 c3 c4 e⟩))
  | succ k ih =>
    intro i s Ts acc hk hi Z hR
    have hlt : i < n := by omega
    refine codeAny_builtin F.entry_extend_loop ?_
    rw [Around.under_plainId F.plain_extend_loop _]
    show wpAny _ A.in1 (pyNext (.ref z) >>= _) _ _ s
    have acs := Z.ac_size
    have fin : ∀ (x y : Value) (h' : Heap) (tk : Nat), ZL h0 (h'.update S (Obj.mapSeq (·.push (.ref s.heap.objs.size)))) z TI TO i1 i2 a1 a2 S b1 b2 its1 its2 (i + 1) (Ts ++ [s.heap.objs.size]) (acc.push (.ref s.heap.objs.size)) →
        (∃ c, h'.get? S = some (lstO acc c)) →
        wpAny (model prog w) A.in1 (updateSeq S (·.push (.ref s.heap.objs.size)) >>= fun _ => again (.builtin "list.extend.loop" ⟨[.ref S, .ref z, res], []⟩))
          (fun fin s' => match fin with | .done f => R (.ok f) s' | .again c' => c'.quiet = true ∧ codeAny (model prog w) A c' R s') (fun e s' => R (.error e) s') { s with heap := h', toks := tk } := fun x y h' tk Z' ⟨c, hS'⟩ => by
      refine wpAny_bind ?_
      refine wpAny_updateSeq hS' rfl (wpAny_pure ⟨plainId_quiet F.plain_extend_loop _, ih (i + 1) _ _ _ (by omega) hlt Z' fun h2 tk2 Ts2 acc2 hZ2 => hR h2 tk2 Ts2 acc2 hZ2⟩)
        (by rw [acs]; omega) (by show (acc.push (.ref s.heap.objs.size)).size ≤ sizeLine + 1; rw [Array.size_push, acs]; omega)
    refine wpAny_bind ?_
    obtain ⟨c, lst⟩ := Z.lst
    have lt : ∀ {b o}, s.heap.get? b = some o → s.heap.objs.size ≠ b := fun e => Nat.ne_of_gt (Heap.lt_size e)
    have nz : s.heap.objs.size ≠ z := by rcases Z.zz with ⟨q, _⟩ | ⟨T, f, oT, q, _⟩ <;> exact lt q
    have nTO : s.heap.objs.size ≠ TO := let ⟨_, q⟩ := Z.toz; lt q
    have n1' : s.heap.objs.size ≠ i1 := let ⟨_, q, _⟩ := Z.st1.1.obj; lt q
    have n2' : s.heap.objs.size ≠ i2 := let ⟨_, q, _⟩ := Z.st2.1.obj; lt q
    rcases Z.zz with ⟨q, x, y, t⟩ | ⟨T, f, oT, q, qT, n1, n2, n3, n4, n5⟩
    · refine wpAny_pyNext_zipD2_item P.sp (draws b1 (A := A.in1.in1) hh i1 a1 P.a1i its1) (draws b2 (A := A.in1.in1) hh i2 a2 P.a2i its2) q Z.hTI t Z.st1 Z.st2 (by omega) (by omega) fun x1 x2 h' tk p1 p2 z' TO' s1' s2' hT' hsz hk' => ?_
      refine fin x1 x2 h' tk (ZL.next P Z p1 p2 ⟨s.heap.objs.size, false, _, z', hT', nz, nTO, n1', n2', lt lst⟩ ⟨_, TO'⟩ s1' s2' hT' hsz hk') ⟨c, hk' S _ P.Sz P.STO P.Si1 P.Si2 lst⟩
    · refine pyNext_zipD2_item_held P.sp (draws b1 (A := A.in1.in1) hh i1 a1 P.a1i its1) (draws b2 (A := A.in1.in1) hh i2 a2 P.a2i its2) q qT Z.hTI Z.st1 Z.st2 (by omega) (by omega) fun x1 x2 h' tk p1 p2 z' s1' s2' hT' hsz hk' => ?_
      obtain ⟨oO, hO⟩ := Z.toz
      refine fin x1 x2 h' tk (ZL.next P Z p1 p2 ⟨T, true, oT, z', hk' _ _ n1 n3 n4 qT, n1, n2, n3, n4, n5⟩ ⟨_, hk' _ _ P.sp.TOz P.sp.Ti1 P.sp.Ti2 hO⟩ s1' s2' hT' hsz fun c o c1 _ c3 c4 e => hk' c o c1 c3 c4 e) ⟨c, hk' S _ P.Sz P.Si1 P.Si2 lst⟩
theorem ZL.other {h h' : Heap} {i : Nat} {Ts : List Addr} {acc : Array Value} (P : ZSep h0 z TI TO i1 i2 a1 a2 S) (Z : ZL h0 h z TI TO i1 i2 a1 a2 S b1 b2 its1 its2 i Ts acc) (hs : h'.objs.size = h.objs.size)
    (k : ∀ b o, b ≠ S → h.get? b = some o → h'.get? b = some o) (l : ∃ c, h'.get? S = some (lstO acc c)) : ZL h0 h' z TI TO i1 i2 a1 a2 S b1 b2 its1 its2 i Ts acc where
  hTI := k _ _ (Ne.symm P.STI) Z.hTI
  st1 := ⟨Z.st1.1.keep fun o q => k _ _ (Ne.symm P.Si1) q, by
      cases b1 with
      | true => exact Heap.IsList.at Z.st1.2 fun o q => k _ _ (Ne.symm P.Sa1) q
      | false => exact Heap.IsTuple.at Z.st1.2 fun o q => k _ _ (Ne.symm P.Sa1) q⟩
  st2 := ⟨Z.st2.1.keep fun o q => k _ _ (Ne.symm P.Si2) q, by
      cases b2 with
      | true => exact Heap.IsList.at Z.st2.2 fun o q => k _ _ (Ne.symm P.Sa2) q
      | false => exact Heap.IsTuple.at Z.st2.2 fun o q => k _ _ (Ne.symm P.Sa2) q⟩
  zz := by
    rcases Z.zz with ⟨q, x, y, t⟩ | ⟨T, f, oT, q1, q2, n1, n2, n3, n4, n5⟩
    · exact .inl ⟨k _ _ (Ne.symm P.Sz) q, x, y, k _ _ (Ne.symm P.STO) t⟩
    · exact .inr ⟨T, f, oT, k _ _ (Ne.symm P.Sz) q1, k _ _ n5 q2, n1, n2, n3, n4, n5⟩
  lst := l
  toz := let ⟨o, q⟩ := Z.toz; ⟨o, k _ _ (Ne.symm P.STO) q⟩
  ac := Z.ac
  ln := Z.ln
  nd := Z.nd
  tup := fun j T hj => by
    obtain ⟨q1, q2, n1, n2, n3, n4, n5, x', y', u1, u2, u3⟩ := Z.tup j T hj
    exact ⟨q1, by rw [hs]; exact q2, n1, n2, n3, n4, n5, x', y', u1, u2, k _ _ n5 u3⟩
  kp := fun b o e => k _ _ (Nat.ne_of_lt (Nat.lt_of_lt_of_le (Heap.lt_size e) P.S0)) (Z.kp b o e)
/-- what is there at the end -/
def ZEnd (h0 h : Heap) (S : Addr) (its1 its2 : Array Value) (n : Nat) : Prop := ∃ (Ts : List Addr) (acc : Array Value) (c : Nat), h.get? S = some (lstO acc c) ∧ acc.toList = Ts.map .ref ∧ Ts.length = n ∧ Ts.Nodup ∧ S ∉ Ts ∧ h0.objs.size ≤ S ∧ (∀ b o, h0.get? b = some o → h.get? b = some o) ∧
  ∀ (j : Nat) (T : Addr), Ts[j]? = some T → h0.objs.size ≤ T ∧ ∃ x y, its1[j]? = some x ∧ its2[j]? = some y ∧ IsTupOf2 h T x y
theorem ZL.end {h h2 : Heap} {n : Nat} {Ts : List Addr} {acc : Array Value} (P : ZSep h0 z TI TO i1 i2 a1 a2 S) (Z : ZL h0 h z TI TO i1 i2 a1 a2 S b1 b2 its1 its2 n Ts acc)
    (k : ∀ c o, c ≠ z → c ≠ TO → c ≠ i1 → c ≠ i2 → h.get? c = some o → h2.get? c = some o) : ZEnd h0 h2 S its1 its2 n := by
  obtain ⟨c, l⟩ := Z.lst
  have ne : ∀ {b q : Addr} {o}, h0.get? b = some o → h0.objs.size ≤ q → b ≠ q := fun e g => Nat.ne_of_lt (Nat.lt_of_lt_of_le (Heap.lt_size e) g)
  refine ⟨Ts, acc, c, k _ _ P.Sz P.STO P.Si1 P.Si2 l, Z.ac, Z.ln, Z.nd, fun m => ?_, P.S0, fun b o e => k _ _ (ne e P.z0) (ne e P.to0) (ne e P.i10) (ne e P.i20) (Z.kp b o e), fun j T hj => ?_⟩
  · obtain ⟨j, hj⟩ := List.mem_iff_getElem?.mp m
    obtain ⟨_, _, _, _, _, _, n5, _⟩ := Z.tup j S hj
    exact n5 rfl
  · obtain ⟨q1, q2, n1, n2, n3, n4, n5, x', y', u1, u2, u3⟩ := Z.tup j T hj
    exact ⟨q1, x', y', u1, u2, k _ _ n1 n2 n3 n4 u3⟩
theorem zl_extend {s : Shared} {acc : Array Value} (hh : A.handled = none) (P : ZSep h0 z TI TO i1 i2 a1 a2 S) (res : Value) (n : Nat) (hn : n = min its1.size its2.size) (hz : n ≤ sizeLine)
    (Z : ZL h0 s.heap z TI TO i1 i2 a1 a2 S b1 b2 its1 its2 0 [] #[]) (hZ : IsZip s.heap z TI TO .none)
    (hR : ∀ h' tk, ZEnd h0 h' S its1 its2 n → R (.ok (.ret res)) { s with heap := h', toks := tk }) :
    wpAny (model prog w) A.in1 (Builtin.List.listExtendWith (.ref S) (.ref z) res)
      (fun fin s' => match fin with | .done f => R (.ok f) s' | .again c' => c'.quiet = true ∧ codeAny (model prog w) A c' R s') (fun e s' => R (.error e) s') s := by
  have hTy : s.TypeIs (.ref z) "zip" := ⟨_, hZ, rfl⟩
  have key : ∀ (h : Heap) (tk : Nat), ZL h0 h z TI TO i1 i2 a1 a2 S b1 b2 its1 its2 0 [] #[] → codeAny (model prog w) A (.builtin "list.extend.loop" ⟨[.ref S, .ref z, res], []⟩) R { s with heap := h, toks := tk } := fun h tk Z' => by
    refine zl_loop hh P res n hn hz n 0 _ [] #[] rfl (Nat.zero_le _) Z' fun h' tk' Ts' acc' hz' => ?_
    refine hR h' tk' ?_
    rcases hz' with q | ⟨h2, q, k⟩
    · exact q.end P fun c o _ _ _ _ e => e
    · exact q.end P k
  obtain ⟨c, lst⟩ := Z.lst
  unfold Builtin.List.listExtendWith
  refine wpAny_bind (wpAny_typeOf (T := "zip") hTy ?_)
  have h1 : Builtin.List.listSameRef (.ref S) (.ref z) = false := by simp [Builtin.List.listSameRef, P.Sz]
  have h2 : (Value.type "zip" == Value.type "list") = false := by decide
  have h3 : (Value.type "zip" == Value.type "tuple") = false := by decide
  simp only [h1, h2, h3, Bool.or_false, Bool.false_eq_true, if_false]
  refine wpAny_bind (wpAny_pyIter_zip hZ ?_)
  refine wpAny_bind (wpAny_holding (zip_hint hTy ?_))
  refine wpAny_ite_split (fun _ => ?_) (fun hab => absurd rfl hab)
  refine wpAny_bind (wpAny_rule ?_)
  refine wpAny_bind ?_
  show wpAny _ _ (updateSeq S (·.push .none) >>= fun _ => updateSeq S (·.pop)) _ _ _
  refine wpAny_bind (wpAny_updateSeq lst rfl ?_)
  have hS₂ := Heap.get?_update_self (Obj.mapSeq (·.push Value.none)) lst rfl
  refine wpAny_updateSeq (hz := by seq_fits) hS₂ rfl ?_
  have hS₃ := Heap.get?_update_self (Obj.mapSeq (·.pop)) hS₂ rfl
  refine wpAny_pure ⟨plainId_quiet F.plain_extend_loop _, key _ _ (Z.other P ((Heap.SameBut.update ..).1.trans (Heap.SameBut.update ..).1) (fun b o hb e => ?_) ⟨_, hS₃⟩)⟩
  exact (Heap.get?_update_other _ _ (Ne.symm hb)).trans ((Heap.get?_update_other _ _ (Ne.symm hb)).trans e)
/-- list(z) of a zip that nobody has walked yet -/
theorem zl_call {s : Shared} {E : Value → Shared → Prop} {Q : Value → Shared → Prop} (hh : A.handled = none) (n : Nat) (hn : n = min its1.size its2.size) (hz : n ≤ sizeLine)
    (sp : ZipSep2 z TI TO i1 i2 [i1, a1] [i2, a2]) (z0 : h0.objs.size ≤ z) (to0 : h0.objs.size ≤ TO) (i10 : h0.objs.size ≤ i1) (i20 : h0.objs.size ≤ i2) (n1 : a1 ≠ i1) (n2 : a2 ≠ i2)
    (hZ : IsZip s.heap z TI TO .none) (hTI : IsTupOf2 s.heap TI (.ref i1) (.ref i2)) (hTO : ∃ x y, IsTupOf2 s.heap TO x y) (st1 : HIt b1 s.heap i1 a1 0 ∧ HIs b1 s.heap a1 its1) (st2 : HIt b2 s.heap i2 a2 0 ∧ HIs b2 s.heap a2 its2)
    (kp : ∀ b o, h0.get? b = some o → s.heap.get? b = some o)
    (hQ : ∀ S h' tk, ZEnd h0 h' S its1 its2 n → Q (.ref S) { s with heap := h', toks := tk }) : wpAny (model prog w) A (call (.type "list") [.ref z]) Q E s := by
  refine callType_codes (Q₁ := fun obj s₁ => obj = .ref s.heap.objs.size ∧ s₁ = { s with heap := s.heap.push { cls := .type "list", data := .seq #[] } }) F.called_list (F.typeCall_list_1 _) F.entry_list_init
    (code_list_new _ ⟨rfl, rfl⟩) fun obj s₁ h₁ => ?_
  obtain ⟨rfl, rfl⟩ := h₁
  have hS : (s.heap.push { cls := .type "list", data := .seq #[] }).get? s.heap.objs.size = some { cls := .type "list", data := .seq #[] } := Heap.get?_push_size _ rfl
  refine ⟨⟨_, hS, rfl⟩, F.args_list_init_2 _ _, ?_⟩
  have lt : ∀ {b o}, s.heap.get? b = some o → s.heap.objs.size ≠ b := fun e => Nat.ne_of_gt (Heap.lt_size e)
  have ltz : z < s.heap.objs.size := Heap.lt_size hZ
  have P : ZSep h0 z TI TO i1 i2 a1 a2 s.heap.objs.size := {
    sp := sp, z0 := z0, to0 := to0, i10 := i10, i20 := i20, S0 := Nat.le_trans z0 (Nat.le_of_lt ltz)
    Sz := lt hZ, STI := lt hTI, STO := let ⟨_, _, q⟩ := hTO; lt q
    Si1 := let ⟨_, q, _⟩ := st1.1.obj; lt q, Si2 := let ⟨_, q, _⟩ := st2.1.obj; lt q
    Sa1 := Nat.ne_of_gt st1.2.lt, Sa2 := Nat.ne_of_gt st2.2.lt, a1i := n1, a2i := n2 }
  have pu : ∀ {b o}, s.heap.get? b = some o → (s.heap.push { cls := .type "list", data := .seq #[] }).get? b = some o := fun e => Heap.get?_push_of_some _ e
  show wpAny _ _ (do let old ← Builtin.List.listItems (.ref s.heap.objs.size); Builtin.List.listUpdate (.ref s.heap.objs.size) (fun _ => #[]); letGo old.toList.reverse; Builtin.List.listExtendWith (.ref s.heap.objs.size) (.ref z) .none) _ _ _
  refine wpAny_bind ?_
  unfold Builtin.List.listItems
  refine wpAny_bind (wpAny_seqItems hS rfl (wpAny_pure ?_))
  show wpAny _ _ (updateSeq s.heap.objs.size (fun _ => #[]) >>= fun _ => letGo (#[] : Array Value).toList.reverse >>= fun _ => Builtin.List.listExtendWith (.ref s.heap.objs.size) (.ref z) .none) _ _ _
  refine wpAny_bind (wpAny_updateSeq hS rfl ?_)
  have hS₂ := Heap.get?_update_self (Obj.mapSeq (fun _ => (#[] : Array Value))) hS rfl
  have oth : ∀ b o, b ≠ s.heap.objs.size → s.heap.get? b = some o → ((s.heap.push { cls := .type "list", data := .seq #[] }).update s.heap.objs.size (Obj.mapSeq (fun _ => (#[] : Array Value)))).get? b = some o :=
    fun b o hb e => (Heap.get?_update_other _ _ (Ne.symm hb)).trans (pu e)
  refine wpAny_bind (wpAny_letGo ?_)
  have Z : ZL h0 ((s.heap.push { cls := .type "list", data := .seq #[] }).update s.heap.objs.size (Obj.mapSeq (fun _ => (#[] : Array Value)))) z TI TO i1 i2 a1 a2 s.heap.objs.size b1 b2 its1 its2 0 [] #[] := {
    hTI := oth _ _ (Ne.symm P.STI) hTI
    st1 := ⟨st1.1.keep fun o q => oth _ _ (Ne.symm P.Si1) q, by
      cases b1 with
      | true => exact Heap.IsList.at st1.2 fun o q => oth _ _ (Ne.symm P.Sa1) q
      | false => exact Heap.IsTuple.at st1.2 fun o q => oth _ _ (Ne.symm P.Sa1) q⟩
    st2 := ⟨st2.1.keep fun o q => oth _ _ (Ne.symm P.Si2) q, by
      cases b2 with
      | true => exact Heap.IsList.at st2.2 fun o q => oth _ _ (Ne.symm P.Sa2) q
      | false => exact Heap.IsTuple.at st2.2 fun o q => oth _ _ (Ne.symm P.Sa2) q⟩
    zz := .inl ⟨oth _ _ (Ne.symm P.Sz) hZ, let ⟨x, y, q⟩ := hTO; ⟨x, y, oth _ _ (Ne.symm P.STO) q⟩⟩
    lst := ⟨_, hS₂⟩
    toz := let ⟨x, y, q⟩ := hTO; ⟨_, oth _ _ (Ne.symm P.STO) q⟩
    ac := rfl
    ln := rfl
    nd := List.nodup_nil
    tup := fun j T hj => nomatch hj
    kp := fun b o e => oth _ _ (Nat.ne_of_lt (Nat.lt_of_lt_of_le (Heap.lt_size e) P.S0)) (kp b o e) }
  refine zl_extend (A := A.in1) (a1 := a1) (a2 := a2) (b1 := b1) (b2 := b2) (acc := #[]) hh P .none n hn hz ?_ ?_ fun h' tk ze => ?_
  · exact Z
  · exact oth _ _ (Ne.symm P.Sz) hZ
  · exact ⟨rfl, hQ _ h' tk ze⟩
end
end Pv
namespace Pv
open PySem PySem.Spec PyProof.Rows L2
/-- tuples of two laid at Ts -/
def layT (H : Hp) : List Addr → List (V × V) → Hp
  | T :: r, (x, y) :: q => layT (upd H T (.tup [x, y])) r q
  | _, _ => H
theorem layT_ne : ∀ {Ts : List Addr} {ps : List (V × V)} {H : Hp} {a : Addr}, a ∉ Ts → layT H Ts ps a = H a
  | [], ps, H, a, _ => by unfold layT; rfl
  | T :: r, [], H, a, _ => by unfold layT; rfl
  | T :: r, (x, y) :: q, H, a, h => by
    unfold layT
    rw [layT_ne fun z => h (List.mem_cons_of_mem _ z), upd_ne fun z => h (by rw [z]; exact List.mem_cons_self)]
theorem layT_ok {P : Program} {w : World} {h : Heap} : ∀ {Ts : List Addr} {ps : List (V × V)} {H : Hp}, HOk P w H h → Ts.length = ps.length → Ts.Nodup → (∀ T ∈ Ts, H T = none) →
    (∀ (j : Nat) (T : Addr) (x y : V), Ts[j]? = some T → ps[j]? = some (x, y) → ∃ u v, RelV x u ∧ RelV y v ∧ IsTupOf2 h T u v) → HOk P w (layT H Ts ps) h
  | [], ps, H, ok, _, _, _, _ => by unfold layT; exact ok
  | T :: r, [], H, ok, e, _, _, _ => by cases e
  | T :: r, (x, y) :: q, H, ok, e, nd, fr, g => by
    unfold layT
    obtain ⟨u, v, r1, r2, t⟩ := g 0 T x y rfl rfl
    have nd' := List.nodup_cons.mp nd
    refine layT_ok (HOk.laidN ok (fun _ _ z => z) (fr T List.mem_cons_self) (show ObjOk P w _ h T (.tup [x, y]) from ⟨by show 2 ≤ sizeLine; decide, [u, v], .cons r1 (.cons r2 .nil), ⟨_, t, rfl, _, rfl⟩⟩)) (by simpa using e) nd'.2 (fun T' h' => ?_) fun j T' x' y' h1 h2 => g (j + 1) T' x' y' h1 h2
    rw [upd_ne fun z => nd'.1 (by rw [← z]; exact h')]
    exact fr T' (List.mem_cons_of_mem _ h')
theorem laidMany {X : Cx} {pins : List (Addr × Obj)} {σ : L2.St} {H H' : Hp} {s : Shared} {h' : Heap} {t' : Nat} (I : L2.Inv X pins σ H s) (k : ∀ b u, s.heap.get? b = some u → h'.get? b = some u) (ag : ∀ b, b < s.heap.objs.size → H' b = H b)
    (ok : HOk X.prog X.w H' h') : L2.Inv X pins σ H' { s with heap := h', toks := t' } := by
  have on : ∀ {b o}, H b = some o → H' b = some o := fun {b o} e => (ag b (I.hok.lt e)).trans e
  exact I.un ⟨fun b o e _ _ _ => k b o e, fun b o e _ _ _ => ⟨o.slots, k b o e⟩, fun b o e n _ => (ag b (Heap.lt_size e)).trans n, fun b o e _ => ⟨o, k b o e⟩, fun _ _ e => on e, fun _ _ _ e => on e, fun _ ps e => ⟨#[], by rw [on e]; simp⟩⟩ ok
def tLzp (K : PySem.W.Frag) (ta : TA) : TE := fun σ H Q => ta σ H fun vs H1 => ∃ a1 a2 b1 b2 xs ys, vs = [.ref a1, .ref a2] ∧ Sq K b1 H1 a1 xs ∧ Sq K b2 H1 a2 ys ∧
  ∀ (Ts : List Addr) (S : Addr), Ts.length = (List.zip xs ys).length → Ts.Nodup → (∀ T ∈ Ts, H1 T = none) → S ∉ Ts → H1 S = none → Q (.ref S) (upd (layT H1 Ts (List.zip xs ys)) S (.lst (Ts.map .ref)))
theorem refs_vals : ∀ Ts : List Addr, Vals (Ts.map V.ref) (Ts.map Value.ref)
  | [] => .nil
  | T :: r => .cons rfl (refs_vals r)
theorem pe_lzp {X : Cx} {e e2 : Expr} {ta : TA} {p pos p2 pos2 : Pos} (hc : X.calm = true) (hgl : Gl X "list") (hl : X.mg "list" = none) (hg : Gl X "zip") (hm : X.mg "zip" = none) (ha : PA X [e, e2] ta)
    (hs : starEach [e, e2] X.env = (false, eval e X.env) :: starEach [e2] X.env := by rfl) (hpl : (backTo pos2 (starEach [e2] X.env)).any (·.1) = false := by rfl)
    (na : starEach [.Call (.Name "zip" p2) [e, e2] [] pos2] X.env = (false, eval (.Call (.Name "zip" p2) [e, e2] [] pos2) X.env) :: starEach [] X.env := by rfl) :
    PE X (.Call (.Name "list" p) [.Call (.Name "zip" p2) [e, e2] [] pos2] [] pos) (tLzp X.K ta) := by
  refine ⟨fun pins s σ H Q I hyp => ?_⟩
  refine Call_ (ld_blt I hgl hl boot_list (PyProof.Rows.callWith_type1 (args_cons ?_ na) na))
  refine Call_ (ld_blt I hg hm PyProof.Rows.boot_zip (PyProof.Rows.callWith_type1 (thn (ha.run pos2 pins s σ H _ I hyp) fun us s1 ⟨vs, H1, I1, r1, a1, a2, b1, b2, xs, ys, ex, hqx, hqy, q⟩ => ?_) hs hpl))
  subst ex
  cases r1 with
  | cons r rr =>
    cases rr with
    | cons r' rr =>
      cases rr
      cases r
      cases r'
      obtain ⟨its, rv, p1, sz1⟩ := inv_sq I1 hqx
      obtain ⟨its2, rv2, p2, _⟩ := inv_sq I1 hqy
      have l1 := p1.lt
      have l2 := p2.lt
      refine zip_begins2 (beg b1 a1 its.toArray) (beg b2 a2 its2.toArray) p1 p2 fun h' hz hTI hTO g1 g2 hsz hk => ?_
      have sep : ZipSep2 (s1.heap.objs.size + 4) (s1.heap.objs.size + 2) (s1.heap.objs.size + 3) s1.heap.objs.size (s1.heap.objs.size + 1) [s1.heap.objs.size, a1] [s1.heap.objs.size + 1, a2] :=
        zip_sep2 (fp1 := [a1]) (fp2 := [a2]) (fun c hc => by rw [List.mem_singleton.mp hc]; exact l1) (fun c hc => by rw [List.mem_singleton.mp hc]; exact l2)
      refine args_nil ?_
      have isl : ∀ {b : Bool} {a : Addr} {it : List Value}, HIs b s1.heap a it.toArray → HIs b h' a it.toArray := fun {b a it} e => by
        cases b with
        | true => exact Heap.IsList.at e fun o q => hk _ _ q
        | false => exact Heap.IsTuple.at e fun o q => hk _ _ q
      refine zl_call (h0 := s1.heap) (s := { s1 with heap := h' }) (I1.ok.hd hc) _ rfl ?_ sep (Nat.le_add_right _ _) (Nat.le_add_right _ _) (Nat.le_refl _) (Nat.le_add_right _ _) (Nat.ne_of_lt l1) (Nat.ne_of_lt (Nat.lt_succ_of_lt l2)) hz hTI ⟨_, _, hTO⟩ ⟨HIt.first g1, isl p1⟩ ⟨HIt.first g2, isl p2⟩ hk ?_
      · rw [List.size_toArray, ← rv.length]
        exact Nat.le_trans (Nat.min_le_left _ _) sz1
      · intro S h2 tk ⟨Ts, acc, c, hl2, ac, ln, nd, nS, S0, kp, tup⟩
        have fr : ∀ T ∈ Ts, s1.heap.objs.size ≤ T := fun T hT => by
          obtain ⟨j, hj⟩ := List.mem_iff_getElem?.mp hT
          exact (tup j T hj).1
        have lz : Ts.length = (List.zip xs ys).length := by
          rw [ln, List.length_zip, List.size_toArray, List.size_toArray, rv.length, rv2.length]
        have hS : H1 S = none := I1.hok.fresh S0
        have hT : ∀ T ∈ Ts, H1 T = none := fun T h => I1.hok.fresh (fr T h)
        have ok1 : HOk X.prog X.w (layT H1 Ts (List.zip xs ys)) h2 := layT_ok (I1.hok.kept kp) lz nd hT fun j T x y h1 h3 => by
          obtain ⟨_, u, v, e1, e2, t⟩ := tup j T h1
          obtain ⟨hx, hy⟩ := List.getElem?_zip_eq_some.mp h3
          obtain ⟨u', hu, ru⟩ := rv.get hx
          obtain ⟨v', hv, rv'⟩ := rv2.get hy
          rw [List.getElem?_toArray, hu] at e1
          rw [List.getElem?_toArray, hv] at e2
          cases e1
          cases e2
          exact ⟨_, _, ru, rv', t⟩
        have hS2 : layT H1 Ts (List.zip xs ys) S = none := (layT_ne nS).trans hS
        have lnS : (Ts.map V.ref).length ≤ sizeLine := by
          rw [List.length_map, lz, List.length_zip]
          exact Nat.le_trans (Nat.min_le_left _ _) sz1
        have ok2 : HOk X.prog X.w (upd (layT H1 Ts (List.zip xs ys)) S (.lst (Ts.map .ref))) h2 :=
          HOk.laidN ok1 (fun _ _ z => z) hS2 (show ObjOk X.prog X.w _ h2 S (.lst (Ts.map .ref)) from ⟨lnS, acc.toList, c, by rw [ac]; exact refs_vals Ts, by rw [Array.toArray_toList]; exact hl2⟩)
        refine ⟨.ref S, _, ?_, rfl, q Ts S lz nd hT nS hS⟩
        exact laidMany (s := s1) (h' := h2) (t' := tk) I1 kp (fun b hb => by
          rw [upd_ne (Nat.ne_of_lt (Nat.lt_of_lt_of_le hb S0))]
          exact layT_ne fun m => absurd (Nat.lt_of_lt_of_le hb (fr b m)) (Nat.lt_irrefl _)) ok2
theorem layT_st {K : PySem.W.Frag} {f : Fm} {s : S} {σ : L2.St} : ∀ {xs ys : List D} {vs us : List V} {Ts : List Addr} {w : Wd} {H : Hp}, StOk K f w s σ H → RepAll K w xs vs → RepAll K w ys us → Ts.length = (List.zip vs us).length → Ts.Nodup → (∀ T ∈ Ts, H T = none) →
    ∃ w', Ext w w' ∧ StOk K f w' s σ (layT H Ts (List.zip vs us)) ∧ RepAll K w' (zpD xs ys) (Ts.map .ref)
  | [], ys, vs, us, Ts, w, H, st, r1, r2, e, _, _ => by
    have : vs = [] := r1
    subst this
    have e' : Ts = [] := List.length_eq_zero_iff.mp e
    subst e'
    exact ⟨w, Ext.refl w, by unfold layT; exact st, rfl⟩
  | x :: xs, [], vs, us, Ts, w, H, st, r1, r2, e, _, _ => by
    have : us = [] := r2
    subst this
    rw [List.zip_nil_right] at e ⊢
    have e' : Ts = [] := List.length_eq_zero_iff.mp e
    subst e'
    exact ⟨w, Ext.refl w, by unfold layT; exact st, rfl⟩
  | x :: xs, y :: ys, vs, us, Ts, w, H, st, r1, r2, e, nd, fr => by
    obtain ⟨v, vs', rfl, rv, r1'⟩ := r1
    obtain ⟨u, us', rfl, ru, r2'⟩ := r2
    cases Ts with
    | nil => cases e
    | cons T r =>
      have nd' := List.nodup_cons.mp nd
      have hT := fr T List.mem_cons_self
      have ee : Ext w (w.put T (.tup [v, u])) := ext_put (st.freshF hT)
      obtain ⟨w', e1, st', rr⟩ := layT_st (st.put (o := .tup [v, u]) hT) (RepAll.mono ee r1') (RepAll.mono ee r2') (Ts := r) (by simpa using e) nd'.2 fun T' h' => by
        rw [upd_ne fun z => nd'.1 (by rw [← z]; exact h')]
        exact fr T' (List.mem_cons_of_mem _ h')
      refine ⟨w', ee.trans e1, st', ?_⟩
      exact ⟨.ref T, r.map .ref, rfl, Rep.mono e1 (⟨T, [v, u], rfl, .inl (.inl Wd.put_at), ⟨v, [u], rfl, Rep.mono ee rv, ⟨u, [], rfl, Rep.mono ee ru, rfl⟩⟩⟩ : Rep K (w.put T (.tup [v, u])) (.tup [x, y]) (.ref T)), rr⟩
theorem f_lzp {X : Cx} {W : WX} {a b : Expr} {p pos p2 pos2 : Pos} {ma mb : M D} (hc : X.calm = true) (hgl : Gl X "list") (hl : X.mg "list" = none) (hgz : Gl X "zip") (hz : X.mg "zip" = none) (ha : PE X a (tM X.K W ma)) (hb : PE X b (tM X.K W mb))
    (hs : starEach [a, b] X.env = (false, eval a X.env) :: starEach [b] X.env := by rfl) (hs2 : starEach [b] X.env = (false, eval b X.env) :: starEach [] X.env := by rfl) (hpl : (backTo pos2 (starEach [b] X.env)).any (·.1) = false := by rfl)
    (na : starEach [.Call (.Name "zip" p2) [a, b] [] pos2] X.env = (false, eval (.Call (.Name "zip" p2) [a, b] [] pos2) X.env) :: starEach [] X.env := by rfl) :
    PE X (.Call (.Name "list" p) [.Call (.Name "zip" p2) [a, b] [] pos2] [] pos) (tF X.K W (mLzp ma mb)) := by
  refine pe_imp (pe_lzp hc hgl hl hgz hz (pa_cons ha (pa_cons hb pa_nil hs2) hs) hs hpl na) fun σ H Q ⟨f, w, s, st, q⟩ => ⟨f, w, s, st, Po.thn q fun x w1 s1 v H1 e1 st1 r1 p1 => ⟨f, w1, s1, st1, Po.thn p1 fun y w2 s2 u H2 e2 st2 r2 p2 => ?_⟩⟩
  cases ex : seqD x with
  | none => rw [ex] at p2; exact p2.elim
  | some bx =>
    cases ey : seqD y with
    | none => rw [ex, ey] at p2; exact p2.elim
    | some by' =>
      obtain ⟨b1, xs⟩ := bx
      obtain ⟨b2, ys⟩ := by'
      rw [ex, ey] at p2
      obtain ⟨a1, vs, rfl, h1, h2⟩ := (Rep.mono e2 r1).sq ex
      obtain ⟨a2, us, rfl, h3, h4⟩ := r2.sq ey
      refine ⟨a1, a2, b1, b2, vs, us, rfl, h1.mono st2.sub, h3.mono st2.sub, fun Ts S lz nd fr nS hS => ?_⟩
      obtain ⟨w3, e3, st3, r3⟩ := layT_st st2 h2 h4 lz nd fr
      exact st3.newF r3 (fun w' H' t e' st' rt => p2 w' H' t (e3.trans e') st' rt) S ((layT_ne nS).trans hS)
end Pv
end PvZ_

section M1_
set_option Elab.async false
set_option linter.all false
set_option maxRecDepth 100000
set_option maxHeartbeats 4000000
namespace K
open PySem PySem.Spec PyProof.Rows L2 Pv
def m_is_number : MS := sRet (mAnd (mB1 (dIsi ["int"]) (lend 0)) (mNot (mB1 (dIsi ["bool"]) (lend 0))))
def F_is_number : Fn := fun ds b => outOf (m_is_number (s0 ["thing"] ds b))
def m_is_within : MS := sRet (mAnd (mCall (F_is_number) (aCons (rd 0) (aNil))) (mB (m3b (dOrd (fun i j => decide (i ≤ j)) fun a b => !strLt b a) (dOrd (fun i j => decide (i ≤ j)) fun a b => !strLt b a) (rd 1) (rd 0) (rd 2))))
def F_is_within : Fn := fun ds b => outOf (m_is_within (s0 ["thing", "least", "most"] ds b))
def cm_tupled_0 (rec : Fn) : M (List D) := mComp (iSeq (rd 0)) (gN 1) (mYes) (mCall (rec) (aCons (rd 1) (aNil))) [1]
def m_tupled (rec : Fn) : MS := sRet (mIf (mT (mB1 (dIsi ["list", "tuple"]) (lend 0))) (mB1 dTuple (mLst (cm_tupled_0 rec))) (rd 0))
def FR_tupled : Nat → Fn
  | 0 => fun _ _ => .no
  | n + 1 => fun ds b => outOf (m_tupled (FR_tupled n) (s0 ["value", "own"] ds b))
def F_tupled : Fn := FR_tupled 85
def lp_power_of_two_0 : MS := sSet 1 (m2 dMul (rd 1) (con (.int 2)))
theorem e_lp_power_of_two_0 {s : S} : lp_power_of_two_0  s = (sSet 1 (m2 dMul (rd 1) (con (.int 2)))) s := rfl
def m_power_of_two : MS := sSeq (sSet 1 (con (.int 1))) (sSeq (sFor (iRg1 (rd 0)) (gN 2) (lp_power_of_two_0 )) (sRet (rd 1)))
def F_power_of_two : Fn := fun ds b => outOf (m_power_of_two (s0 ["many", "found", "turn"] ds b))
def lp_least_terms_0 : MS := sParV 0 1 (mVal (m2 dDiv (rd 0) (con (.int 2)))) (mVal (m2 dSub (rd 1) (con (.int 1))))
theorem e_lp_least_terms_0 {s : S} : lp_least_terms_0  s = (sParV 0 1 (mVal (m2 dDiv (rd 0) (con (.int 2)))) (mVal (m2 dSub (rd 1) (con (.int 1))))) s := rfl
def lp_least_terms_0_c : M Bool := tAndM (m2b (dOrd (fun i j => decide (j < i)) fun a b => strLt b a) (rd 1) (con (.int 0))) (m2b dEq (m2 dMod (rd 0) (con (.int 2))) (con (.int 0)))
theorem e_lp_least_terms_0_c {s : S} : lp_least_terms_0_c  s = (tAndM (m2b (dOrd (fun i j => decide (j < i)) fun a b => strLt b a) (rd 1) (con (.int 0))) (m2b dEq (m2 dMod (rd 0) (con (.int 2))) (con (.int 0)))) s := rfl
def m_least_terms : MS := sSeq (sWhile (lp_least_terms_0_c ) (lp_least_terms_0 ) 200) (sRet (mTup (aCons (rd 0) (aCons (rd 1) (aNil)))))
def F_least_terms : Fn := fun ds b => outOf (m_least_terms (s0 ["above", "power"] ds b))
def cm_is_word_in_0 : M (List D) := mComp (iSeq (rd 0)) (gN 1) (mYes) (mB (m2b (fun x y => (dIn x y).map fun b => if false then !b else b) (rd 1) (mTup (aCons (con (.str (Str.ofString "0"))) (aCons (con (.str (Str.ofString "1"))) (aNil)))))) [1]
def m_is_word_in : MS := sRet (mAnd (mB1 (dIsi ["str"]) (lend 0)) (mB1 dAll (mLst (cm_is_word_in_0 ))))
def F_is_word_in : Fn := fun ds b => outOf (m_is_word_in (s0 ["thing", "sign"] ds b))
def m_does_begin : MS := sRet (mB (m2b dEq (mSl (rd 1) (oNo) (oIn (mB1 dLen (lend 0)))) (rd 0)))
def F_does_begin : Fn := fun ds b => outOf (m_does_begin (s0 ["one", "other"] ds b))
def cm_is_code_in_0 : M (List D) := mComp (iSeq (rd 0)) (gN 3) (mYes) (mCall (F_is_word_in) (aCons (rd 3) (aNil))) [3]
def cm_is_code_in_1 : M (List D) := mComp (iZpM (rd 0) (mSl (rd 0) (oIn (con (.int 1))) (oNo))) (gT 2 (gCons' (gN 1) (gCons' (gN 2) (gNil')))) (mYes) (mAnd (mB (m2b (dOrd (fun i j => decide (i < j)) strLt) (rd 1) (rd 2))) (mNot (mCall (F_does_begin) (aCons (rd 1) (aCons (rd 2) (aNil)))))) [1, 2]
def m_is_code_in : MS := sSeq (sIf (tOrM (tNotM (mT (mB1 (dIsi ["tuple"]) (lend 0)))) (tOrM (m2b dEq (rd 0) (mTup (aNil))) (tNotM (mT (mB1 dAll (mLst (cm_is_code_in_0 ))))))) (sRet (con (.bl false))) (sNx)) (sRet (mB1 dAll (mLst (cm_is_code_in_1 ))))
def F_is_code_in : Fn := fun ds b => outOf (m_is_code_in (s0 ["thing", "one", "other", "own"] ds b))
def cm_sure_code_0 (A : Ad) : M (List D) := mComp (iSeq (rd 1)) (gN 2) (mYes) (mB1 dLen (lend 2)) [2]
def m_sure_code (A : Ad) : MS := sSeq (sSet 1 (mCall (F_tupled) (aCons (rd 0) (aNil)))) (sSeq (sIf (tOrM (tNotM (mT (mCall (F_is_code_in) (aCons (rd 1) (aNil))))) (tOrM (m2b (dOrd (fun i j => decide (j < i)) fun a b => strLt b a) (mB1 dLen (lend 1)) (con (.int 60))) (m2b (dOrd (fun i j => decide (j < i)) fun a b => strLt b a) (mB1 dMax (mLst (cm_sure_code_0 A))) (con (.int 60))))) (sRaise (.pl (.ref A.U))) (sNx)) (sRet (rd 1)))
def F_sure_code (A : Ad) : Fn := fun ds b => outOf (m_sure_code A (s0 ["value", "own", "word"] ds b))
def cm_are_lengths_0 : M (List D) := mComp (iSeq (rd 0)) (gN 1) (mYes) (mCall (F_is_within) (aCons (rd 1) (aCons (con (.int 0)) (aCons (con (.int 60)) (aNil))))) [1]
def m_are_lengths : MS := sSeq (sIf (tOrM (tNotM (mT (mB1 (dIsi ["tuple"]) (lend 0)))) (tNotM (m3b (dOrd (fun i j => decide (i ≤ j)) fun a b => !strLt b a) (dOrd (fun i j => decide (i ≤ j)) fun a b => !strLt b a) (con (.int 1)) (mB1 dLen (lend 0)) (con (.int 60))))) (sRet (con (.bl false))) (sNx)) (sRet (mB1 dAll (mLst (cm_are_lengths_0 ))))
def F_are_lengths : Fn := fun ds b => outOf (m_are_lengths (s0 ["thing", "own"] ds b))
def m_sure_lengths (A : Ad) : MS := sSeq (sSet 1 (mCall (F_tupled) (aCons (rd 0) (aNil)))) (sSeq (sIf (tNotM (mT (mCall (F_are_lengths) (aCons (rd 1) (aNil))))) (sRaise (.pl (.ref A.U))) (sNx)) (sRet (rd 1)))
def F_sure_lengths (A : Ad) : Fn := fun ds b => outOf (m_sure_lengths A (s0 ["value", "own"] ds b))
def cm_share_in_0 : M (List D) := mComp (iSeq (rd 0)) (gN 2) (mYes) (mCall (F_power_of_two) (aCons (m2 dSub (rd 1) (rd 2)) (aNil))) [2]
def m_share_in : MS := sSeq (sSet 1 (mB1 dMax (lend 0))) (sRet (mCall (F_least_terms) (aCons (mB1 dSum (mLst (cm_share_in_0 ))) (aCons (rd 1) (aNil)))))
def F_share_in : Fn := fun ds b => outOf (m_share_in (s0 ["lengths", "most", "own"] ds b))
def lp_word_of_0 : MS := sSeq (sSet 2 (m2 dAdd (mB1 dStr (m2 dMod (rd 0) (con (.int 2)))) (rd 2))) (sSet 0 (m2 dDiv (rd 0) (con (.int 2))))
theorem e_lp_word_of_0 {s : S} : lp_word_of_0  s = (sSeq (sSet 2 (m2 dAdd (mB1 dStr (m2 dMod (rd 0) (con (.int 2)))) (rd 2))) (sSet 0 (m2 dDiv (rd 0) (con (.int 2))))) s := rfl
def m_word_of : MS := sSeq (sSet 2 (con (.str (Str.ofString "")))) (sSeq (sFor (iRg1 (rd 1)) (gN 3) (lp_word_of_0 )) (sRet (rd 2)))
def F_word_of : Fn := fun ds b => outOf (m_word_of (s0 ["number", "length", "found", "turn"] ds b))
def m_is_code : MS := sRet (mCall (F_is_code_in) (aCons (rd 0) (aNil)))
def F_is_code : Fn := fun ds b => outOf (m_is_code (s0 ["thing"] ds b))
def cm_code_lengths_0 (A : Ad) : M (List D) := mComp (iSeq (mCall (F_sure_code A) (aCons (rd 0) (aNil)))) (gN 1) (mYes) (mB1 dLen (lend 1)) [1]
def m_code_lengths (A : Ad) : MS := sRet (mB1 dTuple (mLst (cm_code_lengths_0 A)))
def F_code_lengths (A : Ad) : Fn := fun ds b => outOf (m_code_lengths A (s0 ["code", "word"] ds b))
def m_lengths_share (A : Ad) : MS := sRet (mCall (F_share_in) (aCons (mCall (F_sure_lengths A) (aCons (rd 0) (aNil))) (aNil)))
def F_lengths_share (A : Ad) : Fn := fun ds b => outOf (m_lengths_share A (s0 ["lengths"] ds b))
def lp_sums_in_0 : MS := sSeq (sSet 5 (mCall (F_power_of_two) (aCons (m2 dSub (rd 2) (rd 1)) (aNil)))) (sSeq (sSet 3 (m2 dAdd (m2 dMul (m2 dDiv (m2 dSub (m2 dAdd (rd 3) (rd 5)) (con (.int 1))) (rd 5)) (rd 5)) (rd 5))) (sDrop (mApp 4 (rd 3))))
theorem e_lp_sums_in_0 {s : S} : lp_sums_in_0  s = (sSeq (sSet 5 (mCall (F_power_of_two) (aCons (m2 dSub (rd 2) (rd 1)) (aNil)))) (sSeq (sSet 3 (m2 dAdd (m2 dMul (m2 dDiv (m2 dSub (m2 dAdd (rd 3) (rd 5)) (con (.int 1))) (rd 5)) (rd 5)) (rd 5))) (sDrop (mApp 4 (rd 3))))) s := rfl
def m_sums_in : MS := sSeq (sPar3V 2 3 4 (mVal (mB1 dMax (lend 0))) (mVal (con (.int 0))) (mNew (lNew (aNil)))) (sSeq (sFor (iSeq (rd 0)) (gN 1) (lp_sums_in_0 )) (sRet (rd 4)))
def F_sums_in : Fn := fun ds b => outOf (m_sums_in (s0 ["lengths", "own", "most", "here", "found", "step"] ds b))
def cm_bar_in_0 : M (List D) := mComp (iEnM (mCall (F_sums_in) (aCons (rd 0) (aNil)))) (gT 2 (gCons' (gN 3) (gCons' (gN 4) (gNil')))) (m2b (dOrd (fun i j => decide (j < i)) fun a b => strLt b a) (rd 4) (rd 1)) (rd 3) [3, 4]
def m_bar_in : MS := sSeq (sSet 1 (mCall (F_power_of_two) (aCons (mB1 dMax (lend 0)) (aNil)))) (sSeq (sSetF 2 (cm_bar_in_0 )) (sRet (mIf (m2N (fun x y => (dEq x y).map (!·)) 2 (fz (lNew (aNil)))) (mIxN 2 (con (.int 0))) (con .non))))
def F_bar_in : Fn := fun ds b => outOf (m_bar_in (s0 ["lengths", "whole", "falls", "place", "own"] ds b))
def cm_words_by_0 : M (List D) := mComp (iSeq (rd 2)) (gT 2 (gCons' (gN 3) (gCons' (gN 4) (gNil')))) (mYes) (mCall (F_word_of) (aCons (m2 dSub (m2 dDiv (rd 3) (mCall (F_power_of_two) (aCons (m2 dSub (rd 1) (rd 4)) (aNil)))) (con (.int 1))) (aCons (rd 4) (aNil)))) [3, 4]
def m_words_by : MS := sSeq (sSet 1 (mB1 dMax (lend 0))) (sSeq (sSetF 2 (mLzp (mCall (F_sums_in) (aCons (rd 0) (aNil))) (rd 0))) (sRet (mB1 dTuple (mLst (cm_words_by_0 )))))
def F_words_by : Fn := fun ds b => outOf (m_words_by (s0 ["lengths", "most", "rows", "own", "its"] ds b))
def cm_wasted_in_0 : M (List D) := mComp (iSeq (rd 0)) (gN 2) (mYes) (mCall (F_power_of_two) (aCons (m2 dSub (rd 1) (rd 2)) (aNil))) [2]
def m_wasted_in : MS := sSeq (sSet 1 (mB1 dMax (lend 0))) (sRet (m2 dSub (mIx (mCall (F_sums_in) (aCons (rd 0) (aNil))) (mNeg (con (.int 1)))) (mB1 dSum (mLst (cm_wasted_in_0 )))))
def F_wasted_in : Fn := fun ds b => outOf (m_wasted_in (s0 ["lengths", "most", "own"] ds b))
def m_have_code (A : Ad) : MS := sRet (mB (m2b dIsN (mCall (F_bar_in) (aCons (mCall (F_sure_lengths A) (aCons (rd 0) (aNil))) (aNil))) (con .non)))
def F_have_code (A : Ad) : Fn := fun ds b => outOf (m_have_code A (s0 ["lengths"] ds b))
def cm_length_sums_0 (A : Ad) : M (List D) := mComp (iSeq (mCall (F_sums_in) (aCons (rd 1) (aNil)))) (gN 2) (mYes) (mCall (F_least_terms) (aCons (rd 2) (aCons (mB1 dMax (lend 1)) (aNil)))) [2]
def m_length_sums (A : Ad) : MS := sSeq (sSet 1 (mCall (F_sure_lengths A) (aCons (rd 0) (aNil)))) (sRet (mB1 dTuple (mLst (cm_length_sums_0 A))))
def F_length_sums (A : Ad) : Fn := fun ds b => outOf (m_length_sums A (s0 ["lengths", "own", "its"] ds b))
def m_length_bar (A : Ad) : MS := sSeq (sSet 1 (mCall (F_bar_in) (aCons (mCall (F_sure_lengths A) (aCons (rd 0) (aNil))) (aNil)))) (sSeq (sIf (m2b dIsN (rd 1) (con .non)) (sRaise (.pl (.ref A.C))) (sNx)) (sRet (rd 1)))
def F_length_bar (A : Ad) : Fn := fun ds b => outOf (m_length_bar A (s0 ["lengths", "found"] ds b))
def m_least_code (A : Ad) : MS := sSeq (sSet 1 (mCall (F_sure_lengths A) (aCons (rd 0) (aNil)))) (sSeq (sIf (m2b dNotN (mCall (F_bar_in) (aCons (rd 1) (aNil))) (con .non)) (sRaise (.pl (.ref A.C))) (sNx)) (sRet (mCall (F_words_by) (aCons (rd 1) (aNil)))))
def F_least_code (A : Ad) : Fn := fun ds b => outOf (m_least_code A (s0 ["lengths", "own"] ds b))
def m_wasted (A : Ad) : MS := sSeq (sSet 1 (mCall (F_sure_lengths A) (aCons (rd 0) (aNil)))) (sRet (mCall (F_least_terms) (aCons (mCall (F_wasted_in) (aCons (rd 1) (aNil))) (aCons (mB1 dMax (lend 1)) (aNil)))))
def F_wasted (A : Ad) : Fn := fun ds b => outOf (m_wasted A (s0 ["lengths", "own"] ds b))
def m_room_left (A : Ad) : MS := sSeq (sSet 1 (mCall (F_sure_lengths A) (aCons (rd 0) (aNil)))) (sSeq (sIf (m2b dNotN (mCall (F_bar_in) (aCons (rd 1) (aNil))) (con .non)) (sRaise (.pl (.ref A.C))) (sNx)) (sRet (mCall (F_least_terms) (aCons (m2 dSub (mCall (F_power_of_two) (aCons (mB1 dMax (lend 1)) (aNil))) (mIx (mCall (F_sums_in) (aCons (rd 1) (aNil))) (mNeg (con (.int 1))))) (aCons (mB1 dMax (lend 1)) (aNil))))))
def F_room_left (A : Ad) : Fn := fun ds b => outOf (m_room_left A (s0 ["lengths", "own"] ds b))
def lp_shortest_next_0 (A : Ad) : MS := sIf (m2b dIsN (mCall (F_bar_in) (aCons (m2 dAdd (rd 1) (mTup (aCons (rd 2) (aNil)))) (aNil))) (con .non)) (sRet (rd 2)) (sNx)
theorem e_lp_shortest_next_0 {A : Ad} {s : S} : lp_shortest_next_0 A s = (sIf (m2b dIsN (mCall (F_bar_in) (aCons (m2 dAdd (rd 1) (mTup (aCons (rd 2) (aNil)))) (aNil))) (con .non)) (sRet (rd 2)) (sNx)) s := rfl
def m_shortest_next (A : Ad) : MS := sSeq (sSet 1 (mCall (F_sure_lengths A) (aCons (rd 0) (aNil)))) (sSeq (sFor (iRg1 (con (.int 61))) (gN 2) (lp_shortest_next_0 A)) (sRaise (.pl (.ref A.C))))
def F_shortest_next (A : Ad) : Fn := fun ds b => outOf (m_shortest_next A (s0 ["lengths", "own", "more"] ds b))
def lp_stacked_0 : MS := sSeq (sSet 4 (mPop 1)) (sSeq (sSet 5 (mPop 1)) (sDrop (mApp 1 (mTup (aCons (m2 dSub (mIxN 5 (con (.int 0))) (con (.int 1))) (aCons (mTup (aCons (mIxN 5 (con (.int 1))) (aCons (mIxN 4 (con (.int 1))) (aNil)))) (aNil)))))))
theorem e_lp_stacked_0 {s : S} : lp_stacked_0  s = (sSeq (sSet 4 (mPop 1)) (sSeq (sSet 5 (mPop 1)) (sDrop (mApp 1 (mTup (aCons (m2 dSub (mIxN 5 (con (.int 0))) (con (.int 1))) (aCons (mTup (aCons (mIxN 5 (con (.int 1))) (aCons (mIxN 4 (con (.int 1))) (aNil)))) (aNil)))))))) s := rfl
def lp_stacked_0_c : M Bool := tAndM (m2b (dOrd (fun i j => decide (j < i)) fun a b => strLt b a) (mB1 dLen (lend 1)) (con (.int 1))) (tAndM (m2b dEq (mIx (mIxN 1 (mNeg (con (.int 1)))) (con (.int 0))) (mIx (mIxN 1 (mNeg (con (.int 2)))) (con (.int 0)))) (m2b (dOrd (fun i j => decide (j < i)) fun a b => strLt b a) (mIx (mIxN 1 (mNeg (con (.int 1)))) (con (.int 0))) (con (.int 0))))
theorem e_lp_stacked_0_c {s : S} : lp_stacked_0_c  s = (tAndM (m2b (dOrd (fun i j => decide (j < i)) fun a b => strLt b a) (mB1 dLen (lend 1)) (con (.int 1))) (tAndM (m2b dEq (mIx (mIxN 1 (mNeg (con (.int 1)))) (con (.int 0))) (mIx (mIxN 1 (mNeg (con (.int 2)))) (con (.int 0)))) (m2b (dOrd (fun i j => decide (j < i)) fun a b => strLt b a) (mIx (mIxN 1 (mNeg (con (.int 1)))) (con (.int 0))) (con (.int 0))))) s := rfl
def lp_stacked_1 : MS := sSeq (sDrop (mApp 1 (mTup (aCons (rd 3) (aCons (rd 2) (aNil)))))) (sWhile (lp_stacked_0_c ) (lp_stacked_0 ) 200)
theorem e_lp_stacked_1 {s : S} : lp_stacked_1  s = (sSeq (sDrop (mApp 1 (mTup (aCons (rd 3) (aCons (rd 2) (aNil)))))) (sWhile (lp_stacked_0_c ) (lp_stacked_0 ) 200)) s := rfl
def m_stacked : MS := sSeq (sSetF 1 (lNew (aNil))) (sSeq (sFor (iEnM (rd 0)) (gT 2 (gCons' (gN 2) (gCons' (gN 3) (gNil')))) (lp_stacked_1 )) (sRet (rd 1)))
def F_stacked : Fn := fun ds b => outOf (m_stacked (s0 ["lengths", "found", "place", "own", "right", "left"] ds b))
def cm_left_of_stack_0 (A : Ad) : M (List D) := mComp (iSeq (mCall (F_stacked) (aCons (mCall (F_sure_lengths A) (aCons (rd 0) (aNil))) (aNil)))) (gT 2 (gCons' (gN 1) (gCons' (gN 2) (gNil')))) (mYes) (rd 1) [1, 2]
def m_left_of_stack (A : Ad) : MS := sRet (mB1 dTuple (mLst (cm_left_of_stack_0 A)))
def F_left_of_stack (A : Ad) : Fn := fun ds b => outOf (m_left_of_stack A (s0 ["lengths", "own", "tree"] ds b))
def cm_other_word_0 : M (List D) := mComp (iSeq (rd 0)) (gN 1) (mYes) (mIf (m2b dEq (rd 1) (con (.str (Str.ofString "0")))) (con (.str (Str.ofString "1"))) (con (.str (Str.ofString "0")))) [1]
def m_other_word : MS := sRet (mJoin (con (.str (Str.ofString ""))) (mLst (cm_other_word_0 )))
def F_other_word : Fn := fun ds b => outOf (m_other_word (s0 ["word", "sign"] ds b))
def cm_mirrored_in_0 : M (List D) := mComp (iSeq (m1 dBack (rd 0))) (gN 1) (mYes) (mCall (F_other_word) (aCons (rd 1) (aNil))) [1]
def m_mirrored_in : MS := sRet (mB1 dTuple (mLst (cm_mirrored_in_0 )))
def F_mirrored_in : Fn := fun ds b => outOf (m_mirrored_in (s0 ["code", "word"] ds b))
def m_mirrored_code (A : Ad) : MS := sRet (mCall (F_mirrored_in) (aCons (mCall (F_sure_code A) (aCons (rd 0) (aNil))) (aNil)))
def F_mirrored_code (A : Ad) : Fn := fun ds b => outOf (m_mirrored_code A (s0 ["code"] ds b))
def cm_raised_in_0 : M (List D) := mComp (iSeq (mSl (rd 0) (oIn (con (.int 1))) (oIn (mNeg (con (.int 1)))))) (gN 1) (mYes) (m2 dAdd (rd 1) (con (.int 1))) [1]
def m_raised_in : MS := sRet (m2 dAdd (m2 dAdd (mSl (rd 0) (oNo) (oIn (con (.int 1)))) (mB1 dTuple (mLst (cm_raised_in_0 )))) (mIf (m2b (dOrd (fun i j => decide (j < i)) fun a b => strLt b a) (mB1 dLen (lend 0)) (con (.int 1))) (mSl (rd 0) (oIn (mNeg (con (.int 1)))) (oNo)) (mTup (aNil))))
def F_raised_in : Fn := fun ds b => outOf (m_raised_in (s0 ["lengths", "own"] ds b))
def m_raised (A : Ad) : MS := sSeq (sSet 1 (mCall (F_raised_in) (aCons (mCall (F_sure_lengths A) (aCons (rd 0) (aNil))) (aNil)))) (sSeq (sIf (m2b (dOrd (fun i j => decide (j < i)) fun a b => strLt b a) (mB1 dMax (lend 1)) (con (.int 60))) (sRaise (.pl (.ref A.C))) (sNx)) (sRet (rd 1)))
def F_raised (A : Ad) : Fn := fun ds b => outOf (m_raised A (s0 ["lengths", "found"] ds b))
def m__law_box : M (List D) := rSeq (sSet 2 (mIf (m2b (dOrd (fun i j => decide (i < j)) strLt) (rd 1) (mB1 dLen (lend 0))) (mIxN 0 (rd 1)) (con (.int 0)))) (lNew (aCons (m2 dMul (mB1 dAbs (lend 2)) (mB1 dIntS (mB (m2b (dOrd (fun i j => decide (j ≤ i)) fun a b => !strLt a b) (mB1 dAbs (lend 2)) (m2 dPow (con (.int 10)) (con (.int 18))))))) (aCons (m2 dAdd (m2 dAdd (m2 dMod (mB1 dIntS (lend 2)) (con (.int 2305843009213693951))) (m2 dMul (con (.int 39373)) (rd 1))) (con (.int 26309))) (aCons (con (.int 0)) (aNil)))))
def m__law_take : MS := sSeq (sIf (m2b (dOrd (fun i j => decide (j < i)) fun a b => strLt b a) (mIxN 0 (con (.int 0))) (con (.int 0))) (sSeq (sSet 5 (m2 dMod (mB1 dIntS (mIxN 0 (con (.int 0)))) (rd 1))) (sSeq (sPutIx 0 (con (.int 0)) (m2 dDiv (mIxN 0 (con (.int 0))) (rd 1))) (sRet (rd 5)))) (sNx)) (sSeq (sPutIx 0 (con (.int 2)) (m2 dAdd (mIxN 0 (con (.int 2))) (con (.int 1)))) (sSeq (sSet 2 (m2 dMod (mB1 dIntS (m2 dMul (m2 dAdd (mIxN 0 (con (.int 1))) (m2 dMul (con (.int 48271)) (mIxN 0 (con (.int 2))))) (m2 dAdd (con (.int 39373)) (mIxN 0 (con (.int 2)))))) (con (.int 2147483647)))) (sSeq (sSet 3 (m2 dAdd (m2 dMod (mB1 dIntS (lend 2)) (con (.int 40009))) (con (.int 7)))) (sSeq (sSet 4 (m2 dMod (mB1 dIntS (m2 dMul (m2 dAdd (m2 dAdd (rd 2) (mIxN 0 (con (.int 2)))) (m2 dDiv (mIxN 0 (con (.int 1))) (con (.int 1000003)))) (rd 3))) (con (.int 2147483629)))) (sRet (m2 dMod (mB1 dIntS (m2 dDiv (m2 dMod (mB1 dIntS (m2 dAdd (m2 dMul (rd 4) (con (.int 48271))) (rd 2))) (con (.int 2147483587))) (con (.int 64)))) (rd 1)))))))
def F__law_take : Fn := fun ds b => outOf (m__law_take (s0 ["tin", "below_so", "once_so", "wide_so", "twice_so", "drawn_so"] ds b))
def lp__law_cells_0 : MS := sSeq (sSet 5 (m2 dMod (mB1 dIntS (lend 3)) (rd 1))) (sPutIx 2 (rd 5) (m2 dAdd (mIxN 2 (rd 5)) (m2 dMul (rd 4) (m2 dAdd (rd 3) (con (.int 2))))))
theorem e_lp__law_cells_0 {s : S} : lp__law_cells_0  s = (sSeq (sSet 5 (m2 dMod (mB1 dIntS (lend 3)) (rd 1))) (sPutIx 2 (rd 5) (m2 dAdd (mIxN 2 (rd 5)) (m2 dMul (rd 4) (m2 dAdd (rd 3) (con (.int 2))))))) s := rfl
def m__law_cells : MS := sSeq (sSetF 2 (fOr (mB1F dList (mSl (rd 0) (oNo) (oIn (rd 1)))) (lNew (aCons (con (.int 0)) (aNil))))) (sSeq (sFor (iEnM (mSl (rd 0) (oIn (rd 1)) (oIn (con (.int 63))))) (gT 2 (gCons' (gN 3) (gCons' (gN 4) (gNil')))) (lp__law_cells_0 )) (sRet (rd 2)))
def F__law_cells : Fn := fun ds b => outOf (m__law_cells (s0 ["script", "most_so", "cells_so", "k", "bit_so", "at_so"] ds b))
def cm__law_same_0 (rec : Fn) : M (List D) := mComp (iZpM (rd 0) (rd 1)) (gT 2 (gCons' (gN 2) (gCons' (gN 3) (gNil')))) (mYes) (mCall (rec) (aCons (rd 2) (aCons (rd 3) (aNil)))) [2, 3]
def m__law_same (rec : Fn) : MS := sSeq (sIf (mT (mB1 (dIsi ["list", "tuple"]) (lend 1))) (sSeq (sIf (tOrM (m2b (fun x y => (dEq x y).map (!·)) (mB1 (dIsi ["list"]) (lend 0)) (mB1 (dIsi ["list"]) (lend 1))) (m2b (fun x y => (dEq x y).map (!·)) (mB1 (dIsi ["tuple"]) (lend 0)) (mB1 (dIsi ["tuple"]) (lend 1)))) (sRet (con (.bl false))) (sNx)) (sRet (mAnd (mB (m2b dEq (mB1 dLen (lend 0)) (mB1 dLen (lend 1)))) (mB1 dAll (mLst (cm__law_same_0 rec)))))) (sNx)) (sSeq (sIf (m2b dIsN (rd 1) (con .non)) (sRet (mB (m2b dIsN (rd 0) (con .non)))) (sNx)) (sSeq (sIf (mT (mB1 (dIsi ["bool", "str"]) (lend 1))) (sRet (mAnd (mB (m2b dEq (mB1 (dIsi ["bool"]) (lend 0)) (mB1 (dIsi ["bool"]) (lend 1)))) (mAnd (mB (m2b dEq (mB1 (dIsi ["str"]) (lend 0)) (mB1 (dIsi ["str"]) (lend 1)))) (mB (m2b dEq (rd 0) (rd 1)))))) (sNx)) (sRet (mAnd (mB1 (dIsi ["int"]) (lend 0)) (mAnd (mNot (mB1 (dIsi ["bool"]) (lend 0))) (mB (m2b dEq (rd 0) (rd 1))))))))
def FR__law_same : Nat → Fn
  | 0 => fun _ _ => .no
  | n + 1 => fun ds b => outOf (m__law_same (FR__law_same n) (s0 ["got", "due", "mine", "its"] ds b))
def F__law_same : Fn := FR__law_same 85
def m__law_put : MS := sRet (m2 dAdd (m2 dAdd (mSl (rd 0) (oNo) (oIn (rd 1))) (mTup (aCons (rd 2) (aNil)))) (mSl (rd 0) (oIn (m2 dAdd (rd 1) (con (.int 1)))) (oNo)))
def F__law_put : Fn := fun ds b => outOf (m__law_put (s0 ["row_so", "at_so", "bit_so"] ds b))
def m__law_call (T : Doors) : MS := sSeq (sIf (m2b dEq (mB1 dLen (lend 1)) (con (.int 1))) (sRet (mCallL T 0 1 (aCons (mIxN 1 (con (.int 0))) (aNil)))) (sNx)) (sSeq (sIf (m2b dEq (mB1 dLen (lend 1)) (con (.int 2))) (sRet (mCallL T 0 2 (aCons (mIxN 1 (con (.int 0))) (aCons (mIxN 1 (con (.int 1))) (aNil))))) (sNx)) (sSeq (sIf (m2b dEq (mB1 dLen (lend 1)) (con (.int 3))) (sRet (mCallL T 0 3 (aCons (mIxN 1 (con (.int 0))) (aCons (mIxN 1 (con (.int 1))) (aCons (mIxN 1 (con (.int 2))) (aNil)))))) (sNx)) (sSeq (sIf (m2b dEq (mB1 dLen (lend 1)) (con (.int 4))) (sRet (mCallL T 0 4 (aCons (mIxN 1 (con (.int 0))) (aCons (mIxN 1 (con (.int 1))) (aCons (mIxN 1 (con (.int 2))) (aCons (mIxN 1 (con (.int 3))) (aNil))))))) (sNx)) (sRet (mCallL T 0 5 (aCons (mIxN 1 (con (.int 0))) (aCons (mIxN 1 (con (.int 1))) (aCons (mIxN 1 (con (.int 2))) (aCons (mIxN 1 (con (.int 3))) (aCons (mIxN 1 (con (.int 4))) (aNil)))))))))))
def F__law_call (T : Doors) : Fn := fun ds b => outOf (m__law_call T (s0 ["door_so", "goods_so"] ds b))
def m__law_slip (A : Ad) (T : Doors) : MS := sSeq (sTry A.mt [(.ref A.U, 2, some (Str.ofString "unfit")), (.ref A.C, 3, some (Str.ofString "can not")), (.ref A.M, 4, some (Str.ofString "many")), (.ref A.B, 5, none)] (sDrop (mCall (F__law_call T) (aCons (rd 0) (aCons (rd 1) (aNil)))))) (sRet (con (.str (Str.ofString "told"))))
def F__law_slip (A : Ad) (T : Doors) : Fn := fun ds b => outOf (m__law_slip A T (s0 ["door_so", "goods_so", "slip_so", "slip_c", "slip_m", "slip_b"] ds b))
def lp__law_two_0 : MS := sSet 1 (m2 dAdd (rd 1) (rd 1))
theorem e_lp__law_two_0 {s : S} : lp__law_two_0  s = (sSet 1 (m2 dAdd (rd 1) (rd 1))) s := rfl
def m__law_two : MS := sSeq (sSet 1 (con (.int 1))) (sSeq (sFor (iRg1 (rd 0)) (gN 2) (lp__law_two_0 )) (sRet (rd 1)))
def F__law_two : Fn := fun ds b => outOf (m__law_two (s0 ["many_so", "found", "turn"] ds b))
def lp__law_share_0 : MS := sIf (tAndM (m2b (dOrd (fun i j => decide (j < i)) fun a b => strLt b a) (rd 1) (con (.int 0))) (m2b dEq (m2 dMod (rd 0) (con (.int 2))) (con (.int 0)))) (sParV 0 1 (mVal (m2 dDiv (rd 0) (con (.int 2)))) (mVal (m2 dSub (rd 1) (con (.int 1))))) (sNx)
theorem e_lp__law_share_0 {s : S} : lp__law_share_0  s = (sIf (tAndM (m2b (dOrd (fun i j => decide (j < i)) fun a b => strLt b a) (rd 1) (con (.int 0))) (m2b dEq (m2 dMod (rd 0) (con (.int 2))) (con (.int 0)))) (sParV 0 1 (mVal (m2 dDiv (rd 0) (con (.int 2)))) (mVal (m2 dSub (rd 1) (con (.int 1))))) (sNx)) s := rfl
def m__law_share : MS := sSeq (sFor (iRg1 (rd 1)) (gN 2) (lp__law_share_0 )) (sRet (mTup (aCons (rd 0) (aCons (rd 1) (aNil)))))
def F__law_share : Fn := fun ds b => outOf (m__law_share (s0 ["above_so", "power_so", "turn"] ds b))
def lp__law_sums_0 : MS := sSeq (sSet 5 (mCall (F__law_two) (aCons (m2 dSub (rd 2) (rd 1)) (aNil)))) (sSeq (sSet 3 (m2 dAdd (m2 dAdd (rd 3) (m2 dMod (m2 dSub (con (.int 0)) (rd 3)) (rd 5))) (rd 5))) (sDrop (mApp 4 (rd 3))))
theorem e_lp__law_sums_0 {s : S} : lp__law_sums_0  s = (sSeq (sSet 5 (mCall (F__law_two) (aCons (m2 dSub (rd 2) (rd 1)) (aNil)))) (sSeq (sSet 3 (m2 dAdd (m2 dAdd (rd 3) (m2 dMod (m2 dSub (con (.int 0)) (rd 3)) (rd 5))) (rd 5))) (sDrop (mApp 4 (rd 3))))) s := rfl
def m__law_sums : MS := sSeq (sPar3V 2 3 4 (mVal (mB1 dMax (lend 0))) (mVal (con (.int 0))) (mNew (lNew (aNil)))) (sSeq (sFor (iSeq (rd 0)) (gN 1) (lp__law_sums_0 )) (sRet (rd 4)))
def F__law_sums : Fn := fun ds b => outOf (m__law_sums (s0 ["lengths_so", "own", "most_so", "here", "found", "bit_so"] ds b))
def cm__law_bar_0 : M (List D) := mComp (iEnM (mCall (F__law_sums) (aCons (rd 0) (aNil)))) (gT 2 (gCons' (gN 2) (gCons' (gN 3) (gNil')))) (m2b (dOrd (fun i j => decide (j < i)) fun a b => strLt b a) (rd 3) (mCall (F__law_two) (aCons (mB1 dMax (lend 0)) (aNil)))) (rd 2) [2, 3]
def m__law_bar : MS := sSeq (sSetF 1 (cm__law_bar_0 )) (sRet (mIf (m2N (fun x y => (dEq x y).map (!·)) 1 (fz (lNew (aNil)))) (mIxN 1 (con (.int 0))) (con .non)))
def F__law_bar : Fn := fun ds b => outOf (m__law_bar (s0 ["lengths_so", "falls_so", "k", "own"] ds b))
end K
end M1_

section B_ev_
set_option Elab.async false
set_option linter.all false
set_option maxRecDepth 100000
set_option maxHeartbeats 4000000
namespace Pv
open PySem PySem.Spec PyProof.Rows L2
section
variable {α β : Type} {s : S} {e : Exn} {i j l n k : Nat} {x y z d : D} {xs ys ds : List D} {env : List SV} {b b' : Box} {ms mt : MS} {g : D → S → Option S} {u v w : SV}
theorem ofO_s {x : α} : ofO (some x) s = .ok x s := rfl
def k1_m2 (g2 : D → D → Option D) (x : D) : Out D → Out D
  | .ok y s => ofO (g2 x y) s
  | .exc e s => .exc e s
  | .no => .no
theorem k1_m2_exc (g2 : D → D → Option D) (x : D) : k1_m2 g2 x (.exc e s : Out D) = .exc e s := rfl
theorem k1_m2_ok (g2 : D → D → Option D) (x : D) : k1_m2 g2 x (.ok y s) = ofO (g2 x y) s := rfl
def k0_m2 (g2 : D → D → Option D) (c : M D) : Out D → Out D
  | .ok x s => k1_m2 g2 x (c s)
  | .exc e s => .exc e s
  | .no => .no
theorem k0_m2_exc (g2 : D → D → Option D) (c : M D) : k0_m2 g2 c (.exc e s : Out D) = .exc e s := rfl
theorem k0_m2_ok (g2 : D → D → Option D) (c : M D) (x : D) : k0_m2 g2 c (.ok x s : Out D) = k1_m2 g2 x (c s) := rfl
theorem ev_m2 (g2 : D → D → Option D) (a : M D) (c : M D) : m2 g2 a c s = k0_m2 g2 c (a s) := by unfold m2; cases a s <;> first | rfl | (rename_i s1; simp only [Out.bind, Out.toS, k0_m2]; cases c s1 <;> rfl)
def k1_m2b (g2 : D → D → Option Bool) (x : D) : Out D → Out Bool
  | .ok y s => ofO (g2 x y) s
  | .exc e s => .exc e s
  | .no => .no
theorem k1_m2b_exc (g2 : D → D → Option Bool) (x : D) : k1_m2b g2 x (.exc e s : Out D) = .exc e s := rfl
theorem k1_m2b_ok (g2 : D → D → Option Bool) (x : D) : k1_m2b g2 x (.ok y s) = ofO (g2 x y) s := rfl
def k0_m2b (g2 : D → D → Option Bool) (c : M D) : Out D → Out Bool
  | .ok x s => k1_m2b g2 x (c s)
  | .exc e s => .exc e s
  | .no => .no
theorem k0_m2b_exc (g2 : D → D → Option Bool) (c : M D) : k0_m2b g2 c (.exc e s : Out D) = .exc e s := rfl
theorem k0_m2b_ok (g2 : D → D → Option Bool) (c : M D) (x : D) : k0_m2b g2 c (.ok x s : Out D) = k1_m2b g2 x (c s) := rfl
theorem ev_m2b (g2 : D → D → Option Bool) (a : M D) (c : M D) : m2b g2 a c s = k0_m2b g2 c (a s) := by unfold m2b; cases a s <;> first | rfl | (rename_i s1; simp only [Out.bind, Out.toS, k0_m2b]; cases c s1 <;> rfl)
def k0_mB  : Out Bool → Out D
  | .ok k s => .ok (.bl k) s
  | .exc e s => .exc e s
  | .no => .no
theorem k0_mB_exc : k0_mB  (.exc e s : Out Bool) = .exc e s := rfl
theorem k0_mB_ok  {k : Bool} : k0_mB  (.ok k s) = .ok (.bl k) s := rfl
theorem ev_mB (a : M Bool) : mB a s = k0_mB  (a s) := by unfold mB; cases a s <;> rfl
def k0_mT  : Out D → Out Bool
  | .ok x s => match x with
    | .bl k => .ok k s
    | _ => .no
  | .exc e s => .exc e s
  | .no => .no
theorem k0_mT_exc : k0_mT  (.exc e s : Out D) = .exc e s := rfl
theorem k0_mT_ok  {k : Bool} : k0_mT  (.ok (.bl k) s) = .ok k s := rfl
theorem ev_mT (a : M D) : mT a s = k0_mT  (a s) := by unfold mT; cases a s <;> rfl
def k0_mNeg  : Out D → Out D
  | .ok x s => match x with
    | .int i => .ok (.int (-i)) s
    | _ => .no
  | .exc e s => .exc e s
  | .no => .no
theorem k0_mNeg_exc : k0_mNeg  (.exc e s : Out D) = .exc e s := rfl
theorem k0_mNeg_ok  {i : Int} : k0_mNeg  (.ok (.int i) s) = .ok (.int (-i)) s := rfl
theorem ev_mNeg (a : M D) : mNeg a s = k0_mNeg  (a s) := by unfold mNeg; cases a s <;> rfl
def k0_tAndM (c : M Bool) : Out Bool → Out Bool
  | .ok k s => if k then c s else .ok false s
  | .exc e s => .exc e s
  | .no => .no
theorem k0_tAndM_exc (c : M Bool) : k0_tAndM c (.exc e s : Out Bool) = .exc e s := rfl
theorem k0_tAndM_ok (c : M Bool) : k0_tAndM c (.ok true s) = c s := rfl
theorem k0_tAndM_ok1 (c : M Bool) : k0_tAndM c (.ok false s) = .ok false s := rfl
theorem ev_tAndM (a : M Bool) (c : M Bool) : tAndM a c s = k0_tAndM c (a s) := by unfold tAndM; cases a s <;> rfl
def k0_tOrM (c : M Bool) : Out Bool → Out Bool
  | .ok k s => if k then .ok true s else c s
  | .exc e s => .exc e s
  | .no => .no
theorem k0_tOrM_exc (c : M Bool) : k0_tOrM c (.exc e s : Out Bool) = .exc e s := rfl
theorem k0_tOrM_ok (c : M Bool) : k0_tOrM c (.ok true s) = .ok true s := rfl
theorem k0_tOrM_ok1 (c : M Bool) : k0_tOrM c (.ok false s) = c s := rfl
theorem ev_tOrM (a : M Bool) (c : M Bool) : tOrM a c s = k0_tOrM c (a s) := by unfold tOrM; cases a s <;> rfl
def k0_tNotM  : Out Bool → Out Bool
  | .ok k s => .ok (!k) s
  | .exc e s => .exc e s
  | .no => .no
theorem k0_tNotM_exc : k0_tNotM  (.exc e s : Out Bool) = .exc e s := rfl
theorem k0_tNotM_ok  {k : Bool} : k0_tNotM  (.ok k s) = .ok (!k) s := rfl
theorem ev_tNotM (a : M Bool) : tNotM a s = k0_tNotM  (a s) := by unfold tNotM; cases a s <;> rfl
def k0_mAnd (c : M D) : Out D → Out D
  | .ok x s => match x with
    | .bl true => c s
    | .bl false => .ok (.bl false) s
    | _ => .no
  | .exc e s => .exc e s
  | .no => .no
theorem k0_mAnd_exc (c : M D) : k0_mAnd c (.exc e s : Out D) = .exc e s := rfl
theorem k0_mAnd_ok (c : M D) : k0_mAnd c (.ok (.bl true) s) = c s := rfl
theorem k0_mAnd_ok1 (c : M D) : k0_mAnd c (.ok (.bl false) s) = .ok (.bl false) s := rfl
theorem ev_mAnd (a : M D) (c : M D) : mAnd a c s = k0_mAnd c (a s) := by unfold mAnd; cases a s <;> rfl
def k0_mOr (c : M D) : Out D → Out D
  | .ok x s => match x with
    | .bl true => .ok (.bl true) s
    | .bl false => c s
    | _ => .no
  | .exc e s => .exc e s
  | .no => .no
theorem k0_mOr_exc (c : M D) : k0_mOr c (.exc e s : Out D) = .exc e s := rfl
theorem k0_mOr_ok (c : M D) : k0_mOr c (.ok (.bl true) s) = .ok (.bl true) s := rfl
theorem k0_mOr_ok1 (c : M D) : k0_mOr c (.ok (.bl false) s) = c s := rfl
theorem ev_mOr (a : M D) (c : M D) : mOr a c s = k0_mOr c (a s) := by unfold mOr; cases a s <;> rfl
def k0_mNot  : Out D → Out D
  | .ok x s => match x with
    | .bl k => .ok (.bl (!k)) s
    | _ => .no
  | .exc e s => .exc e s
  | .no => .no
theorem k0_mNot_exc : k0_mNot  (.exc e s : Out D) = .exc e s := rfl
theorem k0_mNot_ok  {k : Bool} : k0_mNot  (.ok (.bl k) s) = .ok (.bl (!k)) s := rfl
theorem ev_mNot (a : M D) : mNot a s = k0_mNot  (a s) := by unfold mNot; cases a s <;> rfl
def k0_mIf (a : M D) (c : M D) : Out Bool → Out D
  | .ok k s => if k then a s else c s
  | .exc e s => .exc e s
  | .no => .no
theorem k0_mIf_exc (a : M D) (c : M D) : k0_mIf a c (.exc e s : Out Bool) = .exc e s := rfl
theorem k0_mIf_ok (a : M D) (c : M D) : k0_mIf a c (.ok true s) = a s := rfl
theorem k0_mIf_ok1 (a : M D) (c : M D) : k0_mIf a c (.ok false s) = c s := rfl
theorem ev_mIf (t : M Bool) (a : M D) (c : M D) : mIf t a c s = k0_mIf a c (t s) := by unfold mIf; cases t s <;> rfl
def k1_aCons  (x : D) : Out (List D) → Out (List D)
  | .ok xs s => .ok (x :: xs) s
  | .exc e s => .exc e s
  | .no => .no
theorem k1_aCons_exc  (x : D) : k1_aCons x (.exc e s : Out (List D)) = .exc e s := rfl
theorem k1_aCons_ok  (x : D) {xs : List D} : k1_aCons x (.ok xs s) = .ok (x :: xs) s := rfl
def k0_aCons (r : M (List D)) : Out D → Out (List D)
  | .ok x s => k1_aCons x (r s)
  | .exc e s => .exc e s
  | .no => .no
theorem k0_aCons_exc (r : M (List D)) : k0_aCons r (.exc e s : Out D) = .exc e s := rfl
theorem k0_aCons_ok (r : M (List D)) (x : D) : k0_aCons r (.ok x s : Out D) = k1_aCons x (r s) := rfl
theorem ev_aCons (a : M D) (r : M (List D)) : aCons a r s = k0_aCons r (a s) := by unfold aCons; cases a s <;> first | rfl | (rename_i s1; simp only [Out.bind, Out.toS, k0_aCons]; cases r s1 <;> rfl)
def k0_mTup  : Out (List D) → Out D
  | .ok xs s => if xs.length ≤ sizeLine then .ok (.tup xs) s else .no
  | .exc e s => .exc e s
  | .no => .no
theorem k0_mTup_exc : k0_mTup  (.exc e s : Out (List D)) = .exc e s := rfl
theorem k0_mTup_ok  {xs : List D} (h : xs.length ≤ 100000) : k0_mTup  (.ok xs s) = .ok (.tup xs) s := if_pos (small_line h)
theorem ev_mTup (a : M (List D)) : mTup a s = k0_mTup  (a s) := by unfold mTup; cases a s <;> rfl
def k0_lNew  : Out (List D) → Out (List D)
  | .ok xs s => if xs.length ≤ sizeLine then .ok xs s else .no
  | .exc e s => .exc e s
  | .no => .no
theorem k0_lNew_exc : k0_lNew  (.exc e s : Out (List D)) = .exc e s := rfl
theorem k0_lNew_ok  {xs : List D} (h : xs.length ≤ 100000) : k0_lNew  (.ok xs s) = .ok xs s := if_pos (small_line h)
theorem ev_lNew (a : M (List D)) : lNew a s = k0_lNew  (a s) := by unfold lNew; cases a s <;> rfl
def k0_fz  : Out (List D) → Out D
  | .ok xs s => .ok (.lst xs) s
  | .exc e s => .exc e s
  | .no => .no
theorem k0_fz_exc : k0_fz  (.exc e s : Out (List D)) = .exc e s := rfl
theorem k0_fz_ok  {xs : List D} : k0_fz  (.ok xs s) = .ok (.lst xs) s := rfl
theorem ev_fz (a : M (List D)) : fz a s = k0_fz  (a s) := by unfold fz; cases a s <;> rfl
def k0_mLst  : Out (List D) → Out D
  | .ok xs s => .ok (.lst xs) s
  | .exc e s => .exc e s
  | .no => .no
theorem k0_mLst_exc : k0_mLst  (.exc e s : Out (List D)) = .exc e s := rfl
theorem k0_mLst_ok  {xs : List D} : k0_mLst  (.ok xs s) = .ok (.lst xs) s := rfl
theorem ev_mLst (a : M (List D)) : mLst a s = k0_mLst  (a s) := by unfold mLst; cases a s <;> rfl
def k0_mB1 (g1 : D → Option D) : Out D → Out D
  | .ok x s => ofO (g1 x) s
  | .exc e s => .exc e s
  | .no => .no
theorem k0_mB1_exc (g1 : D → Option D) : k0_mB1 g1 (.exc e s : Out D) = .exc e s := rfl
theorem k0_mB1_ok (g1 : D → Option D) : k0_mB1 g1 (.ok x s) = ofO (g1 x) s := rfl
theorem ev_mB1 (g1 : D → Option D) (a : M D) : mB1 g1 a s = k0_mB1 g1 (a s) := by unfold mB1; cases a s <;> rfl
def k0_m1 (g1 : D → Option D) : Out D → Out D
  | .ok x s => ofO (g1 x) s
  | .exc e s => .exc e s
  | .no => .no
theorem k0_m1_exc (g1 : D → Option D) : k0_m1 g1 (.exc e s : Out D) = .exc e s := rfl
theorem k0_m1_ok (g1 : D → Option D) : k0_m1 g1 (.ok x s) = ofO (g1 x) s := rfl
theorem ev_m1 (g1 : D → Option D) (a : M D) : m1 g1 a s = k0_m1 g1 (a s) := by unfold m1; cases a s <;> rfl
def k0_mB1F (g1 : D → Option (List D)) : Out D → Out (List D)
  | .ok x s => ofO (g1 x) s
  | .exc e s => .exc e s
  | .no => .no
theorem k0_mB1F_exc (g1 : D → Option (List D)) : k0_mB1F g1 (.exc e s : Out D) = .exc e s := rfl
theorem k0_mB1F_ok (g1 : D → Option (List D)) : k0_mB1F g1 (.ok x s) = ofO (g1 x) s := rfl
theorem ev_mB1F (g1 : D → Option (List D)) (a : M D) : mB1F g1 a s = k0_mB1F g1 (a s) := by unfold mB1F; cases a s <;> rfl
def k1_mIx  (x : D) : Out D → Out D
  | .ok y s => ofO (dIx x y s) s
  | .exc e s => .exc e s
  | .no => .no
theorem k1_mIx_exc  (x : D) : k1_mIx x (.exc e s : Out D) = .exc e s := rfl
theorem k1_mIx_ok  (x : D) : k1_mIx x (.ok y s) = ofO (dIx x y s) s := rfl
def k0_mIx (c : M D) : Out D → Out D
  | .ok x s => k1_mIx x (c s)
  | .exc e s => .exc e s
  | .no => .no
theorem k0_mIx_exc (c : M D) : k0_mIx c (.exc e s : Out D) = .exc e s := rfl
theorem k0_mIx_ok (c : M D) (x : D) : k0_mIx c (.ok x s : Out D) = k1_mIx x (c s) := rfl
theorem ev_mIx (a : M D) (c : M D) : mIx a c s = k0_mIx c (a s) := by unfold mIx; cases a s <;> first | rfl | (rename_i s1; simp only [Out.bind, Out.toS, k0_mIx]; cases c s1 <;> rfl)
def k0_oIn  : Out D → Out (Option Int)
  | .ok x s => match x with
    | .int i => .ok (some i) s
    | _ => .no
  | .exc e s => .exc e s
  | .no => .no
theorem k0_oIn_exc : k0_oIn  (.exc e s : Out D) = .exc e s := rfl
theorem k0_oIn_ok  {i : Int} : k0_oIn  (.ok (.int i) s) = .ok (some i) s := rfl
theorem ev_oIn (a : M D) : oIn a s = k0_oIn  (a s) := by unfold oIn; cases a s <;> rfl
def k2_mSl  (x : D) (lo : Option Int) : Out (Option Int) → Out D
  | .ok hi s => ofO (dSl x lo hi) s
  | .exc e s => .exc e s
  | .no => .no
theorem k2_mSl_exc  (x : D) (lo : Option Int) : k2_mSl x lo (.exc e s : Out (Option Int)) = .exc e s := rfl
theorem k2_mSl_ok  (x : D) (lo : Option Int) {hi : Option Int} : k2_mSl x lo (.ok hi s) = ofO (dSl x lo hi) s := rfl
def k1_mSl (h : M (Option Int)) (x : D) : Out (Option Int) → Out D
  | .ok lo s => k2_mSl x lo (h s)
  | .exc e s => .exc e s
  | .no => .no
theorem k1_mSl_exc (h : M (Option Int)) (x : D) : k1_mSl h x (.exc e s : Out (Option Int)) = .exc e s := rfl
theorem k1_mSl_ok (h : M (Option Int)) (x : D) (lo : Option Int) : k1_mSl h x (.ok lo s : Out (Option Int)) = k2_mSl x lo (h s) := rfl
def k0_mSl (c : M (Option Int)) (h : M (Option Int)) : Out D → Out D
  | .ok x s => k1_mSl h x (c s)
  | .exc e s => .exc e s
  | .no => .no
theorem k0_mSl_exc (c : M (Option Int)) (h : M (Option Int)) : k0_mSl c h (.exc e s : Out D) = .exc e s := rfl
theorem k0_mSl_ok (c : M (Option Int)) (h : M (Option Int)) (x : D) : k0_mSl c h (.ok x s : Out D) = k1_mSl h x (c s) := rfl
theorem ev_mSl (a : M D) (c : M (Option Int)) (h : M (Option Int)) : mSl a c h s = k0_mSl c h (a s) := by unfold mSl; cases a s <;> first | rfl | (rename_i s1; simp only [Out.bind, Out.toS, k0_mSl]; cases c s1 <;> first | rfl | (rename_i s2; simp only [Out.bind, Out.toS, k1_mSl]; cases h s2 <;> rfl))
def k0_mCall (f : Fn) : Out (List D) → Out D
  | .ok ds s => ofRO (f ds s.box) s
  | .exc e s => .exc e s
  | .no => .no
theorem k0_mCall_exc (f : Fn) : k0_mCall f (.exc e s : Out (List D)) = .exc e s := rfl
theorem k0_mCall_ok (f : Fn) {ds : List D} : k0_mCall f (.ok ds s) = ofRO (f ds s.box) s := rfl
theorem ev_mCall (f : Fn) (a : M (List D)) : mCall f a s = k0_mCall f (a s) := by unfold mCall; cases a s <;> rfl
def k0_mVal  : Out D → Out SV
  | .ok x s => .ok (.d x) s
  | .exc e s => .exc e s
  | .no => .no
theorem k0_mVal_exc : k0_mVal  (.exc e s : Out D) = .exc e s := rfl
theorem k0_mVal_ok : k0_mVal  (.ok x s) = .ok (.d x) s := rfl
theorem ev_mVal (a : M D) : mVal a s = k0_mVal  (a s) := by unfold mVal; cases a s <;> rfl
def k0_mNew  : Out (List D) → Out SV
  | .ok xs s => .ok (.o xs) s
  | .exc e s => .exc e s
  | .no => .no
theorem k0_mNew_exc : k0_mNew  (.exc e s : Out (List D)) = .exc e s := rfl
theorem k0_mNew_ok  {xs : List D} : k0_mNew  (.ok xs s) = .ok (.o xs) s := rfl
theorem ev_mNew (a : M (List D)) : mNew a s = k0_mNew  (a s) := by unfold mNew; cases a s <;> rfl
def k0_fOr (c : M (List D)) : Out (List D) → Out (List D)
  | .ok xs s => if xs.isEmpty then c s else .ok xs s
  | .exc e s => .exc e s
  | .no => .no
theorem k0_fOr_exc (c : M (List D)) : k0_fOr c (.exc e s : Out (List D)) = .exc e s := rfl
theorem k0_fOr_ok (c : M (List D)) : k0_fOr c (.ok [] s) = c s := rfl
theorem k0_fOr_ok1 (c : M (List D)) {x : D} {xs : List D} : k0_fOr c (.ok (x :: xs) s) = .ok (x :: xs) s := rfl
theorem ev_fOr (a : M (List D)) (c : M (List D)) : fOr a c s = k0_fOr c (a s) := by unfold fOr; cases a s <;> rfl
def k0_iSeq  : Out D → Out (List D)
  | .ok x s => match x with
    | .tup ds => .ok ds s
    | .lst ds => .ok ds s
    | .str x => .ok (x.cps.toList.map fun c => .str ⟨#[c]⟩) s
    | _ => .no
  | .exc e s => .exc e s
  | .no => .no
theorem k0_iSeq_exc : k0_iSeq  (.exc e s : Out D) = .exc e s := rfl
theorem k0_iSeq_ok  {ds : List D} : k0_iSeq  (.ok (.tup ds) s) = .ok ds s := rfl
theorem k0_iSeq_ok1  {ds : List D} : k0_iSeq  (.ok (.lst ds) s) = .ok ds s := rfl
theorem k0_iSeq_ok2  {x : Str} : k0_iSeq  (.ok (.str x) s) = .ok (x.cps.toList.map fun c => .str ⟨#[c]⟩) s := rfl
theorem ev_iSeq (a : M D) : iSeq a s = k0_iSeq  (a s) := by unfold iSeq; cases a s <;> rfl
def k0_iRg1  : Out D → Out (List D)
  | .ok x s => match x with
    | .int j => if -(2 ^ 62) ≤ j ∧ j < 2 ^ 62 then .ok (rgD 0 j.toNat) s else .no
    | _ => .no
  | .exc e s => .exc e s
  | .no => .no
theorem k0_iRg1_exc : k0_iRg1  (.exc e s : Out D) = .exc e s := rfl
theorem k0_iRg1_ok  {j : Int} (h1 : -16777216 ≤ j) (h2 : j ≤ 16777216) : k0_iRg1  (.ok (.int j) s) = .ok (rgD 0 j.toNat) s := if_pos ⟨by omega, by omega⟩
theorem ev_iRg1 (a : M D) : iRg1 a s = k0_iRg1  (a s) := by unfold iRg1; cases a s <;> rfl
def k1_iRg2  (x : D) : Out D → Out (List D)
  | .ok y s => match x, y with
    | .int i, .int j => if -(2 ^ 62) ≤ i ∧ i < 2 ^ 62 ∧ -(2 ^ 62) ≤ j ∧ j < 2 ^ 62 then .ok (rgD i (j - i).toNat) s else .no
    | _, _ => .no
  | .exc e s => .exc e s
  | .no => .no
theorem k1_iRg2_exc  (x : D) : k1_iRg2 x (.exc e s : Out D) = .exc e s := rfl
theorem k1_iRg2_ok  {i j : Int} (h1 : -16777216 ≤ i) (h2 : i ≤ 16777216) (h3 : -16777216 ≤ j) (h4 : j ≤ 16777216) : k1_iRg2 (.int i) (.ok (.int j) s) = .ok (rgD i (j - i).toNat) s := if_pos ⟨by omega, by omega, by omega, by omega⟩
def k0_iRg2 (c : M D) : Out D → Out (List D)
  | .ok x s => k1_iRg2 x (c s)
  | .exc e s => .exc e s
  | .no => .no
theorem k0_iRg2_exc (c : M D) : k0_iRg2 c (.exc e s : Out D) = .exc e s := rfl
theorem k0_iRg2_ok (c : M D) (x : D) : k0_iRg2 c (.ok x s : Out D) = k1_iRg2 x (c s) := rfl
theorem ev_iRg2 (a : M D) (c : M D) : iRg2 a c s = k0_iRg2 c (a s) := by unfold iRg2; cases a s <;> first | rfl | (rename_i s1; simp only [Out.bind, Out.toS, k0_iRg2]; cases c s1 <;> rfl)
def k0_mRg1  : Out D → Out (List D)
  | .ok x s => match x with
    | .int j => if 0 ≤ j ∧ j ≤ 16777216 then .ok (rgD 0 j.toNat) s else .no
    | _ => .no
  | .exc e s => .exc e s
  | .no => .no
theorem k0_mRg1_exc : k0_mRg1  (.exc e s : Out D) = .exc e s := rfl
theorem k0_mRg1_ok  {j : Int} (h1 : 0 ≤ j) (h2 : j ≤ 16777216) : k0_mRg1  (.ok (.int j) s) = .ok (rgD 0 j.toNat) s := if_pos ⟨h1, h2⟩
theorem ev_mRg1 (a : M D) : mRg1 a s = k0_mRg1  (a s) := by unfold mRg1; cases a s <;> rfl
def k1_mRg2  (x : D) : Out D → Out (List D)
  | .ok y s => match x, y with
    | .int i, .int j => if 0 ≤ i ∧ i ≤ 16777216 ∧ 0 ≤ j ∧ j ≤ 16777216 then .ok (rgD i (j - i).toNat) s else .no
    | _, _ => .no
  | .exc e s => .exc e s
  | .no => .no
theorem k1_mRg2_exc  (x : D) : k1_mRg2 x (.exc e s : Out D) = .exc e s := rfl
theorem k1_mRg2_ok  {i j : Int} (h1 : 0 ≤ i) (h2 : i ≤ 16777216) (h3 : 0 ≤ j) (h4 : j ≤ 16777216) : k1_mRg2 (.int i) (.ok (.int j) s) = .ok (rgD i (j - i).toNat) s := if_pos ⟨h1, h2, h3, h4⟩
def k0_mRg2 (c : M D) : Out D → Out (List D)
  | .ok x s => k1_mRg2 x (c s)
  | .exc e s => .exc e s
  | .no => .no
theorem k0_mRg2_exc (c : M D) : k0_mRg2 c (.exc e s : Out D) = .exc e s := rfl
theorem k0_mRg2_ok (c : M D) (x : D) : k0_mRg2 c (.ok x s : Out D) = k1_mRg2 x (c s) := rfl
theorem ev_mRg2 (a : M D) (c : M D) : mRg2 a c s = k0_mRg2 c (a s) := by unfold mRg2; cases a s <;> first | rfl | (rename_i s1; simp only [Out.bind, Out.toS, k0_mRg2]; cases c s1 <;> rfl)
def k0_iEnM  : Out D → Out (List D)
  | .ok x s => match seqD x with
    | some (_, xs) => .ok (enD 0 xs) s
    | none => .no
  | .exc e s => .exc e s
  | .no => .no
theorem k0_iEnM_exc : k0_iEnM  (.exc e s : Out D) = .exc e s := rfl
theorem k0_iEnM_ok  {xs : List D} : k0_iEnM  (.ok (.lst xs) s) = .ok (enD 0 xs) s := rfl
theorem k0_iEnM_ok1  {xs : List D} : k0_iEnM  (.ok (.tup xs) s) = .ok (enD 0 xs) s := rfl
theorem ev_iEnM (a : M D) : iEnM a s = k0_iEnM  (a s) := by unfold iEnM; cases a s <;> rfl
def k1_iZpM  (x : D) : Out D → Out (List D)
  | .ok y s => match seqD x, seqD y with
    | some (_, xs), some (_, ys) => .ok (zpD xs ys) s
    | _, _ => .no
  | .exc e s => .exc e s
  | .no => .no
theorem k1_iZpM_exc  (x : D) : k1_iZpM x (.exc e s : Out D) = .exc e s := rfl
theorem k1_iZpM_ok  {xs ys : List D} : k1_iZpM (.lst xs) (.ok (.lst ys) s) = .ok (zpD xs ys) s := rfl
theorem k1_iZpM_ok1  {xs ys : List D} : k1_iZpM (.lst xs) (.ok (.tup ys) s) = .ok (zpD xs ys) s := rfl
theorem k1_iZpM_ok2  {xs ys : List D} : k1_iZpM (.tup xs) (.ok (.lst ys) s) = .ok (zpD xs ys) s := rfl
theorem k1_iZpM_ok3  {xs ys : List D} : k1_iZpM (.tup xs) (.ok (.tup ys) s) = .ok (zpD xs ys) s := rfl
def k0_iZpM (c : M D) : Out D → Out (List D)
  | .ok x s => k1_iZpM x (c s)
  | .exc e s => .exc e s
  | .no => .no
theorem k0_iZpM_exc (c : M D) : k0_iZpM c (.exc e s : Out D) = .exc e s := rfl
theorem k0_iZpM_ok (c : M D) (x : D) : k0_iZpM c (.ok x s : Out D) = k1_iZpM x (c s) := rfl
theorem ev_iZpM (a : M D) (c : M D) : iZpM a c s = k0_iZpM c (a s) := by unfold iZpM; cases a s <;> first | rfl | (rename_i s1; simp only [Out.bind, Out.toS, k0_iZpM]; cases c s1 <;> rfl)
def k1_mLzp  (x : D) : Out D → Out (List D)
  | .ok y s => match seqD x, seqD y with
    | some (_, xs), some (_, ys) => .ok (zpD xs ys) s
    | _, _ => .no
  | .exc e s => .exc e s
  | .no => .no
theorem k1_mLzp_exc  (x : D) : k1_mLzp x (.exc e s : Out D) = .exc e s := rfl
theorem k1_mLzp_ok  {xs ys : List D} : k1_mLzp (.lst xs) (.ok (.lst ys) s) = .ok (zpD xs ys) s := rfl
theorem k1_mLzp_ok1  {xs ys : List D} : k1_mLzp (.lst xs) (.ok (.tup ys) s) = .ok (zpD xs ys) s := rfl
theorem k1_mLzp_ok2  {xs ys : List D} : k1_mLzp (.tup xs) (.ok (.lst ys) s) = .ok (zpD xs ys) s := rfl
theorem k1_mLzp_ok3  {xs ys : List D} : k1_mLzp (.tup xs) (.ok (.tup ys) s) = .ok (zpD xs ys) s := rfl
def k0_mLzp (c : M D) : Out D → Out (List D)
  | .ok x s => k1_mLzp x (c s)
  | .exc e s => .exc e s
  | .no => .no
theorem k0_mLzp_exc (c : M D) : k0_mLzp c (.exc e s : Out D) = .exc e s := rfl
theorem k0_mLzp_ok (c : M D) (x : D) : k0_mLzp c (.ok x s : Out D) = k1_mLzp x (c s) := rfl
theorem ev_mLzp (a : M D) (c : M D) : mLzp a c s = k0_mLzp c (a s) := by unfold mLzp; cases a s <;> first | rfl | (rename_i s1; simp only [Out.bind, Out.toS, k0_mLzp]; cases c s1 <;> rfl)
def k0_sDrop  : Out D → SO
  | .ok x s => .nx s
  | .exc e s => .exc e s
  | .no => .no
theorem k0_sDrop_exc : k0_sDrop  (.exc e s : Out D) = .exc e s := rfl
theorem k0_sDrop_ok : k0_sDrop  (.ok x s) = .nx s := rfl
theorem ev_sDrop (a : M D) : sDrop a s = k0_sDrop  (a s) := by unfold sDrop; cases a s <;> rfl
def k0_sRet  : Out D → SO
  | .ok x s => .rt x s
  | .exc e s => .exc e s
  | .no => .no
theorem k0_sRet_exc : k0_sRet  (.exc e s : Out D) = .exc e s := rfl
theorem k0_sRet_ok : k0_sRet  (.ok x s) = .rt x s := rfl
theorem ev_sRet (a : M D) : sRet a s = k0_sRet  (a s) := by unfold sRet; cases a s <;> rfl
def k0_sIf (a : MS) (c : MS) : Out Bool → SO
  | .ok k s => if k then a s else c s
  | .exc e s => .exc e s
  | .no => .no
theorem k0_sIf_exc (a : MS) (c : MS) : k0_sIf a c (.exc e s : Out Bool) = .exc e s := rfl
theorem k0_sIf_ok (a : MS) (c : MS) : k0_sIf a c (.ok true s) = a s := rfl
theorem k0_sIf_ok1 (a : MS) (c : MS) : k0_sIf a c (.ok false s) = c s := rfl
theorem ev_sIf (t : M Bool) (a : MS) (c : MS) : sIf t a c s = k0_sIf a c (t s) := by unfold sIf; cases t s <;> rfl
def k0_sSet (i : Nat) : Out D → SO
  | .ok x s => .nx (setS i (.d x) s)
  | .exc e s => .exc e s
  | .no => .no
theorem k0_sSet_exc (i : Nat) : k0_sSet i (.exc e s : Out D) = .exc e s := rfl
theorem k0_sSet_ok (i : Nat) : k0_sSet i (.ok x s) = .nx (setS i (.d x) s) := rfl
theorem ev_sSet (i : Nat) (a : M D) : sSet i a s = k0_sSet i (a s) := by unfold sSet; cases a s <;> rfl
def k0_sSetF (i : Nat) : Out (List D) → SO
  | .ok xs s => .nx (setS i (.o xs) s)
  | .exc e s => .exc e s
  | .no => .no
theorem k0_sSetF_exc (i : Nat) : k0_sSetF i (.exc e s : Out (List D)) = .exc e s := rfl
theorem k0_sSetF_ok (i : Nat) {xs : List D} : k0_sSetF i (.ok xs s) = .nx (setS i (.o xs) s) := rfl
theorem ev_sSetF (i : Nat) (a : M (List D)) : sSetF i a s = k0_sSetF i (a s) := by unfold sSetF; cases a s <;> rfl
def k0_sFor (g : D → S → Option S) (ms : MS) : Out (List D) → SO
  | .ok ds s => sForL g ms ds s
  | .exc e s => .exc e s
  | .no => .no
theorem k0_sFor_exc (g : D → S → Option S) (ms : MS) : k0_sFor g ms (.exc e s : Out (List D)) = .exc e s := rfl
theorem k0_sFor_ok (g : D → S → Option S) (ms : MS) {ds : List D} : k0_sFor g ms (.ok ds s) = sForL g ms ds s := rfl
theorem ev_sFor (a : M (List D)) (g : D → S → Option S) (ms : MS) : sFor a g ms s = k0_sFor g ms (a s) := by unfold sFor; cases a s <;> rfl
def k1_sParV (i : Nat) (j : Nat) (u : SV) : Out SV → SO
  | .ok v s => .nx (setS j v (setS i u s))
  | .exc e s => .exc e s
  | .no => .no
theorem k1_sParV_exc (i : Nat) (j : Nat) (u : SV) : k1_sParV i j u (.exc e s : Out SV) = .exc e s := rfl
theorem k1_sParV_ok (i : Nat) (j : Nat) (u : SV) : k1_sParV i j u (.ok v s) = .nx (setS j v (setS i u s)) := rfl
def k0_sParV (i : Nat) (j : Nat) (c : M SV) : Out SV → SO
  | .ok u s => k1_sParV i j u (c s)
  | .exc e s => .exc e s
  | .no => .no
theorem k0_sParV_exc (i : Nat) (j : Nat) (c : M SV) : k0_sParV i j c (.exc e s : Out SV) = .exc e s := rfl
theorem k0_sParV_ok (i : Nat) (j : Nat) (c : M SV) (u : SV) : k0_sParV i j c (.ok u s : Out SV) = k1_sParV i j u (c s) := rfl
theorem ev_sParV (i : Nat) (j : Nat) (a : M SV) (c : M SV) : sParV i j a c s = k0_sParV i j c (a s) := by unfold sParV; cases a s <;> first | rfl | (rename_i s1; simp only [Out.bind, Out.toS, k0_sParV]; cases c s1 <;> rfl)
def k2_sPar3V (i : Nat) (j : Nat) (l : Nat) (u : SV) (v : SV) : Out SV → SO
  | .ok w s => .nx (setS l w (setS j v (setS i u s)))
  | .exc e s => .exc e s
  | .no => .no
theorem k2_sPar3V_exc (i : Nat) (j : Nat) (l : Nat) (u : SV) (v : SV) : k2_sPar3V i j l u v (.exc e s : Out SV) = .exc e s := rfl
theorem k2_sPar3V_ok (i : Nat) (j : Nat) (l : Nat) (u : SV) (v : SV) : k2_sPar3V i j l u v (.ok w s) = .nx (setS l w (setS j v (setS i u s))) := rfl
def k1_sPar3V (i : Nat) (j : Nat) (l : Nat) (h : M SV) (u : SV) : Out SV → SO
  | .ok v s => k2_sPar3V i j l u v (h s)
  | .exc e s => .exc e s
  | .no => .no
theorem k1_sPar3V_exc (i : Nat) (j : Nat) (l : Nat) (h : M SV) (u : SV) : k1_sPar3V i j l h u (.exc e s : Out SV) = .exc e s := rfl
theorem k1_sPar3V_ok (i : Nat) (j : Nat) (l : Nat) (h : M SV) (u : SV) (v : SV) : k1_sPar3V i j l h u (.ok v s : Out SV) = k2_sPar3V i j l u v (h s) := rfl
def k0_sPar3V (i : Nat) (j : Nat) (l : Nat) (c : M SV) (h : M SV) : Out SV → SO
  | .ok u s => k1_sPar3V i j l h u (c s)
  | .exc e s => .exc e s
  | .no => .no
theorem k0_sPar3V_exc (i : Nat) (j : Nat) (l : Nat) (c : M SV) (h : M SV) : k0_sPar3V i j l c h (.exc e s : Out SV) = .exc e s := rfl
theorem k0_sPar3V_ok (i : Nat) (j : Nat) (l : Nat) (c : M SV) (h : M SV) (u : SV) : k0_sPar3V i j l c h (.ok u s : Out SV) = k1_sPar3V i j l h u (c s) := rfl
theorem ev_sPar3V (i : Nat) (j : Nat) (l : Nat) (a : M SV) (c : M SV) (h : M SV) : sPar3V i j l a c h s = k0_sPar3V i j l c h (a s) := by unfold sPar3V; cases a s <;> first | rfl | (rename_i s1; simp only [Out.bind, Out.toS, k0_sPar3V]; cases c s1 <;> first | rfl | (rename_i s2; simp only [Out.bind, Out.toS, k1_sPar3V]; cases h s2 <;> rfl))
def k0_sAsg (g : D → S → Option S) : Out D → SO
  | .ok x s => match g x s with
    | some s2 => .nx s2
    | none => .no
  | .exc e s => .exc e s
  | .no => .no
theorem k0_sAsg_exc (g : D → S → Option S) : k0_sAsg g (.exc e s : Out D) = .exc e s := rfl
theorem k0_sAsg_ok (g : D → S → Option S) {s2 : S} (h : g x s = some s2) : k0_sAsg g (.ok x s) = .nx s2 := by show (match g x s with | some s2 => SO.nx s2 | none => .no) = _; rw [h]
theorem ev_sAsg (g : D → S → Option S) (a : M D) : sAsg g a s = k0_sAsg g (a s) := by unfold sAsg; cases a s <;> rfl
end
/-! ### by hand -/
section
variable {s s1 s2 : S} {e : Exn} {i j n k : Nat} {x y z d : D} {xs ys ds : List D} {env : List SV} {b b' : Box} {ms mb : MS} {g : D → S → Option S} {u v : SV} {tc : M Bool}
def kSeq (b : MS) : SO → SO
  | .nx s => b s
  | .rt d s => .rt d s
  | .bk s => .bk s
  | .ct s => .ct s
  | .exc e s => .exc e s
  | .no => .no
theorem ev_sSeq : sSeq ms mb s = kSeq mb (ms s) := by unfold sSeq kSeq SO.bind; cases ms s <;> rfl
theorem kSeq_nx : kSeq mb (.nx s) = mb s := rfl
theorem kSeq_rt : kSeq mb (.rt d s) = .rt d s := rfl
theorem kSeq_bk : kSeq mb (.bk s) = .bk s := rfl
theorem kSeq_ct : kSeq mb (.ct s) = .ct s := rfl
theorem kSeq_exc : kSeq mb (.exc e s) = .exc e s := rfl
theorem ev_sNx : sNx s = .nx s := rfl
theorem ev_sRaise : sRaise e s = .exc e s := rfl
theorem ev_con : con d s = .ok d s := rfl
theorem ev_aNil : aNil s = .ok [] s := rfl
theorem ev_oNo : oNo s = .ok none s := rfl
theorem ev_mYes : mYes s = .ok true s := rfl
theorem ev_box : (S.mk env b).box = b := rfl
theorem ev_setS : setS i u ⟨env, b⟩ = ⟨env.set i u, b⟩ := rfl
/-- rd by the slot's thing -/
def kRd (i : Nat) (s : S) : SV → Out D
  | .no => .no
  | .d x => .ok x s
  | .o xs => .ok (.lst xs) (setS i (.d (.lst xs)) s)
  | .bx => .ok .box s
  | .ok kvs => .ok (.dk kvs) (setS i (.d (.dk kvs)) s)
  | .ot kvs => .ok (.dt kvs) (setS i (.d (.dt kvs)) s)
theorem ev_rd : rd i ⟨env, b⟩ = kRd i ⟨env, b⟩ (env.getD i .no) := by unfold rd kRd; rfl
theorem kRd_d : kRd i s (.d x) = .ok x s := rfl
theorem kRd_o : kRd i s (.o xs) = .ok (.lst xs) (setS i (.d (.lst xs)) s) := rfl
theorem kRd_bx : kRd i s .bx = .ok .box s := rfl
def kLend (s : S) : SV → Out D
  | .d x => .ok x s
  | .o xs => .ok (.lst xs) s
  | .bx => .ok .box s
  | _ => .no
theorem ev_lend : lend i ⟨env, b⟩ = kLend ⟨env, b⟩ (env.getD i .no) := by unfold lend kLend; rfl
theorem kLend_d : kLend s (.d x) = .ok x s := rfl
theorem kLend_o : kLend s (.o xs) = .ok (.lst xs) s := rfl
theorem kLend_bx : kLend s .bx = .ok .box s := rfl
def kLook : SV → Option D
  | .d x => some x
  | .o xs => some (.lst xs)
  | .bx => some .box
  | _ => none
theorem ev_look : look i ⟨env, b⟩ = kLook (env.getD i .no) := by unfold look kLook; rfl
theorem kLook_d : kLook (.d x) = some x := rfl
theorem kLook_o : kLook (.o xs) = some (.lst xs) := rfl
theorem kLook_bx : kLook .bx = some .box := rfl
def kIxN2 (y : D) (s : S) : Option D → Out D
  | some x => ofO (dIx x y s) s
  | none => .no
def kIxN (i : Nat) : Out D → Out D
  | .ok y s1 => kIxN2 y s1 (look i s1)
  | .exc e s => .exc e s
  | .no => .no
def kIxN0 (i : Nat) (mb : M D) (s : S) : Option D → Out D
  | some _ => kIxN i (mb s)
  | none => .no
theorem ev_mIxN {mb : M D} : mIxN i mb s = kIxN0 i mb s (look i s) := by
  unfold mIxN kIxN0
  cases look i s with
  | none => rfl
  | some w =>
    show (mb s).bind _ = kIxN i (mb s)
    cases mb s with
    | ok y s1 => show (match look i s1 with | none => Out.no | some x => ofO (dIx x y s1) s1) = kIxN2 y s1 (look i s1); cases look i s1 <;> rfl
    | exc _ _ => rfl
    | no => rfl
theorem kIxN0_s {w : D} {mb : M D} : kIxN0 i mb s (some w) = kIxN i (mb s) := rfl
theorem kIxN_ok : kIxN i (.ok y s) = kIxN2 y s (look i s) := rfl
theorem kIxN2_s : kIxN2 y s (some x) = ofO (dIx x y s) s := rfl
def kM2N2 (g : D → D → Option Bool) (y : D) (s : S) : Option D → Out Bool
  | some x => ofO (g x y) s
  | none => .no
def kM2N (g : D → D → Option Bool) (i : Nat) : Out D → Out Bool
  | .ok y s1 => kM2N2 g y s1 (look i s1)
  | .exc e s => .exc e s
  | .no => .no
def kM2N0 (g : D → D → Option Bool) (i : Nat) (mb : M D) (s : S) : Option D → Out Bool
  | some _ => kM2N g i (mb s)
  | none => .no
theorem ev_m2N {g : D → D → Option Bool} {mb : M D} : m2N g i mb s = kM2N0 g i mb s (look i s) := by
  unfold m2N kM2N0
  cases look i s with
  | none => rfl
  | some w =>
    show (mb s).bind _ = kM2N g i (mb s)
    cases mb s with
    | ok y s1 => show (match look i s1 with | none => Out.no | some x => ofO (g x y) s1) = kM2N2 g y s1 (look i s1); cases look i s1 <;> rfl
    | exc _ _ => rfl
    | no => rfl
theorem kM2N0_s {g : D → D → Option Bool} {w : D} {mb : M D} : kM2N0 g i mb s (some w) = kM2N g i (mb s) := rfl
theorem kM2N_ok {g : D → D → Option Bool} : kM2N g i (.ok y s) = kM2N2 g y s (look i s) := rfl
theorem kM2N2_s {g : D → D → Option Bool} : kM2N2 g y s (some x) = ofO (g x y) s := rfl
def k2_m3b (h : D → D → Option Bool) (y : D) : Out D → Out Bool
  | .ok z s => ofO (h y z) s
  | .exc e s => .exc e s
  | .no => .no
def kc_m3b (h : D → D → Option Bool) (m : M D) (y : D) (s : S) : Option Bool → Out Bool
  | some true => k2_m3b h y (m s)
  | some false => .ok false s
  | none => .no
def k1_m3b (g h : D → D → Option Bool) (m : M D) (x : D) : Out D → Out Bool
  | .ok y s => kc_m3b h m y s (g x y)
  | .exc e s => .exc e s
  | .no => .no
def k0_m3b (g h : D → D → Option Bool) (c m : M D) : Out D → Out Bool
  | .ok x s => k1_m3b g h m x (c s)
  | .exc e s => .exc e s
  | .no => .no
theorem ev_m3b {g h : D → D → Option Bool} {a c m : M D} : m3b g h a c m s = k0_m3b g h c m (a s) := by
  unfold m3b
  cases a s with
  | ok x s1 =>
    simp only [Out.bind, k0_m3b]
    cases c s1 with
    | ok y s2 =>
      simp only [Out.bind, k1_m3b]
      cases g x y with
      | none => rfl
      | some k =>
        cases k with
        | false => rfl
        | true =>
          show (m s2).bind _ = k2_m3b h y (m s2)
          cases m s2 <;> rfl
    | exc _ _ => rfl
    | no => rfl
  | exc _ _ => rfl
  | no => rfl
theorem k0_m3b_ok {g h : D → D → Option Bool} {c m : M D} : k0_m3b g h c m (.ok x s) = k1_m3b g h m x (c s) := rfl
theorem k1_m3b_ok {g h : D → D → Option Bool} {m : M D} : k1_m3b g h m x (.ok y s) = kc_m3b h m y s (g x y) := rfl
theorem kc_m3b_t {h : D → D → Option Bool} {m : M D} : kc_m3b h m y s (some true) = k2_m3b h y (m s) := rfl
theorem kc_m3b_f {h : D → D → Option Bool} {m : M D} : kc_m3b h m y s (some false) = .ok false s := rfl
theorem k2_m3b_ok {h : D → D → Option Bool} : k2_m3b h y (.ok z s) = ofO (h y z) s := rfl
def kApp2 (i : Nat) (x : D) (s : S) : SV → Out D
  | .o xs => if xs.length < sizeLine then .ok .non (setS i (.o (xs ++ [x])) s) else .no
  | _ => .no
def kApp (i : Nat) : Out D → Out D
  | .ok x s1 => kApp2 i x s1 (getS i s1)
  | .exc e s => .exc e s
  | .no => .no
def kApp0 (i : Nat) (m : M D) (s : S) : SV → Out D
  | .o _ => kApp i (m s)
  | _ => .no
theorem ev_mApp {m : M D} : mApp i m s = kApp0 i m s (getS i s) := by
  unfold mApp kApp0
  cases getS i s <;> first | rfl | (show (m s).bind _ = kApp i (m s); cases m s with
    | ok y s1 => show (match getS i s1 with | .o xs => if xs.length < sizeLine then Out.ok D.non (setS i (.o (xs ++ [y])) s1) else .no | _ => .no) = kApp2 i y s1 (getS i s1); cases getS i s1 <;> rfl
    | exc _ _ => rfl
    | no => rfl)
theorem kApp0_o {m : M D} : kApp0 i m s (.o xs) = kApp i (m s) := rfl
theorem kApp_ok : kApp i (.ok x s) = kApp2 i x s (getS i s) := rfl
theorem kApp2_o (hl : xs.length < 100000) : kApp2 i x s (.o xs) = .ok .non (setS i (.o (xs ++ [x])) s) := by
  show (if xs.length < sizeLine then _ else _) = _
  rw [if_pos (by have := PySem.sizeLine_eq; omega)]
def kExt2 (i : Nat) (d : D) (s : S) : SV → Out D
  | .o xs => (match d with
    | .lst ys => if xs.length + ys.length ≤ sizeLine then .ok .non (setS i (.o (xs ++ ys)) s) else .no
    | _ => .no)
  | _ => .no
def kExt (i : Nat) : Out D → Out D
  | .ok d s1 => kExt2 i d s1 (getS i s1)
  | .exc e s => .exc e s
  | .no => .no
def kExt0 (i : Nat) (m : M D) (s : S) : SV → Out D
  | .o _ => kExt i (m s)
  | _ => .no
theorem ev_mExt {m : M D} : mExt i m s = kExt0 i m s (getS i s) := by
  unfold mExt kExt0
  cases getS i s <;> first | rfl | (show (m s).bind _ = kExt i (m s); cases m s with
    | ok y s1 => show (match y, getS i s1 with | .lst ys, .o xs => if xs.length + ys.length ≤ sizeLine then Out.ok D.non (setS i (.o (xs ++ ys)) s1) else .no | _, _ => .no) = kExt2 i y s1 (getS i s1); cases getS i s1 <;> cases y <;> rfl
    | exc _ _ => rfl
    | no => rfl)
theorem kExt0_o {m : M D} : kExt0 i m s (.o xs) = kExt i (m s) := rfl
theorem kExt_ok : kExt i (.ok x s) = kExt2 i x s (getS i s) := rfl
theorem kExt2_o (hl : xs.length + ys.length ≤ 100000) : kExt2 i (.lst ys) s (.o xs) = .ok .non (setS i (.o (xs ++ ys)) s) := by
  show (if _ then _ else _) = _
  rw [if_pos (small_line hl)]
def kPop (i : Nat) (s : S) : SV → Out D
  | .o xs => popO i xs s
  | _ => .no
theorem ev_mPop : mPop i s = kPop i s (getS i s) := by unfold mPop kPop; cases getS i s <;> rfl
theorem kPop_o {l : List D} : kPop i s (.o (l ++ [x])) = .ok x (setS i (.o l) s) := by
  show popO i (l ++ [x]) s = _
  unfold popO
  have e : (l ++ [x])[(l ++ [x]).length - 1]? = some x := by simp
  rw [e]
  simp
def kPutIx2 (i : Nat) (x : D) : Out D → SO
  | .ok y s2 => putIx i y x s2
  | .exc e s => .exc e s
  | .no => .no
def kPutIx1 (i : Nat) (mi : M D) (x : D) (s : S) : Option D → SO
  | some _ => kPutIx2 i x (mi s)
  | none => .no
def kPutIx (i : Nat) (mi : M D) : Out D → SO
  | .ok x s1 => kPutIx1 i mi x s1 (look i s1)
  | .exc e s => .exc e s
  | .no => .no
theorem ev_sPutIx {mi me : M D} : sPutIx i mi me s = kPutIx i mi (me s) := by
  unfold sPutIx
  cases me s with
  | ok x s1 =>
    show (match look i s1 with
    | none => SO.no
    | some _ => (mi s1).toS fun y s2 => putIx i y x s2) = kPutIx1 i mi x s1 (look i s1)
    cases look i s1 with
    | none => rfl
    | some w => show (mi s1).toS _ = kPutIx2 i x (mi s1); cases mi s1 <;> rfl
  | exc _ _ => rfl
  | no => rfl
theorem kPutIx_ok {mi : M D} : kPutIx i mi (.ok x s) = kPutIx1 i mi x s (look i s) := rfl
theorem kPutIx1_s {mi : M D} {w : D} : kPutIx1 i mi x s (some w) = kPutIx2 i x (mi s) := rfl
theorem kPutIx2_ok : kPutIx2 i x (.ok y s) = putIx i y x s := rfl
def kPut (i : Nat) (y x : D) (s : S) (v : SV) : SO := match v, y with
  | .o xs, .int k => putL i k x xs s
  | .bx, .int k => putBox k x s
  | .d .box, .int k => putBox k x s
  | _, _ => .no
theorem ev_putIx : putIx i y x s = kPut i y x s (getS i s) := rfl
theorem kPut_o {q : Int} : kPut i (.int q) x s (.o xs) = putL i q x xs s := rfl
theorem kPut_bx {q : Int} : kPut i (.int q) x s .bx = putBox q x s := rfl
theorem kPut_dbx {q : Int} : kPut i (.int q) x s (.d .box) = putBox q x s := rfl
theorem ev_getS : getS i ⟨env, b⟩ = env.getD i .no := rfl
theorem ev_gN : gN i d s = some (setS i (.d d) s) := rfl
theorem ev_gNil : gNil' [] s = some s := rfl
def kG (h : List D → S → Option S) (r : List D) : Option S → Option S
  | some s => h r s
  | none => none
theorem ev_gCons {h : List D → S → Option S} : gCons' g h (d :: ds) s = kG h ds (g d s) := by show (g d s).bind (h ds) = _; unfold kG; cases g d s <;> rfl
theorem kG_some {h : List D → S → Option S} : kG h ds (some s) = h ds s := rfl
theorem ev_gT {h : List D → S → Option S} (hl : ds.length = n) : gT n h (.tup ds) s = h ds s := by unfold gT; exact if_pos hl
theorem ofRO_ok : ofRO (.ok d b') ⟨env, b⟩ = .ok d ⟨env, b'⟩ := rfl
theorem ofRO_exc : ofRO (.exc e b') ⟨env, b⟩ = .exc e ⟨env, b'⟩ := rfl
theorem outOf_nx : outOf (.nx s) = .ok .non s.box := rfl
theorem outOf_rt : outOf (.rt d s) = .ok d s.box := rfl
theorem outOf_exc : outOf (.exc e s) = .exc e s.box := rfl
/-- one turn of a for -/
def kFor (g : D → S → Option S) (mb : MS) (r : List D) : Option S → SO
  | none => .no
  | some s => (match mb s with
    | .nx s2 => sForL g mb r s2
    | .ct s2 => sForL g mb r s2
    | .bk s2 => .nx s2
    | o => o)
def kFor2 (g : D → S → Option S) (mb : MS) (r : List D) : SO → SO
  | .nx s2 => sForL g mb r s2
  | .ct s2 => sForL g mb r s2
  | .bk s2 => .nx s2
  | o => o
theorem ev_for_cons : sForL g mb (d :: ds) s = kFor g mb ds (g d s) := by
  unfold kFor
  show (match g d s with
    | none => SO.no
    | some s1 => _) = _
  cases g d s <;> rfl
theorem kFor_some : kFor g mb ds (some s) = kFor2 g mb ds (mb s) := by unfold kFor kFor2; rfl
theorem kFor2_nx : kFor2 g mb ds (.nx s) = sForL g mb ds s := rfl
theorem kFor2_ct : kFor2 g mb ds (.ct s) = sForL g mb ds s := rfl
theorem kFor2_bk : kFor2 g mb ds (.bk s) = .nx s := rfl
theorem kFor2_rt : kFor2 g mb ds (.rt d s) = .rt d s := rfl
theorem kFor2_exc : kFor2 g mb ds (.exc e s) = .exc e s := rfl
/-- one turn of a while -/
def kWh2 (tc : M Bool) (mb : MS) (n : Nat) : SO → SO
  | .nx s2 => sWhile tc mb n s2
  | .ct s2 => sWhile tc mb n s2
  | .bk s2 => .nx s2
  | o => o
def kWh (tc : M Bool) (mb : MS) (n : Nat) : Out Bool → SO
  | .ok true s => kWh2 tc mb n (mb s)
  | .ok false s => .nx s
  | .exc e s => .exc e s
  | .no => .no
theorem ev_while : sWhile tc mb (n + 1) s = kWh tc mb n (tc s) := by
  show ((tc s).toS fun k s1 => if k then (match mb s1 with
      | .nx s2 => sWhile tc mb n s2
      | .ct s2 => sWhile tc mb n s2
      | .bk s2 => .nx s2
      | o => o) else .nx s1) = _
  cases tc s with
  | ok k s1 =>
    cases k with
    | true => show (if true = true then kWh2 tc mb n (mb s1) else SO.nx s1) = kWh2 tc mb n (mb s1); rw [if_pos rfl]
    | false => rfl
  | exc _ _ => rfl
  | no => rfl
theorem kWh_t : kWh tc mb n (.ok true s) = kWh2 tc mb n (mb s) := rfl
theorem kWh_f : kWh tc mb n (.ok false s) = .nx s := rfl
theorem kWh2_nx : kWh2 tc mb n (.nx s) = sWhile tc mb n s := rfl
theorem kWh2_bk : kWh2 tc mb n (.bk s) = .nx s := rfl
theorem kWh2_ct : kWh2 tc mb n (.ct s) = sWhile tc mb n s := rfl
theorem kWh2_rt : kWh2 tc mb n (.rt d s) = .rt d s := rfl
end
def EV0 := And.intro @ofO_s (And.intro @k1_m2_exc (And.intro @k1_m2_ok (And.intro @k0_m2_exc (And.intro @k0_m2_ok (And.intro @ev_m2 (And.intro @k1_m2b_exc (And.intro @k1_m2b_ok (And.intro @k0_m2b_exc (And.intro @k0_m2b_ok (And.intro @ev_m2b (And.intro @k0_mB_exc (And.intro @k0_mB_ok (And.intro @ev_mB (And.intro @k0_mT_exc (And.intro @k0_mT_ok (And.intro @ev_mT (And.intro @k0_mNeg_exc (And.intro @k0_mNeg_ok (And.intro @ev_mNeg (And.intro @k0_tAndM_exc (And.intro @k0_tAndM_ok (And.intro @k0_tAndM_ok1 (@ev_tAndM)))))))))))))))))))))))
def EV1 := And.intro @k0_tOrM_exc (And.intro @k0_tOrM_ok (And.intro @k0_tOrM_ok1 (And.intro @ev_tOrM (And.intro @k0_tNotM_exc (And.intro @k0_tNotM_ok (And.intro @ev_tNotM (And.intro @k0_mAnd_exc (And.intro @k0_mAnd_ok (And.intro @k0_mAnd_ok1 (And.intro @ev_mAnd (And.intro @k0_mOr_exc (And.intro @k0_mOr_ok (And.intro @k0_mOr_ok1 (And.intro @ev_mOr (And.intro @k0_mNot_exc (And.intro @k0_mNot_ok (And.intro @ev_mNot (And.intro @k0_mIf_exc (And.intro @k0_mIf_ok (And.intro @k0_mIf_ok1 (And.intro @ev_mIf (And.intro @k1_aCons_exc (@k1_aCons_ok)))))))))))))))))))))))
def EV2 := And.intro @k0_aCons_exc (And.intro @k0_aCons_ok (And.intro @ev_aCons (And.intro @k0_mTup_exc (And.intro @k0_mTup_ok (And.intro @ev_mTup (And.intro @k0_lNew_exc (And.intro @k0_lNew_ok (And.intro @ev_lNew (And.intro @k0_fz_exc (And.intro @k0_fz_ok (And.intro @ev_fz (And.intro @k0_mLst_exc (And.intro @k0_mLst_ok (And.intro @ev_mLst (And.intro @k0_mB1_exc (And.intro @k0_mB1_ok (And.intro @ev_mB1 (And.intro @k0_m1_exc (And.intro @k0_m1_ok (And.intro @ev_m1 (And.intro @k0_mB1F_exc (And.intro @k0_mB1F_ok (@ev_mB1F)))))))))))))))))))))))
def EV3 := And.intro @k1_mIx_exc (And.intro @k1_mIx_ok (And.intro @k0_mIx_exc (And.intro @k0_mIx_ok (And.intro @ev_mIx (And.intro @k0_oIn_exc (And.intro @k0_oIn_ok (And.intro @ev_oIn (And.intro @k2_mSl_exc (And.intro @k2_mSl_ok (And.intro @k1_mSl_exc (And.intro @k1_mSl_ok (And.intro @k0_mSl_exc (And.intro @k0_mSl_ok (And.intro @ev_mSl (And.intro @k0_mCall_exc (And.intro @k0_mCall_ok (And.intro @ev_mCall (And.intro @k0_mVal_exc (And.intro @k0_mVal_ok (And.intro @ev_mVal (And.intro @k0_mNew_exc (And.intro @k0_mNew_ok (@ev_mNew)))))))))))))))))))))))
def EV4 := And.intro @k0_fOr_exc (And.intro @k0_fOr_ok (And.intro @k0_fOr_ok1 (And.intro @ev_fOr (And.intro @k0_iSeq_exc (And.intro @k0_iSeq_ok (And.intro @k0_iSeq_ok1 (And.intro @k0_iSeq_ok2 (And.intro @ev_iSeq (And.intro @k0_iRg1_exc (And.intro @k0_iRg1_ok (And.intro @ev_iRg1 (And.intro @k1_iRg2_exc (And.intro @k1_iRg2_ok (And.intro @k0_iRg2_exc (And.intro @k0_iRg2_ok (And.intro @ev_iRg2 (And.intro @k0_mRg1_exc (And.intro @k0_mRg1_ok (And.intro @ev_mRg1 (And.intro @k1_mRg2_exc (And.intro @k1_mRg2_ok (And.intro @k0_mRg2_exc (@k0_mRg2_ok)))))))))))))))))))))))
def EV5 := And.intro @ev_mRg2 (And.intro @k0_iEnM_exc (And.intro @k0_iEnM_ok (And.intro @k0_iEnM_ok1 (And.intro @ev_iEnM (And.intro @k1_iZpM_exc (And.intro @k1_iZpM_ok (And.intro @k1_iZpM_ok1 (And.intro @k1_iZpM_ok2 (And.intro @k1_iZpM_ok3 (And.intro @k0_iZpM_exc (And.intro @k0_iZpM_ok (And.intro @ev_iZpM (And.intro @k1_mLzp_exc (And.intro @k1_mLzp_ok (And.intro @k1_mLzp_ok1 (And.intro @k1_mLzp_ok2 (And.intro @k1_mLzp_ok3 (And.intro @k0_mLzp_exc (And.intro @k0_mLzp_ok (And.intro @ev_mLzp (And.intro @k0_sDrop_exc (And.intro @k0_sDrop_ok (@ev_sDrop)))))))))))))))))))))))
def EV6 := And.intro @k0_sRet_exc (And.intro @k0_sRet_ok (And.intro @ev_sRet (And.intro @k0_sIf_exc (And.intro @k0_sIf_ok (And.intro @k0_sIf_ok1 (And.intro @ev_sIf (And.intro @k0_sSet_exc (And.intro @k0_sSet_ok (And.intro @ev_sSet (And.intro @k0_sSetF_exc (And.intro @k0_sSetF_ok (And.intro @ev_sSetF (And.intro @k0_sFor_exc (And.intro @k0_sFor_ok (And.intro @ev_sFor (And.intro @k1_sParV_exc (And.intro @k1_sParV_ok (And.intro @k0_sParV_exc (And.intro @k0_sParV_ok (And.intro @ev_sParV (And.intro @k2_sPar3V_exc (And.intro @k2_sPar3V_ok (@k1_sPar3V_exc)))))))))))))))))))))))
def EV7 := And.intro @k1_sPar3V_ok (And.intro @k0_sPar3V_exc (And.intro @k0_sPar3V_ok (And.intro @ev_sPar3V (And.intro @k0_sAsg_exc (And.intro @k0_sAsg_ok (And.intro @ev_sAsg (And.intro @ev_sSeq (And.intro @kSeq_nx (And.intro @kSeq_rt (And.intro @kSeq_bk (And.intro @kSeq_ct (And.intro @kSeq_exc (And.intro @ev_sNx (And.intro @ev_sRaise (And.intro @ev_con (And.intro @ev_aNil (And.intro @ev_oNo (And.intro @ev_mYes (And.intro @ev_box (And.intro @ev_setS (And.intro @ev_rd (And.intro @kRd_d (@kRd_o)))))))))))))))))))))))
def EV8 := And.intro @kRd_bx (And.intro @ev_lend (And.intro @kLend_d (And.intro @kLend_o (And.intro @kLend_bx (And.intro @ev_look (And.intro @kLook_d (And.intro @kLook_o (And.intro @kLook_bx (And.intro @ev_mIxN (And.intro @kIxN0_s (And.intro @kIxN_ok (And.intro @kIxN2_s (And.intro @ev_m2N (And.intro @kM2N0_s (And.intro @kM2N_ok (And.intro @kM2N2_s (And.intro @ev_m3b (And.intro @k0_m3b_ok (And.intro @k1_m3b_ok (And.intro @kc_m3b_t (And.intro @kc_m3b_f (And.intro @k2_m3b_ok (@ev_mApp)))))))))))))))))))))))
def EV9 := And.intro @kApp0_o (And.intro @kApp_ok (And.intro @kApp2_o (And.intro @ev_mExt (And.intro @kExt0_o (And.intro @kExt_ok (And.intro @kExt2_o (And.intro @ev_getS (And.intro @ev_mPop (And.intro @kPop_o (And.intro @ev_sPutIx (And.intro @kPutIx_ok (And.intro @kPutIx1_s (And.intro @kPutIx2_ok (And.intro @ev_putIx (And.intro @kPut_o (And.intro @kPut_bx (And.intro @kPut_dbx (And.intro @ev_gN (And.intro @ev_gNil (And.intro @ev_gCons (And.intro @kG_some (And.intro @ev_gT (@ofRO_ok)))))))))))))))))))))))
def EV10 := And.intro @ofRO_exc (And.intro @outOf_nx (And.intro @outOf_rt (And.intro @outOf_exc (And.intro @ev_for_cons (And.intro @kFor_some (And.intro @kFor2_nx (And.intro @kFor2_ct (And.intro @kFor2_bk (And.intro @kFor2_rt (@kFor2_exc))))))))))
end Pv
end B_ev_

section B_dat_
set_option Elab.async false
set_option linter.all false
set_option maxRecDepth 100000
set_option maxHeartbeats 4000000
namespace K
open PySem PySem.Spec PyProof.Rows L2 Pv
/-! ### plain facts of data, for simp -/
def natD (n : Nat) : D := .int (n : Int)
theorem natD_eq (n : Nat) : natD n = .int (n : Int) := rfl
theorem ltI (i j : Int) : dOrd (fun i j => decide (i < j)) strLt (.int i) (.int j) = some (decide (i < j)) := rfl
theorem leI (i j : Int) : dOrd (fun i j => decide (i ≤ j)) (fun a b => !strLt b a) (.int i) (.int j) = some (decide (i ≤ j)) := rfl
theorem gtI (i j : Int) : dOrd (fun i j => decide (j < i)) (fun a b => strLt b a) (.int i) (.int j) = some (decide (j < i)) := rfl
theorem geI (i j : Int) : dOrd (fun i j => decide (j ≤ i)) (fun a b => !strLt a b) (.int i) (.int j) = some (decide (j ≤ i)) := rfl
theorem addI (i j : Int) : dAdd (.int i) (.int j) = some (.int (i + j)) := rfl
theorem subI (i j : Int) : dSub (.int i) (.int j) = some (.int (i - j)) := rfl
theorem mulI {x y : Int} (h : x.natAbs < 2 ^ 64 ∨ y.natAbs < 2 ^ 64) : dMul (.int x) (.int y) = some (.int (x * y)) := by
  show (if x.natAbs.log2 + y.natAbs.log2 < 1000000 ∨ (x.natAbs < 2 ^ 64 ∨ y.natAbs < 2 ^ 64) then some (D.int (x * y)) else none) = _
  rw [if_pos (.inr h)]
theorem mulI1 {x y : Int} (h : x.natAbs < 2 ^ 64) : dMul (.int x) (.int y) = some (.int (x * y)) := mulI (.inl h)
theorem mulI2 {x y : Int} (h : y.natAbs < 2 ^ 64) : dMul (.int x) (.int y) = some (.int (x * y)) := mulI (.inr h)
theorem log_lt {n : Int} (h : n.natAbs < 2 ^ 9000) : n.natAbs.log2 < 9000 := by
  by_cases e : n.natAbs = 0
  · rw [e]; decide
  · exact (Nat.log2_lt e).mpr h
theorem big9 {n : Nat} (h : n < 2 ^ 128) : n < 2 ^ 9000 := Nat.lt_of_lt_of_le h (Nat.pow_le_pow_right (by decide) (by decide))
theorem divI {x n : Int} (h : 0 < n) (g : n.natAbs < 2 ^ 128) : dDiv (.int x) (.int n) = some (.int (x / n)) := by
  show (if 0 < n ∧ n.natAbs.log2 < 9000 then some (D.int (x / n)) else none) = _
  rw [if_pos ⟨h, log_lt (big9 g)⟩]
theorem modI {x n : Int} (h : 0 < n) : dMod (.int x) (.int n) = some (.int (x % n)) := by
  show (if 0 < n then some (D.int (x % n)) else none) = _
  rw [if_pos h]
theorem iaddI (i j : Int) : dIadd (.int i) (.int j) = some (.int (i + j)) := rfl
theorem eqI (i j : Int) : dEq (.int i) (.int j) = some (decide (i = j)) := by
  show some (i == j) = _
  congr 1
theorem eqS (i j : Str) : dEq (.str i) (.str j) = some (i == j) := rfl
theorem eqB (i j : Bool) : dEq (.bl i) (.bl j) = some (i == j) := rfl
theorem isN_t : dIsN .non .non = some true := rfl
theorem isN_i (i : Int) : dIsN (.int i) .non = some false := rfl
theorem isN_p (l : List D) : dIsN (.tup l) .non = some false := rfl
theorem isN_l (l : List D) : dIsN (.lst l) .non = some false := rfl
theorem isN_s (l : Str) : dIsN (.str l) .non = some false := rfl
theorem notN_t : dNotN .non .non = some false := rfl
theorem notN_i (i : Int) : dNotN (.int i) .non = some true := rfl
theorem notN_p (l : List D) : dNotN (.tup l) .non = some true := rfl
theorem notN_l (l : List D) : dNotN (.lst l) .non = some true := rfl
theorem notN_s (l : Str) : dNotN (.str l) .non = some true := rfl
theorem lenL (l : List D) : dLen (.lst l) = some (.int (l.length : Nat)) := rfl
theorem lenT (l : List D) : dLen (.tup l) = some (.int (l.length : Nat)) := rfl
theorem lenS {z : Str} (h : z.length ≤ 100000) : dLen (.str z) = some (.int (z.length : Nat)) := if_pos (small_line h)
theorem tupleL (l : List D) : dTuple (.lst l) = some (.tup l) := rfl
theorem tupleT (l : List D) : dTuple (.tup l) = some (.tup l) := rfl
theorem listL (l : List D) : dList (.lst l) = some l := rfl
theorem listT (l : List D) : dList (.tup l) = some l := rfl
theorem absD (i : Int) : dAbs (.int i) = some (.int (if i < 0 then -i else i)) := rfl
theorem intI (i : Int) : dIntS (.int i) = some (.int i) := rfl
theorem intB (k : Bool) : dIntS (.bl k) = some (.int (if k = true then 1 else 0)) := rfl
theorem ixL (l : List D) (i : Int) (s : S) : dIx (.lst l) (.int i) s = atI l i := rfl
theorem ixT (l : List D) (i : Int) (s : S) : dIx (.tup l) (.int i) s = atI l i := rfl
theorem slL (l : List D) (lo hi : Option Int) : dSl (.lst l) lo hi = some (.lst (Pv.cutD l lo hi)) := rfl
theorem slT (l : List D) (lo hi : Option Int) : dSl (.tup l) lo hi = some (.tup (Pv.cutD l lo hi)) := rfl
theorem backL (l : List D) : dBack (.lst l) = some (.lst l.reverse) := rfl
theorem backT (l : List D) : dBack (.tup l) = some (.tup l.reverse) := rfl
theorem catL {a b : List D} (h : a.length + b.length ≤ 100000) : dAdd (.lst a) (.lst b) = some (.lst (a ++ b)) := if_pos (small_line h)
theorem catT {a b : List D} (h : a.length + b.length ≤ 100000) : dAdd (.tup a) (.tup b) = some (.tup (a ++ b)) := if_pos (small_line h)
theorem catS {a b : Str} (h : a.length + b.length ≤ 100000) : dAdd (.str a) (.str b) = some (.str (a ++ b)) := if_pos (small_line h)
theorem intsD_map (f : α → Int) : ∀ l : List α, intsD (l.map fun x => D.int (f x)) = some (l.map f)
  | [] => rfl
  | x :: r => by show (intsD (r.map _)).map (f x :: ·) = _; rw [intsD_map f r]; rfl
theorem blsD_of (f : α → Bool) : ∀ l : List α, blsD (l.map fun x => D.bl (f x)) = some (l.map f)
  | [] => rfl
  | x :: r => by show (blsD (r.map _)).map (f x :: ·) = _; rw [blsD_of f r]; rfl
theorem strsD_of (f : α → Str) : ∀ l : List α, strsD (l.map fun x => D.str (f x)) = some (l.map f)
  | [] => rfl
  | x :: r => by show (strsD (r.map _)).map (f x :: ·) = _; rw [strsD_of f r]; rfl
theorem sumL (f : α → Int) (l : List α) : dSum (.lst (l.map fun x => D.int (f x))) = some (.int (l.map f).sum) := by show ((intsD _).map _) = _; rw [intsD_map]; rfl
theorem sumT (f : α → Int) (l : List α) : dSum (.tup (l.map fun x => D.int (f x))) = some (.int (l.map f).sum) := by show ((intsD _).map _) = _; rw [intsD_map]; rfl
theorem allL (f : α → Bool) (l : List α) : dAll (.lst (l.map fun x => D.bl (f x))) = some (.bl (l.all f)) := by show ((blsD _).map _) = _; rw [blsD_of]; simp [List.all_map, Function.comp_def]
theorem anyL (f : α → Bool) (l : List α) : dAny (.lst (l.map fun x => D.bl (f x))) = some (.bl (l.any f)) := by show ((blsD _).map _) = _; rw [blsD_of]; simp [List.any_map, Function.comp_def]
theorem atI_map' (f : α → D) (l : List α) (i : Int) : atI (l.map f) i = (atI l i).map f := by
  cases h : atI l i with
  | some x => exact Pv.atI_map h
  | none =>
    unfold atI at h ⊢
    rw [List.length_map]
    revert h
    cases ixN l.length i with
    | none => intro _; rfl
    | some k => intro h; simp only [Option.bind_some] at h ⊢; rw [List.getElem?_map, h]
theorem ixN_nat {n k : Nat} (h : k < n) : ixN n (k : Int) = some k := by unfold ixN; rw [if_pos (by omega), if_pos (by omega)]; rfl
theorem atI_nat {l : List α} {k : Nat} : atI l (k : Int) = l[k]? := by
  unfold atI
  by_cases h : k < l.length
  · rw [ixN_nat h]; rfl
  · unfold ixN
    rw [if_pos (by omega), if_neg (by omega), List.getElem?_eq_none (by omega)]
    rfl
theorem atI_0 {x : α} {l : List α} : atI (x :: l) 0 = some x := (atI_nat (k := 0)).trans rfl
theorem atI_1 {x y : α} {l : List α} : atI (x :: y :: l) 1 = some y := (atI_nat (k := 1)).trans rfl
theorem atI_2 {x y z : α} {l : List α} : atI (x :: y :: z :: l) 2 = some z := (atI_nat (k := 2)).trans rfl
theorem atI_3 {x y z w : α} {l : List α} : atI (x :: y :: z :: w :: l) 3 = some w := (atI_nat (k := 3)).trans rfl
theorem atI_last {l : List α} : atI l (-1) = l.getLast? := by
  unfold atI ixN
  rw [if_neg (by omega)]
  by_cases h : l = []
  · subst h; rfl
  · have : 0 < l.length := List.length_pos_iff.mpr h
    rw [if_pos (by omega), List.getLast?_eq_getElem?]
    show l[(-1 + (l.length : Int)).toNat]? = _
    congr 1
    omega
theorem atI_neg {l : List α} {k : Nat} (h : 0 < k) (g : k ≤ l.length) : atI l (-(k : Int)) = l[l.length - k]? := by
  unfold atI ixN
  rw [if_neg (by omega), if_pos (by omega)]
  show l[(-(k : Int) + (l.length : Int)).toNat]? = _
  congr 1
  omega
theorem cut_hi {l : List α} {k : Nat} : Pv.cutD l none (some (k : Int)) = l.take k := by
  unfold Pv.cutD
  rw [show HT.sIx l.length l.length (some (k : Int)) = min k l.length from HT.sIx_nat _ _ _, show HT.sIx l.length 0 none = 0 from rfl]
  simp
theorem cut_lo {l : List α} {k : Nat} : Pv.cutD l (some (k : Int)) none = l.drop k := by
  unfold Pv.cutD
  rw [show HT.sIx l.length 0 (some (k : Int)) = min k l.length from HT.sIx_nat _ _ _, show HT.sIx l.length l.length none = l.length from rfl]
  by_cases h : k ≤ l.length
  · rw [Nat.min_eq_left h, List.take_of_length_le (by rw [List.length_drop]; exact Nat.le_refl _)]
  · rw [Nat.min_eq_right (by omega), List.drop_eq_nil_of_le (Nat.le_refl _), List.drop_eq_nil_of_le (by omega)]; simp
theorem cut_mid {l : List α} {j k : Nat} : Pv.cutD l (some (j : Int)) (some (k : Int)) = (l.take k).drop j := by
  unfold Pv.cutD
  rw [show HT.sIx l.length 0 (some (j : Int)) = min j l.length from HT.sIx_nat _ _ _, show HT.sIx l.length l.length (some (k : Int)) = min k l.length from HT.sIx_nat _ _ _]
  rw [List.drop_take]
  by_cases h : j ≤ l.length
  · rw [Nat.min_eq_left h, List.take_eq_take_iff, List.length_drop]
    omega
  · rw [Nat.min_eq_right (show l.length ≤ j by omega), List.drop_eq_nil_of_le (Nat.le_refl l.length), List.drop_eq_nil_of_le (show l.length ≤ j by omega)]; simp
theorem cut_hi0 {l : List α} : Pv.cutD l none (some 0) = [] := (cut_hi (k := 0)).trans rfl
theorem cut_hi1 {x : α} {l : List α} : Pv.cutD (x :: l) none (some 1) = [x] := (cut_hi (k := 1)).trans rfl
theorem cut_lo1 {x : α} {l : List α} : Pv.cutD (x :: l) (some 1) none = l := (cut_lo (k := 1)).trans rfl
theorem cut_lo1' {l : List α} : Pv.cutD l (some 1) none = l.tail := (cut_lo (k := 1)).trans (by simp)
theorem cut_all {l : List α} : Pv.cutD l none none = l := by
  unfold Pv.cutD
  rw [show HT.sIx l.length 0 none = 0 from rfl, show HT.sIx l.length l.length none = l.length from rfl]
  simp
theorem cut_init {l : List α} : Pv.cutD l none (some (-1)) = l.dropLast := by
  unfold Pv.cutD
  rw [show HT.sIx l.length 0 none = 0 from rfl, List.dropLast_eq_take]
  simp only [List.drop_zero, Nat.sub_zero]
  congr 1
  unfold HT.sIx
  simp
  omega
theorem cut_map' {α β : Type} (f : α → β) (l : List α) (lo hi : Option Int) : Pv.cutD (l.map f) lo hi = (Pv.cutD l lo hi).map f := by
  unfold Pv.cutD
  rw [List.length_map, List.map_take, List.map_drop]
theorem rgD_nat (n : Nat) : rgD 0 (n : Int).toNat = (List.range n).map fun i : Nat => D.int (i : Int) := by
  unfold rgD
  rw [Int.toNat_natCast]
  apply List.map_congr_left
  intro i _
  show D.int (0 + (i : Int)) = _
  rw [Int.zero_add]
theorem ev_wipeS {vs : List Nat} {env : List SV} {b : Box} : wipeS vs ⟨env, b⟩ = ⟨wipeE vs env, b⟩ := rfl
theorem ev_wipe0 {env : List SV} : wipeE [] env = env := rfl
theorem ev_wipe1 {i : Nat} {vs : List Nat} {env : List SV} : wipeE (i :: vs) env = (wipeE vs env).set i .no := rfl
def EVw := And.intro @ev_wipeS (And.intro @ev_wipe0 @ev_wipe1)
def DATc := And.intro @ltI (And.intro @leI (And.intro @gtI (And.intro @geI (And.intro @addI (And.intro @subI (And.intro @mulI1 (And.intro @mulI2 (And.intro @divI (And.intro @modI (And.intro @iaddI (And.intro @eqI (And.intro @eqB (And.intro @isN_t (And.intro @isN_i (And.intro @isN_p (And.intro @isN_l (And.intro @isN_s (And.intro @notN_t (And.intro @notN_i (And.intro @notN_p (And.intro @notN_l @notN_s)))))))))))))))))))))
def DATd := And.intro @lenL (And.intro @lenT (And.intro @tupleL (And.intro @tupleT (And.intro @listL (And.intro @listT (And.intro @absD (And.intro @intI (And.intro @intB (And.intro @ixL (And.intro @ixT (And.intro @slL (And.intro @slT (And.intro @backL (And.intro @backT (And.intro @catL @catT)))))))))))))))
end K
end B_dat_

section B_box_
set_option Elab.async false
set_option linter.all false
set_option maxRecDepth 100000
set_option maxHeartbeats 4000000
namespace K
open PySem PySem.Spec PyProof.Rows L2 Pv
def absI (i : Int) : Int := if i < 0 then -i else i
def boxOf (i : Int) : Box := (absI i * (if 10 ^ 18 ≤ absI i then 1 else 0), i % 2305843009213693951 + 39373 * 0 + 26309, 0)
def B__law_box : List D → Option Box
  | [.lst [.int i], .int 0] => some (boxOf i)
  | _ => none
theorem mod_at {x n : Int} (h : 0 < n) : dMod (.int x) (.int n) = some (.int (x % n)) := by
  show (if 0 < n then some (D.int (x % n)) else none) = _
  rw [if_pos h]
theorem div_at {x n : Int} (h : 0 < n) (g : n.natAbs.log2 < 9000) : dDiv (.int x) (.int n) = some (.int (x / n)) := by
  show (if 0 < n ∧ n.natAbs.log2 < 9000 then some (D.int (x / n)) else none) = _
  rw [if_pos ⟨h, g⟩]
theorem mul_at {x y : Int} (h : x.natAbs < 2 ^ 64 ∨ y.natAbs < 2 ^ 64) : dMul (.int x) (.int y) = some (.int (x * y)) := by
  show (if x.natAbs.log2 + y.natAbs.log2 < 1000000 ∨ (x.natAbs < 2 ^ 64 ∨ y.natAbs < 2 ^ 64) then some (D.int (x * y)) else none) = _
  rw [if_pos (.inr h)]
theorem gt_int (x y : Int) : dOrd (fun i j => decide (j < i)) (fun a b => strLt b a) (.int x) (.int y) = some (decide (y < x)) := rfl
theorem e_box (i : Int) : ∃ s1, m__law_box (s0 ["script", "k", "bit_so"] [.lst [.int i], .int 0] (0, 0, 0)) = .ok [.int (boxOf i).1, .int (boxOf i).2.1, .int (boxOf i).2.2] s1 := by
  refine ⟨{ env := [.d (.lst [.int i]), .d (.int 0), .d (.int i)], box := (0, 0, 0) }, ?_⟩
  have st : sSet 2 (mIf (m2b (dOrd (fun i j => decide (i < j)) strLt) (rd 1) (mB1 dLen (lend 0))) (mIxN 0 (rd 1)) (con (.int 0))) (s0 ["script", "k", "bit_so"] [.lst [.int i], .int 0] (0, 0, 0)) = .nx { env := [.d (.lst [.int i]), .d (.int 0), .d (.int i)], box := (0, 0, 0) } :=
    rfl
  unfold m__law_box rSeq
  rw [st]
  have ge : (dOrd (fun i j => decide (j ≤ i)) fun a b => !strLt a b) (.int (absI i)) (.int (10 ^ 18)) = some (decide ((10 : Int) ^ 18 ≤ absI i)) := rfl
  have hp : dPow (.int 10) (.int 18) = some (.int (10 ^ 18)) := by
    show (if (0 : Int) ≤ 18 ∧ (18 : Int) ≤ 1000000 ∧ (10 : Int).natAbs < 2 ^ 64 then some (D.int (10 ^ (18 : Int).toNat)) else none) = _
    rw [if_pos (by decide)]
    rfl
  have hi : dIntS (.bl (decide ((10 : Int) ^ 18 ≤ absI i))) = some (.int (if 10 ^ 18 ≤ absI i then 1 else 0)) := by
    show some (D.int (if decide ((10 : Int) ^ 18 ≤ absI i) = true then 1 else 0)) = _
    by_cases c : (10 : Int) ^ 18 ≤ absI i
    · rw [decide_eq_true c, if_pos rfl, if_pos c]
    · rw [decide_eq_false c, if_neg Bool.false_ne_true, if_neg c]
  exact lnew_at (cons_at (m2_at (b1_at rfl rfl) (b1_at (mB_at (m2b_at (b1_at rfl rfl) (m2_at rfl rfl hp) ge)) hi) (mul_at (.inr (by split <;> decide)))) (cons_at (m2_at (m2_at (m2_at (b1_at rfl rfl) rfl (mod_at (by decide))) (m2_at rfl rfl (mul_at (.inl (by decide)))) rfl) rfl rfl) (cons_at rfl rfl))) (by simp)
end K
end B_box_

section P_plain_
set_option Elab.async false
set_option linter.all false
set_option maxRecDepth 100000
set_option maxHeartbeats 4000000
namespace K
open PySem PySem.Spec PyProof.Rows L2 Pv
/-! # NEEDS -/
mutual
def tupD : D → D
  | .lst xs => .tup (tupDs xs)
  | .tup xs => .tup (tupDs xs)
  | d => d
def tupDs : List D → List D
  | [] => []
  | x :: xs => tupD x :: tupDs xs
end
mutual
/-- a plain value whose rows are not too long -/
def wf : D → Bool
  | .lst xs => decide (xs.length ≤ 10000) && wfs xs
  | .tup xs => decide (xs.length ≤ 10000) && wfs xs
  | .int _ => true
  | .bl _ => true
  | .non => true
  | .str x => x.cps.all (· < 0x110000) && decide (x.length ≤ 10000)
  | _ => false
def wfs : List D → Bool
  | [] => true
  | x :: xs => wf x && wfs xs
end
theorem tupDs_map : ∀ xs : List D, tupDs xs = xs.map tupD
  | [] => rfl
  | x :: r => by show tupD x :: tupDs r = _; rw [tupDs_map r]; rfl
theorem wfs_mem : ∀ {xs : List D} {x : D}, wfs xs = true → x ∈ xs → wf x = true
  | y :: r, x, h, m => by
    have h' := Bool.and_eq_true_iff.mp (show (wf y && wfs r) = true from h)
    rcases List.mem_cons.mp m with z | z
    · rw [z]; exact h'.1
    · exact wfs_mem h'.2 z
theorem dep_mem : ∀ {xs : List D} {x : D}, x ∈ xs → depthD x ≤ depthDs xs
  | y :: r, x, m => by
    show _ ≤ max (depthD y) (depthDs r)
    rcases List.mem_cons.mp m with z | z
    · rw [z]; omega
    · have := dep_mem z
      omega
def isNum : D → Bool
  | .int _ => true
  | _ => false
def inR (d : D) (a c : Int) : Bool := match d with
  | .int i => decide (a ≤ i) && decide (i ≤ c)
  | _ => false
mutual
theorem wf_ok : ∀ {d : D}, wf d = true → okD d = true
  | .non, _ => rfl
  | .bl _, _ => rfl
  | .int _, _ => rfl
  | .str x, h => (Bool.and_eq_true_iff.mp (show (x.cps.all (· < 0x110000) && decide (x.length ≤ 10000)) = true from h)).1
  | .lst xs, h => wfs_ok (ds := xs) (Bool.and_eq_true_iff.mp (show (decide (xs.length ≤ 10000) && wfs xs) = true from h)).2
  | .tup xs, h => wfs_ok (ds := xs) (Bool.and_eq_true_iff.mp (show (decide (xs.length ≤ 10000) && wfs xs) = true from h)).2
  | .fn _, h => by cases h
  | .box, h => by cases h
  | .scr _, h => by cases h
  | .dk _, h => by cases h
  | .dt _, h => by cases h
theorem wfs_ok : ∀ {ds : List D}, wfs ds = true → okDs ds = true
  | [], _ => rfl
  | x :: r, h => by
    have h' := Bool.and_eq_true_iff.mp (show (wf x && wfs r) = true from h)
    show (okD x && okDs r) = true
    rw [wf_ok h'.1, wfs_ok h'.2]
    rfl
end
theorem wf_str {x : Str} (h : wf (.str x) = true) : x.length ≤ 10000 := of_decide_eq_true (Bool.and_eq_true_iff.mp (show (x.cps.all (· < 0x110000) && decide (x.length ≤ 10000)) = true from h)).2
mutual
theorem tup_wf : ∀ {d : D}, wf d = true → wf (tupD d) = true ∧ depthD (tupD d) = depthD d
  | .non, _ => ⟨rfl, rfl⟩
  | .bl _, _ => ⟨rfl, rfl⟩
  | .int _, _ => ⟨rfl, rfl⟩
  | .str x, h => ⟨h, rfl⟩
  | .lst xs, h => by
    have h' := Bool.and_eq_true_iff.mp (show (decide (xs.length ≤ 10000) && wfs xs) = true from h)
    have t := tups_wf (ds := xs) h'.2
    refine ⟨?_, congrArg (· + 1) t.2.1⟩
    show (decide ((tupDs xs).length ≤ 10000) && wfs (tupDs xs)) = true
    rw [t.1, t.2.2, h'.1]; rfl
  | .tup xs, h => by
    have h' := Bool.and_eq_true_iff.mp (show (decide (xs.length ≤ 10000) && wfs xs) = true from h)
    have t := tups_wf (ds := xs) h'.2
    refine ⟨?_, congrArg (· + 1) t.2.1⟩
    show (decide ((tupDs xs).length ≤ 10000) && wfs (tupDs xs)) = true
    rw [t.1, t.2.2, h'.1]; rfl
  | .fn _, h => by cases h
  | .box, h => by cases h
  | .scr _, h => by cases h
  | .dk _, h => by cases h
  | .dt _, h => by cases h
theorem tups_wf : ∀ {ds : List D}, wfs ds = true → wfs (tupDs ds) = true ∧ depthDs (tupDs ds) = depthDs ds ∧ (tupDs ds).length = ds.length
  | [], _ => ⟨rfl, rfl, rfl⟩
  | x :: r, h => by
    have h' := Bool.and_eq_true_iff.mp (show (wf x && wfs r) = true from h)
    have t := tup_wf (d := x) h'.1
    have u := tups_wf (ds := r) h'.2
    refine ⟨?_, ?_, ?_⟩
    · show (wf (tupD x) && wfs (tupDs r)) = true
      rw [t.1, u.1]; rfl
    · show max (depthD (tupD x)) (depthDs (tupDs r)) = max (depthD x) (depthDs r)
      rw [t.2, u.2.1]
    · show (tupDs r).length + 1 = r.length + 1
      rw [u.2.2]
end
/-! numbers, rows of numbers -/
theorem nats_len (ns : List Nat) : (ns.map natD).length = ns.length := List.length_map _
theorem nats_ok : ∀ ns : List Nat, okDs (ns.map natD) = true
  | [] => rfl
  | n :: r => by show (true && okDs (r.map natD)) = true; rw [nats_ok r]; rfl
theorem nats_wf : ∀ ns : List Nat, wfs (ns.map natD) = true
  | [] => rfl
  | n :: r => by show (true && wfs (r.map natD)) = true; rw [nats_wf r]; rfl
theorem nats_dep : ∀ ns : List Nat, depthDs (ns.map natD) = 0
  | [] => rfl
  | n :: r => by show max 0 (depthDs (r.map natD)) = 0; rw [nats_dep r]; rfl
theorem nats_tup : ∀ ns : List Nat, tupDs (ns.map natD) = ns.map natD
  | [] => rfl
  | n :: r => by show natD n :: tupDs (r.map natD) = _; rw [nats_tup r]; rfl
theorem row_wf {ns : List Nat} (h : ns.length ≤ 10000) : wf (.tup (ns.map natD)) = true := by
  show (decide ((ns.map natD).length ≤ 10000) && wfs (ns.map natD)) = true
  rw [nats_wf, nats_len, decide_eq_true h]; rfl
theorem row_tup (ns : List Nat) : tupD (.tup (ns.map natD)) = .tup (ns.map natD) := congrArg D.tup (nats_tup ns)
theorem row_dep (ns : List Nat) : depthD (.tup (ns.map natD)) = 1 := congrArg (· + 1) (nats_dep ns)
theorem eqDs_nats : ∀ xs ys : List Nat, eqDs (xs.map natD) (ys.map natD) = decide (xs = ys)
  | [], [] => rfl
  | [], _ :: _ => rfl
  | _ :: _, [] => rfl
  | x :: xs, y :: ys => by
    show (((x : Int) == (y : Int)) && eqDs (xs.map natD) (ys.map natD)) = _
    rw [eqDs_nats xs ys, Bool.eq_iff_iff, Bool.and_eq_true, beq_iff_eq, decide_eq_true_iff, decide_eq_true_iff, List.cons.injEq]
    exact and_congr_left' (by omega)
theorem dEq_of {x y : D} (h1 : okD x = true) (h2 : okD y = true) (h3 : depthD x ≤ 64) (h4 : depthD y ≤ 64) (h5 : ∀ a b : Str, x = .str a → y ≠ .str b) (h6 : ∀ a b : Int, x = .int a → y ≠ .int b) (h7 : ∀ a b : Bool, x = .bl a → y ≠ .bl b) : dEq x y = some (eqD x y) := by
  unfold dEq
  split
  · exact absurd rfl (h5 _ _ rfl)
  · exact absurd rfl (h6 _ _ rfl)
  · exact absurd rfl (h7 _ _ rfl)
  · rw [if_pos ⟨by rw [h1, h2]; rfl, h3, h4⟩]
theorem eqLst {xs ys : List D} (h1 : okDs xs = true) (h2 : okDs ys = true) (h3 : depthDs xs ≤ 63) (h4 : depthDs ys ≤ 63) : dEq (.lst xs) (.lst ys) = some (eqDs xs ys) :=
  dEq_of (x := .lst xs) (y := .lst ys) h1 h2 (Nat.succ_le_succ h3) (Nat.succ_le_succ h4) (by intro a b z; cases z) (by intro a b z; cases z) (by intro a b z; cases z)
theorem eqTup {xs ys : List D} (h1 : okDs xs = true) (h2 : okDs ys = true) (h3 : depthDs xs ≤ 63) (h4 : depthDs ys ≤ 63) : dEq (.tup xs) (.tup ys) = some (eqDs xs ys) :=
  dEq_of (x := .tup xs) (y := .tup ys) h1 h2 (Nat.succ_le_succ h3) (Nat.succ_le_succ h4) (by intro a b z; cases z) (by intro a b z; cases z) (by intro a b z; cases z)
theorem eqNL (xs ys : List Nat) : dEq (.lst (xs.map natD)) (.lst (ys.map natD)) = some (decide (xs = ys)) := by
  rw [eqLst (nats_ok _) (nats_ok _) (by rw [nats_dep]; omega) (by rw [nats_dep]; omega), eqDs_nats]
theorem eqNT (xs ys : List Nat) : dEq (.tup (xs.map natD)) (.tup (ys.map natD)) = some (decide (xs = ys)) := by
  rw [eqTup (nats_ok _) (nats_ok _) (by rw [nats_dep]; omega) (by rw [nats_dep]; omega), eqDs_nats]
theorem eqNL0 (xs : List Nat) : dEq (.lst (xs.map natD)) (.lst []) = some (decide (xs = [])) := eqNL xs []
def isT0 : D → Bool
  | .tup [] => true
  | _ => false
theorem eqT0 {d : D} (h : wf d = true) (g : depthD d ≤ 64) : dEq d (.tup []) = some (isT0 d) := by
  rw [dEq_of (wf_ok h) rfl g (by decide) (by intro a b _ z; cases z) (by intro a b _ z; cases z) (by intro a b _ z; cases z)]
  cases d with
  | tup l => cases l <;> rfl
  | int _ => rfl
  | lst _ => rfl
  | bl _ => rfl
  | non => rfl
  | str _ => rfl
  | _ => cases h
def mx : List Nat → Nat
  | [] => 0
  | n :: r => max n (mx r)
theorem mx_mem : ∀ {ns : List Nat}, ns ≠ [] → mx ns ∈ ns
  | [n], _ => by show max n 0 ∈ [n]; rw [Nat.max_zero]; exact List.mem_cons_self
  | n :: m :: r, _ => by
    have ih := mx_mem (ns := m :: r) (by simp)
    show max n (mx (m :: r)) ∈ _
    by_cases c : mx (m :: r) ≤ n
    · rw [Nat.max_eq_left c]; exact List.mem_cons_self
    · rw [Nat.max_eq_right (by omega)]; exact List.mem_cons_of_mem _ ih
theorem mx_le : ∀ {ns : List Nat} {n : Nat}, n ∈ ns → n ≤ mx ns
  | m :: r, n, h => by
    show n ≤ max m (mx r)
    rcases List.mem_cons.mp h with z | z
    · omega
    · have := mx_le z
      omega
theorem mx_lub {ns : List Nat} {k : Nat} (h : ∀ n ∈ ns, n ≤ k) : mx ns ≤ k := by
  induction ns with
  | nil => exact Nat.zero_le _
  | cons n r ih =>
    have := h n List.mem_cons_self
    have := ih fun m hm => h m (List.mem_cons_of_mem _ hm)
    show max n (mx r) ≤ k
    omega
theorem intsN (ns : List Nat) : intsD (ns.map natD) = some (ns.map fun n : Nat => (n : Int)) := intsD_map (fun n : Nat => (n : Int)) ns
theorem maxN {ns : List Nat} (h : ns ≠ []) : maxL (ns.map fun n : Nat => (n : Int)) = some (mx ns : Int) :=
  maxL_of (List.mem_map.mpr ⟨_, mx_mem h, rfl⟩) fun y hy => by
    obtain ⟨n, hn, rfl⟩ := List.mem_map.mp hy
    have := mx_le hn
    omega
theorem maxNT {ns : List Nat} (h : ns ≠ []) : dMax (.tup (ns.map natD)) = some (.int (mx ns : Int)) := by
  show ((intsD (ns.map natD)).bind maxL).map D.int = _
  rw [intsN]; show (maxL _).map _ = _; rw [maxN h]; rfl
theorem maxNL {ns : List Nat} (h : ns ≠ []) : dMax (.lst (ns.map natD)) = some (.int (mx ns : Int)) := maxNT h
theorem sumInt (ns : List Nat) : (ns.map fun n : Nat => (n : Int)).sum = (ns.sum : Nat) := by
  induction ns with
  | nil => rfl
  | cons n r ih => rw [List.map_cons, List.sum_cons, ih, List.sum_cons]; omega
theorem sumNL (ns : List Nat) : dSum (.lst (ns.map natD)) = some (.int (ns.sum : Nat)) := by
  show (intsD (ns.map natD)).map _ = _
  rw [intsN, Option.map_some, sumInt]
theorem sumNT (ns : List Nat) : dSum (.tup (ns.map natD)) = some (.int (ns.sum : Nat)) := sumNL ns
theorem wf_lst {l : List D} (h : wf (.lst l) = true) : l.length ≤ 10000 ∧ wfs l = true := by
  have h' := Bool.and_eq_true_iff.mp (show (decide (l.length ≤ 10000) && wfs l) = true from h)
  exact ⟨of_decide_eq_true h'.1, h'.2⟩
theorem wf_tup {l : List D} (h : wf (.tup l) = true) : l.length ≤ 10000 ∧ wfs l = true := wf_lst (l := l) h
/-! # NEEDS is_number -/
theorem at_is_number {d : D} (b : Box) (h : wf d = true) : F_is_number [d] b = .ok (.bl (isNum d)) b := by
  cases d <;> first | rfl | cases h
/-! # NEEDS is_within -/
theorem at_is_within {d : D} {x y : Int} (b : Box) (h : wf d = true) : F_is_within [d, .int x, .int y] b = .ok (.bl (inR d x y)) b := by
  show outOf (m_is_within ⟨[.d d, .d (.int x), .d (.int y)], b⟩) = _
  unfold m_is_within
  simp (disch := first | assumption | omega | (simp only [List.length_cons, List.length_nil, List.length_map, List.length_append, List.length_range, List.length_reverse, List.length_replicate] <;> omega)) only [EV0, EV1, EV2, EV3, EV4, EV5, EV6, EV7, EV8, EV9, EV10, DATc, DATd, EVw, ofO_s, List.getD_cons_zero, List.getD_cons_succ, List.set_cons_zero, List.set_cons_succ, Bool.not_true, Bool.not_false, Option.map_some, decide_true, decide_false, at_is_number b h]
  cases d with
  | int i =>
    by_cases c : x ≤ i
    · simp (disch := first | assumption | omega | (simp only [List.length_cons, List.length_nil, List.length_map, List.length_append, List.length_range, List.length_reverse, List.length_replicate] <;> omega)) only [EV0, EV1, EV2, EV3, EV4, EV5, EV6, EV7, EV8, EV9, EV10, DATc, DATd, EVw, ofO_s, List.getD_cons_zero, List.getD_cons_succ, List.set_cons_zero, List.set_cons_succ, Bool.not_true, Bool.not_false, Option.map_some, decide_true, decide_false, isNum, inR, decide_eq_true c, Bool.true_and]
    · simp (disch := first | assumption | omega | (simp only [List.length_cons, List.length_nil, List.length_map, List.length_append, List.length_range, List.length_reverse, List.length_replicate] <;> omega)) only [EV0, EV1, EV2, EV3, EV4, EV5, EV6, EV7, EV8, EV9, EV10, DATc, DATd, EVw, ofO_s, List.getD_cons_zero, List.getD_cons_succ, List.set_cons_zero, List.set_cons_succ, Bool.not_true, Bool.not_false, Option.map_some, decide_true, decide_false, isNum, inR, decide_eq_false c, Bool.false_and]
  | lst _ => simp (disch := first | assumption | omega | (simp only [List.length_cons, List.length_nil, List.length_map, List.length_append, List.length_range, List.length_reverse, List.length_replicate] <;> omega)) only [EV0, EV1, EV2, EV3, EV4, EV5, EV6, EV7, EV8, EV9, EV10, DATc, DATd, EVw, ofO_s, List.getD_cons_zero, List.getD_cons_succ, List.set_cons_zero, List.set_cons_succ, Bool.not_true, Bool.not_false, Option.map_some, decide_true, decide_false, isNum, inR]
  | tup _ => simp (disch := first | assumption | omega | (simp only [List.length_cons, List.length_nil, List.length_map, List.length_append, List.length_range, List.length_reverse, List.length_replicate] <;> omega)) only [EV0, EV1, EV2, EV3, EV4, EV5, EV6, EV7, EV8, EV9, EV10, DATc, DATd, EVw, ofO_s, List.getD_cons_zero, List.getD_cons_succ, List.set_cons_zero, List.set_cons_succ, Bool.not_true, Bool.not_false, Option.map_some, decide_true, decide_false, isNum, inR]
  | bl _ => simp (disch := first | assumption | omega | (simp only [List.length_cons, List.length_nil, List.length_map, List.length_append, List.length_range, List.length_reverse, List.length_replicate] <;> omega)) only [EV0, EV1, EV2, EV3, EV4, EV5, EV6, EV7, EV8, EV9, EV10, DATc, DATd, EVw, ofO_s, List.getD_cons_zero, List.getD_cons_succ, List.set_cons_zero, List.set_cons_succ, Bool.not_true, Bool.not_false, Option.map_some, decide_true, decide_false, isNum, inR]
  | non => simp (disch := first | assumption | omega | (simp only [List.length_cons, List.length_nil, List.length_map, List.length_append, List.length_range, List.length_reverse, List.length_replicate] <;> omega)) only [EV0, EV1, EV2, EV3, EV4, EV5, EV6, EV7, EV8, EV9, EV10, DATc, DATd, EVw, ofO_s, List.getD_cons_zero, List.getD_cons_succ, List.set_cons_zero, List.set_cons_succ, Bool.not_true, Bool.not_false, Option.map_some, decide_true, decide_false, isNum, inR]
  | str _ => simp (disch := first | assumption | omega | (simp only [List.length_cons, List.length_nil, List.length_map, List.length_append, List.length_range, List.length_reverse, List.length_replicate] <;> omega)) only [EV0, EV1, EV2, EV3, EV4, EV5, EV6, EV7, EV8, EV9, EV10, DATc, DATd, EVw, ofO_s, List.getD_cons_zero, List.getD_cons_succ, List.set_cons_zero, List.set_cons_succ, Bool.not_true, Bool.not_false, Option.map_some, decide_true, decide_false, isNum, inR]
  | _ => cases h
/-! # NEEDS sure_within -/
/-! # NEEDS are_numbers is_number -/
/-! # NEEDS tupled -/
theorem at_tupF : ∀ {n : Nat} {d : D} {b : Box}, wf d = true → depthD d < n → FR_tupled n [d] b = .ok (tupD d) b
  | 0, _, _, _, g => absurd g (Nat.not_lt_zero _)
  | n + 1, d, b, h, g => by
    show outOf (m_tupled (FR_tupled n) ⟨[.d d, .no], b⟩) = _
    have seq : ∀ xs : List D, xs.length ≤ 10000 → wfs xs = true → depthDs xs < n → ∀ d, iSeq (rd 0) { env := [.d d, .no], box := b } = .ok xs { env := [.d d, .no], box := b } →
        cm_tupled_0 (FR_tupled n) { env := [.d d, .no], box := b } = .ok (tupDs xs) { env := [.d d, .no], box := b } := fun xs hl ho hd d hi => by
      rw [tupDs_map]
      exact comp_map tupD hi rfl (fun x hx => ⟨_, rfl, call_same rfl (at_tupF (wfs_mem ho hx) (by have := dep_mem hx; omega)), rfl⟩) (small_line (by omega))
    cases d with
    | int i => rfl
    | non => rfl
    | bl _ => rfl
    | str _ => rfl
    | lst xs =>
      obtain ⟨h1, h2⟩ := wf_lst h
      have c := seq xs h1 h2 (by have g' : depthDs xs + 1 < n + 1 := g; omega) (.lst xs) rfl
      unfold m_tupled
      simp (disch := first | assumption | omega | (simp only [List.length_cons, List.length_nil, List.length_map, List.length_append, List.length_range, List.length_reverse, List.length_replicate] <;> omega)) only [EV0, EV1, EV2, EV3, EV4, EV5, EV6, EV7, EV8, EV9, EV10, DATc, DATd, EVw, ofO_s, List.getD_cons_zero, List.getD_cons_succ, List.set_cons_zero, List.set_cons_succ, Bool.not_true, Bool.not_false, Option.map_some, decide_true, decide_false, c, show dIsi ["list", "tuple"] (.lst xs) = some (.bl true) from rfl]
      rfl
    | tup xs =>
      obtain ⟨h1, h2⟩ := wf_tup h
      have c := seq xs h1 h2 (by have g' : depthDs xs + 1 < n + 1 := g; omega) (.tup xs) rfl
      unfold m_tupled
      simp (disch := first | assumption | omega | (simp only [List.length_cons, List.length_nil, List.length_map, List.length_append, List.length_range, List.length_reverse, List.length_replicate] <;> omega)) only [EV0, EV1, EV2, EV3, EV4, EV5, EV6, EV7, EV8, EV9, EV10, DATc, DATd, EVw, ofO_s, List.getD_cons_zero, List.getD_cons_succ, List.set_cons_zero, List.set_cons_succ, Bool.not_true, Bool.not_false, Option.map_some, decide_true, decide_false, c, show dIsi ["list", "tuple"] (.tup xs) = some (.bl true) from rfl]
      rfl
    | _ => cases h
theorem at_tupled {d : D} (b : Box) (h : wf d = true) (g : depthD d < 85) : F_tupled [d] b = .ok (tupD d) b := at_tupF h g
/-! # NEEDS power_of_two -/
theorem pow_loop : ∀ (l : List Nat) (a : Nat) (k : D) (t : SV) (b : Box), ∃ t', sForL (gN 2) lp_power_of_two_0 (l.map fun i : Nat => D.int (i : Int)) ⟨[.d k, .d (.int (a : Int)), t], b⟩ = .nx ⟨[.d k, .d (.int ((a * 2 ^ l.length : Nat) : Int)), t'], b⟩
  | [], a, k, t, b => ⟨t, by simp [sForL]⟩
  | i :: r, a, k, t, b => by
    obtain ⟨t', e⟩ := pow_loop r (a * 2) k (.d (.int (i : Int))) b
    refine ⟨t', ?_⟩
    rw [List.map_cons]
    simp (disch := first | assumption | omega | (simp only [List.length_cons, List.length_nil, List.length_map, List.length_append, List.length_range, List.length_reverse, List.length_replicate] <;> omega)) only [EV0, EV1, EV2, EV3, EV4, EV5, EV6, EV7, EV8, EV9, EV10, DATc, DATd, EVw, ofO_s, List.getD_cons_zero, List.getD_cons_succ, List.set_cons_zero, List.set_cons_succ, Bool.not_true, Bool.not_false, Option.map_some, decide_true, decide_false, e_lp_power_of_two_0]
    rw [show (a : Int) * 2 = ((a * 2 : Nat) : Int) by omega, e]
    rw [List.length_cons, Nat.pow_succ, Nat.mul_assoc, Nat.mul_comm 2]
theorem at_power_of_two {n : Nat} (b : Box) (h : n ≤ 100000) : F_power_of_two [.int (n : Int)] b = .ok (.int ((2 ^ n : Nat) : Int)) b := by
  show outOf (m_power_of_two ⟨[.d (.int (n : Int)), .no, .no], b⟩) = _
  unfold m_power_of_two
  obtain ⟨t', e⟩ := pow_loop (List.range n) 1 (.int (n : Int)) .no b
  rw [List.length_range, Nat.one_mul] at e
  simp (disch := first | assumption | omega | (simp only [List.length_cons, List.length_nil, List.length_map, List.length_append, List.length_range, List.length_reverse, List.length_replicate] <;> omega)) only [EV0, EV1, EV2, EV3, EV4, EV5, EV6, EV7, EV8, EV9, EV10, DATc, DATd, EVw, ofO_s, List.getD_cons_zero, List.getD_cons_succ, List.set_cons_zero, List.set_cons_succ, Bool.not_true, Bool.not_false, Option.map_some, decide_true, decide_false, rgD_nat, show ((1 : Nat) : Int) = 1 from rfl]
  rw [show (D.int 1) = .int ((1 : Nat) : Int) from rfl, e]
  simp (disch := first | assumption | omega | (simp only [List.length_cons, List.length_nil, List.length_map, List.length_append, List.length_range, List.length_reverse, List.length_replicate] <;> omega)) only [EV0, EV1, EV2, EV3, EV4, EV5, EV6, EV7, EV8, EV9, EV10, DATc, DATd, EVw, ofO_s, List.getD_cons_zero, List.getD_cons_succ, List.set_cons_zero, List.set_cons_succ, Bool.not_true, Bool.not_false, Option.map_some, decide_true, decide_false]
/-! # NEEDS least_terms -/
/-- halved as often as can be -/
def ltm : Nat → Nat → Nat × Nat
  | a, 0 => (a, 0)
  | a, p + 1 => if a % 2 = 0 then ltm (a / 2) p else (a, p + 1)
theorem lt_loop : ∀ (p a k : Nat) (b : Box), p < k → sWhile lp_least_terms_0_c lp_least_terms_0 k ⟨[.d (.int (a : Int)), .d (.int (p : Int))], b⟩ = .nx ⟨[.d (.int ((ltm a p).1 : Int)), .d (.int ((ltm a p).2 : Int))], b⟩
  | p, a, 0, b, h => absurd h (Nat.not_lt_zero _)
  | 0, a, k + 1, b, h => by
    rw [ev_while]
    simp (disch := first | assumption | omega | (simp only [List.length_cons, List.length_nil, List.length_map, List.length_append, List.length_range, List.length_reverse, List.length_replicate] <;> omega)) only [EV0, EV1, EV2, EV3, EV4, EV5, EV6, EV7, EV8, EV9, EV10, DATc, DATd, EVw, ofO_s, List.getD_cons_zero, List.getD_cons_succ, List.set_cons_zero, List.set_cons_succ, Bool.not_true, Bool.not_false, Option.map_some, decide_true, decide_false, e_lp_least_terms_0_c, decide_eq_false (show ¬ (0 : Int) < ((0 : Nat) : Int) by omega), kWh_f, ltm]
  | p + 1, a, k + 1, b, h => by
    rw [ev_while]
    by_cases c : a % 2 = 0
    · have e := lt_loop p (a / 2) k b (by omega)
      simp (disch := first | assumption | omega | (simp only [List.length_cons, List.length_nil, List.length_map, List.length_append, List.length_range, List.length_reverse, List.length_replicate] <;> omega)) only [EV0, EV1, EV2, EV3, EV4, EV5, EV6, EV7, EV8, EV9, EV10, DATc, DATd, EVw, ofO_s, List.getD_cons_zero, List.getD_cons_succ, List.set_cons_zero, List.set_cons_succ, Bool.not_true, Bool.not_false, Option.map_some, decide_true, decide_false, e_lp_least_terms_0_c, e_lp_least_terms_0, decide_eq_true (show (0 : Int) < ((p + 1 : Nat) : Int) by omega), decide_eq_true (show (a : Int) % 2 = 0 by omega), kWh_t, kWh2_nx, ltm, if_pos c]
      rw [show (a : Int) / 2 = ((a / 2 : Nat) : Int) by omega, show ((p + 1 : Nat) : Int) - 1 = (p : Int) by omega, e]
    · simp (disch := first | assumption | omega | (simp only [List.length_cons, List.length_nil, List.length_map, List.length_append, List.length_range, List.length_reverse, List.length_replicate] <;> omega)) only [EV0, EV1, EV2, EV3, EV4, EV5, EV6, EV7, EV8, EV9, EV10, DATc, DATd, EVw, ofO_s, List.getD_cons_zero, List.getD_cons_succ, List.set_cons_zero, List.set_cons_succ, Bool.not_true, Bool.not_false, Option.map_some, decide_true, decide_false, e_lp_least_terms_0_c, decide_eq_true (show (0 : Int) < ((p + 1 : Nat) : Int) by omega), decide_eq_false (show ¬ (a : Int) % 2 = 0 by omega), kWh_f, ltm, if_neg c]
theorem at_least_terms {a p : Nat} (b : Box) (h : p < 200) : F_least_terms [.int (a : Int), .int (p : Int)] b = .ok (.tup [.int ((ltm a p).1 : Int), .int ((ltm a p).2 : Int)]) b := by
  show outOf (m_least_terms ⟨[.d (.int (a : Int)), .d (.int (p : Int))], b⟩) = _
  unfold m_least_terms
  simp (disch := first | assumption | omega | (simp only [List.length_cons, List.length_nil, List.length_map, List.length_append, List.length_range, List.length_reverse, List.length_replicate] <;> omega)) only [EV0, EV1, EV2, EV3, EV4, EV5, EV6, EV7, EV8, EV9, EV10, DATc, DATd, EVw, ofO_s, List.getD_cons_zero, List.getD_cons_succ, List.set_cons_zero, List.set_cons_succ, Bool.not_true, Bool.not_false, Option.map_some, decide_true, decide_false, lt_loop p a 200 b h]
end K
end P_plain_

section P_codes_
set_option Elab.async false
set_option linter.all false
set_option maxRecDepth 100000
set_option maxHeartbeats 4000000
namespace K
open PySem PySem.Spec PyProof.Rows L2 Pv
/-! # NEEDS -/
/-- signs as a text -/
def wd (p : List Bool) : Str := ⟨(p.map fun b => if b then 49 else 48).toArray⟩
def wD (p : List Bool) : D := .str (wd p)
theorem wD_eq (p : List Bool) : wD p = .str (wd p) := rfl
theorem wd_len (p : List Bool) : (wd p).length = p.length := by
  show ((p.map fun b => if b then 49 else 48).toArray).size = _
  simp
theorem wd_list (p : List Bool) : (wd p).cps.toList = p.map fun b => if b then 49 else 48 := by unfold wd; simp
theorem wd_nil : Str.ofString "" = wd [] := rfl
theorem wd_s0 : Str.ofString "0" = wd [false] := rfl
theorem wd_s1 : Str.ofString "1" = wd [true] := rfl
theorem wd_app (p q : List Bool) : wd p ++ wd q = wd (p ++ q) := by
  show (⟨(wd p).cps ++ (wd q).cps⟩ : Str) = _
  unfold wd
  congr 1
  rw [List.map_append]
  simp
theorem wd_inj {p q : List Bool} (h : wd p = wd q) : p = q := by
  have e : p.map (fun b => if b then 49 else 48) = q.map fun b => if b then 49 else 48 := by rw [← wd_list, ← wd_list, h]
  exact (List.map_inj_right (fun x y z => by cases x <;> cases y <;> simp at z <;> rfl)).mp e
theorem catW {p q : List Bool} (h : p.length + q.length ≤ 100000) : dAdd (.str (wd p)) (.str (wd q)) = some (.str (wd (p ++ q))) := by
  rw [catS (by rw [wd_len, wd_len]; exact h), wd_app]
theorem eqW (p q : List Bool) : dEq (.str (wd p)) (.str (wd q)) = some (decide (p = q)) := by
  show some (wd p == wd q) = _
  congr 1
  rw [Bool.eq_iff_iff, beq_iff_eq, decide_eq_true_iff]
  exact ⟨wd_inj, fun h => by rw [h]⟩
theorem lenW {p : List Bool} (h : p.length ≤ 100000) : dLen (.str (wd p)) = some (.int (p.length : Nat)) := by rw [lenS (by rw [wd_len]; exact h), wd_len]
theorem wd_okc (p : List Bool) : ((wd p).cps.all (· < 0x110000)) = true := by
  show ((p.map fun b => if b then 49 else 48).toArray).all (· < 0x110000) = true
  rw [List.all_toArray, List.all_eq_true]
  intro x hx
  obtain ⟨b, _, rfl⟩ := List.mem_map.mp hx
  cases b <;> rfl
theorem wD_ok (p : List Bool) : okD (wD p) = true := wd_okc p
theorem wD_wf {p : List Bool} (h : p.length ≤ 10000) : wf (wD p) = true := by
  show ((wd p).cps.all (· < 0x110000) && decide ((wd p).length ≤ 10000)) = true
  rw [wd_okc, wd_len, decide_eq_true h]; rfl
/-- rising: the order of texts -/
def blt : List Bool → List Bool → Bool
  | _, [] => false
  | [], _ :: _ => true
  | a :: p, c :: q => if a = c then blt p q else c
theorem blt_lt : ∀ p q : List Bool, strLt (wd p) (wd q) = blt p q := by
  have key : ∀ p q : List Bool, ((p.map fun b => if b then 49 else 48) < (q.map fun b => if b then (49 : Nat) else 48)) ↔ blt p q = true := by
    intro p
    induction p with
    | nil => intro q; cases q <;> simp [blt]
    | cons a p ih =>
      intro q
      cases q with
      | nil => simp [blt]
      | cons c q =>
        rw [List.map_cons, List.map_cons, List.cons_lt_cons_iff, ih q]
        show _ ↔ (if a = c then blt p q else c) = true
        cases a <;> cases c <;> simp
  intro p q
  unfold strLt
  rw [wd_list, wd_list, Bool.eq_iff_iff, decide_eq_true_iff, key]
theorem ltW (p q : List Bool) : dOrd (fun i j => decide (i < j)) strLt (.str (wd p)) (.str (wd q)) = some (blt p q) := by
  show some (strLt _ _) = _
  rw [blt_lt]
theorem geW (p q : List Bool) : dOrd (fun i j => decide (j ≤ i)) (fun a b => !strLt a b) (.str (wd p)) (.str (wd q)) = some (!blt p q) := by
  show some (!strLt _ _) = _
  rw [blt_lt]
theorem cutS_to (p : List Bool) (k : Nat) : cutS (wd p) none (some (k : Int)) = wd (p.take k) := by
  unfold cutS
  rw [show HT.sIx (wd p).length (wd p).length (some (k : Int)) = min k (wd p).length from HT.sIx_nat _ _ _, show HT.sIx (wd p).length 0 none = 0 from rfl, wd_list, wd_len]
  show (⟨_⟩ : Str) = ⟨_⟩
  congr 2
  rw [List.drop_zero, Nat.sub_zero, List.map_take, List.take_eq_take_iff, List.length_map]
  omega
theorem pfx_wd : ∀ p q : List Bool, (p.map fun b => if b then 49 else 48).isPrefixOf (q.map fun b => if b then (49 : Nat) else 48) = p.isPrefixOf q
  | [], _ => by cases ‹List Bool› <;> rfl
  | _ :: _, [] => rfl
  | a :: p, c :: q => by
    show (((if a then 49 else 48) == (if c then (49 : Nat) else 48)) && _) = ((a == c) && p.isPrefixOf q)
    rw [pfx_wd p q]
    cases a <;> cases c <;> rfl
/-- a word, or none -/
def unW : D → Option (List Bool)
  | .str x => if x.cps.toList.all (fun c => c == 48 || c == 49) then some (x.cps.toList.map (· == 49)) else none
  | _ => none
theorem unW_eq {d : D} {p : List Bool} (h : unW d = some p) : d = wD p := by
  cases d with
  | str x =>
    have h' : (if x.cps.toList.all (fun c => c == 48 || c == 49) then some (x.cps.toList.map (· == 49)) else none) = some p := h
    split at h'
    · next c =>
      injection h' with e
      have : x = wd p := by
        apply Pv.str_ext
        rw [wd_list, ← e, List.map_map]
        rw [List.all_eq_true] at c
        conv => lhs; rw [← List.map_id x.cps.toList]
        apply List.map_congr_left
        intro n hn
        have := c n hn
        simp at this
        rcases this with z | z <;> rw [z] <;> rfl
      rw [this]; rfl
    · cases h'
  | _ => cases h
theorem unW_wD (p : List Bool) : unW (wD p) = some p := by
  show (if (wd p).cps.toList.all (fun c => c == 48 || c == 49) then some ((wd p).cps.toList.map (· == 49)) else none) = _
  rw [wd_list, if_pos (by rw [List.all_eq_true]; intro x hx; obtain ⟨b, _, rfl⟩ := List.mem_map.mp hx; cases b <;> rfl), List.map_map]
  congr 1
  conv => rhs; rw [← List.map_id p]
  apply List.map_congr_left
  intro b _
  cases b <;> rfl
def isWord (d : D) : Bool := (unW d).isSome
theorem isWord_wD (p : List Bool) : isWord (wD p) = true := by unfold isWord; rw [unW_wD]; rfl
def unWs : List D → Option (List (List Bool))
  | [] => some []
  | d :: r => match unW d, unWs r with
    | some p, some ps => some (p :: ps)
    | _, _ => none
theorem unWs_eq : ∀ {l : List D} {ws : List (List Bool)}, unWs l = some ws → l = ws.map wD
  | [], ws, h => by cases h; rfl
  | d :: r, ws, h => by
    have h' : (match unW d, unWs r with
      | some p, some ps => some (p :: ps)
      | _, _ => none) = some ws := h
    cases e1 : unW d with
    | none => rw [e1] at h'; cases h'
    | some p =>
      cases e2 : unWs r with
      | none => rw [e1, e2] at h'; cases h'
      | some ps =>
        rw [e1, e2] at h'
        cases h'
        rw [List.map_cons, ← unW_eq e1, ← unWs_eq e2]
theorem unWs_wD : ∀ ws : List (List Bool), unWs (ws.map wD) = some ws
  | [] => rfl
  | p :: r => by
    show (match unW (wD p), unWs (r.map wD) with
      | some p, some ps => some (p :: ps)
      | _, _ => none) = _
    rw [unW_wD, unWs_wD r]
theorem unWs_all : ∀ l : List D, l.all isWord = (unWs l).isSome
  | [] => rfl
  | d :: r => by
    show (isWord d && r.all isWord) = (match unW d, unWs r with
      | some p, some ps => some (p :: ps)
      | _, _ => none).isSome
    rw [unWs_all r]
    unfold isWord
    cases unW d <;> cases unWs r <;> rfl
/-- rising, none the beginning of the next -/
def chain : List (List Bool) → Bool
  | p :: q :: r => blt p q && !p.isPrefixOf q && chain (q :: r)
  | _ => true
def isCode (ws : List (List Bool)) : Bool := !ws.isEmpty && chain ws
def codeOk (d : D) : Bool := match d with
  | .tup l => (match unWs l with
    | some ws => isCode ws
    | none => false)
  | _ => false
theorem wds_len (ws : List (List Bool)) : (ws.map wD).length = ws.length := List.length_map _
theorem wds_ok : ∀ ws : List (List Bool), okDs (ws.map wD) = true
  | [] => rfl
  | n :: r => by show (okD (wD n) && okDs (r.map wD)) = true; rw [wds_ok r, wD_ok]; rfl
theorem wds_wf : ∀ {ws : List (List Bool)}, (∀ w ∈ ws, w.length ≤ 10000) → wfs (ws.map wD) = true
  | [], _ => rfl
  | n :: r, h => by
    show (wf (wD n) && wfs (r.map wD)) = true
    rw [wds_wf (ws := r) fun w hw => h w (List.mem_cons_of_mem _ hw), wD_wf (h n List.mem_cons_self)]; rfl
theorem wds_dep : ∀ ws : List (List Bool), depthDs (ws.map wD) = 0
  | [] => rfl
  | n :: r => by show max 0 (depthDs (r.map wD)) = 0; rw [wds_dep r]; rfl
theorem wds_tup : ∀ ws : List (List Bool), tupDs (ws.map wD) = ws.map wD
  | [] => rfl
  | n :: r => by show wD n :: tupDs (r.map wD) = _; rw [wds_tup r]; rfl
theorem code_wf {ws : List (List Bool)} (h : ws.length ≤ 10000) (g : ∀ w ∈ ws, w.length ≤ 10000) : wf (.tup (ws.map wD)) = true := by
  show (decide ((ws.map wD).length ≤ 10000) && wfs (ws.map wD)) = true
  rw [wds_wf g, wds_len, decide_eq_true h]; rfl
theorem code_tup (ws : List (List Bool)) : tupD (.tup (ws.map wD)) = .tup (ws.map wD) := congrArg D.tup (wds_tup ws)
theorem code_dep (ws : List (List Bool)) : depthD (.tup (ws.map wD)) = 1 := congrArg (· + 1) (wds_dep ws)
theorem codeOk_wD (ws : List (List Bool)) : codeOk (.tup (ws.map wD)) = isCode ws := by
  show (match unWs (ws.map wD) with
    | some ws => isCode ws
    | none => false) = _
  rw [unWs_wD]
theorem eqDs_wds : ∀ xs ys : List (List Bool), eqDs (xs.map wD) (ys.map wD) = decide (xs = ys)
  | [], [] => rfl
  | [], _ :: _ => rfl
  | _ :: _, [] => rfl
  | x :: xs, y :: ys => by
    show ((wd x == wd y) && eqDs (xs.map wD) (ys.map wD)) = _
    rw [eqDs_wds xs ys, Bool.eq_iff_iff, Bool.and_eq_true, beq_iff_eq, decide_eq_true_iff, decide_eq_true_iff, List.cons.injEq]
    exact and_congr_left' ⟨wd_inj, fun h => by rw [h]⟩
theorem eqWT (xs ys : List (List Bool)) : dEq (.tup (xs.map wD)) (.tup (ys.map wD)) = some (decide (xs = ys)) := by
  rw [eqTup (wds_ok _) (wds_ok _) (by rw [wds_dep]; omega) (by rw [wds_dep]; omega), eqDs_wds]
theorem wds_maxlen {ws : List (List Bool)} : (ws.map List.length) = [] ↔ ws = [] := by simp
/-! # NEEDS is_word_in -/
theorem at_is_word_in {d : D} (b : Box) (h : wf d = true) : F_is_word_in [d] b = .ok (.bl (isWord d)) b := by
  cases d with
  | str x =>
    show outOf (m_is_word_in ⟨[.d (.str x), .no], b⟩) = _
    have hx := wf_str h
    have c : cm_is_word_in_0 ⟨[.d (.str x), .no], b⟩ = .ok (x.cps.toList.map fun c => .bl (c == 48 || c == 49)) ⟨[.d (.str x), .no], b⟩ := by
      have e := comp_map (mi := iSeq (rd 0)) (g := gN 1) (me := mB (m2b (fun x y => (dIn x y).map fun b => if false then !b else b) (rd 1) (mTup (aCons (con (.str (Str.ofString "0"))) (aCons (con (.str (Str.ofString "1"))) aNil))))) (vs := [1]) (s := ⟨[.d (.str x), .no], b⟩) (s1 := ⟨[.d (.str x), .no], b⟩) (ds := x.cps.toList.map fun c => .str ⟨#[c]⟩) (fun d => match d with | .str y => .bl (y.cps.toList == [48] || y.cps.toList == [49]) | _ => .non) rfl rfl (fun d hd => ?_) (small_line (by rw [List.length_map]; show x.cps.toList.length ≤ _; rw [Array.length_toList]; exact Nat.le_trans hx (by decide)))
      · refine e.trans ?_
        rw [List.map_map]
        congr 1
        apply List.map_congr_left
        intro n _
        show D.bl (([n] : List Nat) == [48] || ([n] : List Nat) == [49]) = _
        congr 1
        rw [Bool.eq_iff_iff]
        simp
      · obtain ⟨n, _, rfl⟩ := List.mem_map.mp hd
        refine ⟨_, rfl, ?_, rfl⟩
        have hin : dIn (.str ⟨#[n]⟩) (.tup [.str (Str.ofString "0"), .str (Str.ofString "1")]) = some (n == 48 || n == 49) := by
          show (if flatD (.str ⟨#[n]⟩) = true ∧ ([D.str (Str.ofString "0"), .str (Str.ofString "1")].all flatD) = true then some ([D.str (Str.ofString "0"), .str (Str.ofString "1")].any fun z => eqD z (.str ⟨#[n]⟩)) else none) = _
          rw [if_pos ⟨rfl, rfl⟩]
          congr 1
          show (((⟨#[48]⟩ : Str) == ⟨#[n]⟩) || (((⟨#[49]⟩ : Str) == ⟨#[n]⟩) || false)) = _
          rw [Bool.or_false, Bool.eq_iff_iff]
          simp
          constructor
          · rintro (z | z)
            · exact .inl z.symm
            · exact .inr z.symm
          · rintro (z | z)
            · exact .inl z.symm
            · exact .inr z.symm
        simp (disch := first | assumption | omega | (simp only [List.length_cons, List.length_nil, List.length_map, List.length_append, List.length_range, List.length_reverse, List.length_replicate] <;> omega)) only [EV0, EV1, EV2, EV3, EV4, EV5, EV6, EV7, EV8, EV9, EV10, DATc, DATd, EVw, ofO_s, List.getD_cons_zero, List.getD_cons_succ, List.set_cons_zero, List.set_cons_succ, Bool.not_true, Bool.not_false, Option.map_some, decide_true, decide_false, hin, Bool.false_eq_true, if_false]
        show Out.ok (D.bl (n == 48 || n == 49)) _ = Out.ok (D.bl (([n] : List Nat) == [48] || ([n] : List Nat) == [49])) _
        congr 2
        rw [Bool.eq_iff_iff]
        simp
    unfold m_is_word_in
    simp (disch := first | assumption | omega | (simp only [List.length_cons, List.length_nil, List.length_map, List.length_append, List.length_range, List.length_reverse, List.length_replicate] <;> omega)) only [EV0, EV1, EV2, EV3, EV4, EV5, EV6, EV7, EV8, EV9, EV10, DATc, DATd, EVw, ofO_s, List.getD_cons_zero, List.getD_cons_succ, List.set_cons_zero, List.set_cons_succ, Bool.not_true, Bool.not_false, Option.map_some, decide_true, decide_false, c, allL, show dIsi ["str"] (.str x) = some (.bl true) from rfl]
    show RO.ok (D.bl (x.cps.toList.all fun c => c == 48 || c == 49)) b = .ok (.bl (unW (.str x)).isSome) b
    congr 2
    show _ = (if x.cps.toList.all (fun c => c == 48 || c == 49) then some (x.cps.toList.map (· == 49)) else none).isSome
    cases (x.cps.toList.all fun c => c == 48 || c == 49) <;> rfl
  | int _ => rfl
  | lst _ => rfl
  | tup _ => rfl
  | bl _ => rfl
  | non => rfl
  | _ => cases h
/-! # NEEDS does_begin -/
theorem at_does_begin {p q : List Bool} (b : Box) (hp : p.length ≤ 10000) (hq : q.length ≤ 10000) : F_does_begin [.str (wd p), .str (wd q)] b = .ok (.bl (p.isPrefixOf q)) b := by
  show outOf (m_does_begin ⟨[.d (.str (wd p)), .d (.str (wd q))], b⟩) = _
  unfold m_does_begin
  have sl : dSl (.str (wd q)) none (some (p.length : Int)) = some (.str (wd (q.take p.length))) := by
    show (if (wd q).length ≤ sizeLine then some (D.str (cutS (wd q) none (some (p.length : Int)))) else none) = _
    rw [if_pos (small_line (by rw [wd_len]; omega)), cutS_to]
  simp (disch := first | assumption | omega | (simp only [List.length_cons, List.length_nil, List.length_map, List.length_append, List.length_range, List.length_reverse, List.length_replicate] <;> omega)) only [EV0, EV1, EV2, EV3, EV4, EV5, EV6, EV7, EV8, EV9, EV10, DATc, DATd, EVw, ofO_s, List.getD_cons_zero, List.getD_cons_succ, List.set_cons_zero, List.set_cons_succ, Bool.not_true, Bool.not_false, Option.map_some, decide_true, decide_false, sl, lenW, eqW]
  congr 2
  rw [Bool.eq_iff_iff, decide_eq_true_iff, List.isPrefixOf_iff_prefix]
  exact ⟨fun h => List.prefix_iff_eq_take.mpr h.symm, fun h => (List.prefix_iff_eq_take.mp h).symm⟩
/-! # NEEDS is_code_in is_word_in does_begin -/
theorem zpD_wds : ∀ xs ys : List (List Bool), zpD (xs.map wD) (ys.map wD) = (List.zip xs ys).map fun x => .tup [wD x.1, wD x.2]
  | [], _ => rfl
  | _ :: _, [] => rfl
  | x :: xs, y :: ys => by
    show D.tup [wD x, wD y] :: zpD (xs.map wD) (ys.map wD) = _
    rw [zpD_wds xs ys]; rfl
theorem chain_zip : ∀ ws : List (List Bool), ((List.zip ws ws.tail).all fun x => blt x.1 x.2 && !x.1.isPrefixOf x.2) = chain ws
  | [] => rfl
  | [_] => rfl
  | p :: q :: r => by
    show ((blt p q && !p.isPrefixOf q) && (List.zip (q :: r) r).all _) = (blt p q && !p.isPrefixOf q && chain (q :: r))
    have := chain_zip (q :: r)
    rw [List.tail_cons] at this
    rw [this]
theorem mem_zip_tail {ws : List (List Bool)} {x : List Bool × List Bool} (h : x ∈ List.zip ws ws.tail) : x.1 ∈ ws ∧ x.2 ∈ ws := by
  have := List.of_mem_zip h
  exact ⟨this.1, List.mem_of_mem_tail this.2⟩
theorem at_is_code_in {d : D} (b : Box) (h : wf d = true) (g : depthD d ≤ 64) : F_is_code_in [d] b = .ok (.bl (codeOk d)) b := by
  show outOf (m_is_code_in ⟨[.d d, .no, .no, .no], b⟩) = _
  cases d with
  | tup l =>
    obtain ⟨h1, h2⟩ := wf_tup h
    have c0 : cm_is_code_in_0 ⟨[.d (.tup l), .no, .no, .no], b⟩ = .ok (l.map fun x => .bl (isWord x)) ⟨[.d (.tup l), .no, .no, .no], b⟩ := by
      refine comp_map (fun x => .bl (isWord x)) rfl rfl (fun d hd => ⟨_, rfl, ?_, rfl⟩) (small_line (by omega))
      have := wfs_mem h2 hd
      simp (disch := first | assumption | omega | (simp only [List.length_cons, List.length_nil, List.length_map, List.length_append, List.length_range, List.length_reverse, List.length_replicate] <;> omega)) only [EV0, EV1, EV2, EV3, EV4, EV5, EV6, EV7, EV8, EV9, EV10, DATc, DATd, EVw, ofO_s, List.getD_cons_zero, List.getD_cons_succ, List.set_cons_zero, List.set_cons_succ, Bool.not_true, Bool.not_false, Option.map_some, decide_true, decide_false, at_is_word_in b this]
    unfold m_is_code_in
    cases hw : unWs l with
    | none =>
      have ha : l.all isWord = false := by rw [unWs_all, hw]; rfl
      have ne : isT0 (D.tup l) = false := by
        cases l with
        | nil => cases hw
        | cons _ _ => rfl
      have e0 := eqT0 h g
      rw [ne] at e0
      simp (disch := first | assumption | omega | (simp only [List.length_cons, List.length_nil, List.length_map, List.length_append, List.length_range, List.length_reverse, List.length_replicate] <;> omega)) only [EV0, EV1, EV2, EV3, EV4, EV5, EV6, EV7, EV8, EV9, EV10, DATc, DATd, EVw, ofO_s, List.getD_cons_zero, List.getD_cons_succ, List.set_cons_zero, List.set_cons_succ, Bool.not_true, Bool.not_false, Option.map_some, decide_true, decide_false, c0, e0, allL, ha, show dIsi ["tuple"] (.tup l) = some (.bl true) from rfl]
      show RO.ok _ _ = RO.ok (.bl (match unWs l with | some ws => isCode ws | none => false)) b
      rw [hw]
    | some ws =>
      have el := unWs_eq hw
      subst el
      have ha : (ws.map wD).all isWord = true := by rw [unWs_all, hw]; rfl
      rw [codeOk_wD]
      cases ws with
      | nil => simp (disch := first | assumption | omega | (simp only [List.length_cons, List.length_nil, List.length_map, List.length_append, List.length_range, List.length_reverse, List.length_replicate] <;> omega)) only [EV0, EV1, EV2, EV3, EV4, EV5, EV6, EV7, EV8, EV9, EV10, DATc, DATd, EVw, ofO_s, List.getD_cons_zero, List.getD_cons_succ, List.set_cons_zero, List.set_cons_succ, Bool.not_true, Bool.not_false, Option.map_some, decide_true, decide_false, eqT0 h g, show dIsi ["tuple"] (.tup (([] : List (List Bool)).map wD)) = some (.bl true) from rfl]; rfl
      | cons p r =>
        have e0 : dEq (.tup ((p :: r).map wD)) (.tup []) = some false := eqT0 h g
        have len : ∀ w ∈ p :: r, w.length ≤ 10000 := fun w hw => by
          have := wfs_mem h2 (List.mem_map.mpr ⟨w, hw, rfl⟩)
          have := wf_str this
          rw [wd_len] at this; exact this
        have c1 : cm_is_code_in_1 ⟨[.d (.tup ((p :: r).map wD)), .no, .no, .no], b⟩ = .ok ((List.zip (p :: r) r).map fun x => .bl (blt x.1 x.2 && !x.1.isPrefixOf x.2)) ⟨[.d (.tup ((p :: r).map wD)), .no, .no, .no], b⟩ := by
          have it : iZpM (rd 0) (mSl (rd 0) (oIn (con (.int 1))) oNo) ⟨[.d (.tup ((p :: r).map wD)), .no, .no, .no], b⟩ = .ok ((List.zip (p :: r) r).map fun x => .tup [wD x.1, wD x.2]) ⟨[.d (.tup ((p :: r).map wD)), .no, .no, .no], b⟩ := by
            simp (disch := first | assumption | omega | (simp only [List.length_cons, List.length_nil, List.length_map, List.length_append, List.length_range, List.length_reverse, List.length_replicate] <;> omega)) only [EV0, EV1, EV2, EV3, EV4, EV5, EV6, EV7, EV8, EV9, EV10, DATc, DATd, EVw, ofO_s, List.getD_cons_zero, List.getD_cons_succ, List.set_cons_zero, List.set_cons_succ, Bool.not_true, Bool.not_false, Option.map_some, decide_true, decide_false, cut_lo1', List.map_cons, List.tail_cons]
            rw [← List.map_cons, zpD_wds]
          unfold cm_is_code_in_1
          have zl : ((List.zip (p :: r) r).map fun x => D.tup [wD x.1, wD x.2]).length ≤ 100000 := by
            have z1 : (p :: r).length ≤ 10000 := by rw [← wds_len]; exact h1
            rw [List.length_map, List.length_zip]
            omega
          refine (comp_map (fun d => match d with | .tup [.str x, .str y] => .bl (strLt x y && !((x.cps.toList.isPrefixOf y.cps.toList))) | _ => .non) it rfl (fun d hd => ?_) (small_line zl)).trans ?_
          · obtain ⟨x, hx, rfl⟩ := List.mem_map.mp hd
            have hz := mem_zip_tail (ws := p :: r) hx
            refine ⟨_, rfl, ?_, rfl⟩
            have pf : (wd x.1).cps.toList.isPrefixOf (wd x.2).cps.toList = x.1.isPrefixOf x.2 := by
              rw [wd_list, wd_list, pfx_wd]
            cases hb : blt x.1 x.2 <;> simp (disch := first | assumption | omega | (simp only [List.length_cons, List.length_nil, List.length_map, List.length_append, List.length_range, List.length_reverse, List.length_replicate] <;> omega)) only [EV0, EV1, EV2, EV3, EV4, EV5, EV6, EV7, EV8, EV9, EV10, DATc, DATd, EVw, ofO_s, List.getD_cons_zero, List.getD_cons_succ, List.set_cons_zero, List.set_cons_succ, Bool.not_true, Bool.not_false, Option.map_some, decide_true, decide_false, wD_eq, ltW, hb, at_does_begin b (len _ hz.1) (len _ hz.2), blt_lt, pf, Bool.false_and, Bool.true_and]
          · rw [List.map_map]
            congr 1
            apply List.map_congr_left
            intro x _
            show D.bl (strLt (wd x.1) (wd x.2) && !((wd x.1).cps.toList.isPrefixOf (wd x.2).cps.toList)) = _
            rw [blt_lt, wd_list, wd_list, pfx_wd]
        simp (disch := first | assumption | omega | (simp only [List.length_cons, List.length_nil, List.length_map, List.length_append, List.length_range, List.length_reverse, List.length_replicate] <;> omega)) only [EV0, EV1, EV2, EV3, EV4, EV5, EV6, EV7, EV8, EV9, EV10, DATc, DATd, EVw, ofO_s, List.getD_cons_zero, List.getD_cons_succ, List.set_cons_zero, List.set_cons_succ, Bool.not_true, Bool.not_false, Option.map_some, decide_true, decide_false, c0, c1, e0, allL, ha, show dIsi ["tuple"] (.tup ((p :: r).map wD)) = some (.bl true) from rfl]
        show RO.ok (D.bl ((List.zip (p :: r) r).all _)) b = RO.ok (.bl (chain (p :: r))) b
        rw [← chain_zip (p :: r)]
        rfl
  | int _ => rfl
  | lst _ => rfl
  | bl _ => rfl
  | non => rfl
  | str _ => rfl
  | _ => cases h
/-! # NEEDS is_code is_code_in is_word_in does_begin -/
theorem at_is_code {d : D} (b : Box) (h : wf d = true) (g : depthD d ≤ 64) : F_is_code [d] b = .ok (.bl (codeOk d)) b := by
  show outOf (m_is_code ⟨[.d d], b⟩) = _
  unfold m_is_code
  simp (disch := first | assumption | omega | (simp only [List.length_cons, List.length_nil, List.length_map, List.length_append, List.length_range, List.length_reverse, List.length_replicate] <;> omega)) only [EV0, EV1, EV2, EV3, EV4, EV5, EV6, EV7, EV8, EV9, EV10, DATc, DATd, EVw, ofO_s, List.getD_cons_zero, List.getD_cons_succ, List.set_cons_zero, List.set_cons_succ, Bool.not_true, Bool.not_false, Option.map_some, decide_true, decide_false, at_is_code_in b h g]
/-! # NEEDS is_word is_word_in -/
/-! # NEEDS -/
def fitW (ws : List (List Bool)) : Bool := isCode ws && decide (ws.length ≤ 60) && ws.all fun w => decide (w.length ≤ 60)
def sureC (d : D) : Bool := match d with
  | .tup l => (match unWs l with
    | some ws => fitW ws
    | none => false)
  | _ => false
theorem sureC_wD (ws : List (List Bool)) : sureC (.tup (ws.map wD)) = fitW ws := by
  show (match unWs (ws.map wD) with
    | some ws => fitW ws
    | none => false) = _
  rw [unWs_wD]
structure CODE (ws : List (List Bool)) : Prop where
  ne : ws ≠ []
  ch : chain ws = true
  n : ws.length ≤ 60
  l : ∀ w ∈ ws, w.length ≤ 60
theorem CODE.fit {ws : List (List Bool)} (h : CODE ws) : fitW ws = true := by
  unfold fitW isCode
  rw [h.ch, decide_eq_true h.n, List.all_eq_true.mpr fun w hw => decide_eq_true (h.l w hw)]
  cases ws with
  | nil => exact absurd rfl h.ne
  | cons _ _ => rfl
theorem CODE.of {ws : List (List Bool)} (h : fitW ws = true) : CODE ws := by
  unfold fitW isCode at h
  rw [Bool.and_eq_true, Bool.and_eq_true, Bool.and_eq_true] at h
  refine ⟨fun z => ?_, h.1.1.2, of_decide_eq_true h.1.2, fun w hw => of_decide_eq_true (List.all_eq_true.mp h.2 w hw)⟩
  rw [z] at h
  exact absurd h.1.1.1 (by decide)
theorem CODE.wf {ws : List (List Bool)} (h : CODE ws) : wf (.tup (ws.map wD)) = true := code_wf (by have := h.n; omega) fun w hw => by have := h.l w hw; omega
def LEN (ns : List Nat) : Prop := ns ≠ [] ∧ ns.length ≤ 60 ∧ ∀ n ∈ ns, n ≤ 60
/-- numbers from 0, or none -/
def unN : D → Option Nat
  | .int i => if 0 ≤ i then some i.toNat else none
  | _ => none
def lenOk (d : D) : Bool := match d with
  | .tup l => decide (1 ≤ l.length) && decide (l.length ≤ 60) && l.all fun x => inR x 0 60
  | _ => false
theorem inR_nat {x : D} {k : Nat} (h : inR x 0 k = true) : ∃ n : Nat, x = natD n ∧ n ≤ k := by
  cases x with
  | int i =>
    have h' := Bool.and_eq_true_iff.mp (show (decide ((0 : Int) ≤ i) && decide (i ≤ k)) = true from h)
    have h1 := of_decide_eq_true h'.1
    have h2 := of_decide_eq_true h'.2
    exact ⟨i.toNat, congrArg D.int (by omega), by omega⟩
  | _ => cases h
theorem nats_of {l : List D} {k : Nat} (h : l.all (fun x => inR x 0 k) = true) : ∃ ns : List Nat, l = ns.map natD ∧ ∀ n ∈ ns, n ≤ k := by
  induction l with
  | nil => exact ⟨[], rfl, fun _ z => by cases z⟩
  | cons x r ih =>
    rw [List.all_cons, Bool.and_eq_true] at h
    obtain ⟨n, h1, h2⟩ := inR_nat h.1
    obtain ⟨ns, h3, h4⟩ := ih h.2
    exact ⟨n :: ns, by rw [h1, h3]; rfl, fun m hm => (List.mem_cons.mp hm).elim (fun z => by rw [z]; exact h2) (h4 m)⟩
theorem lenOk_of {d : D} (h : lenOk d = true) : ∃ ns : List Nat, d = .tup (ns.map natD) ∧ LEN ns := by
  cases d with
  | tup l =>
    have h' : (decide (1 ≤ l.length) && decide (l.length ≤ 60) && l.all fun x => inR x 0 60) = true := h
    rw [Bool.and_eq_true, Bool.and_eq_true] at h'
    obtain ⟨ns, h1, h2⟩ := nats_of (k := 60) h'.2
    subst h1
    have a := of_decide_eq_true h'.1.1
    have c := of_decide_eq_true h'.1.2
    rw [nats_len] at a c
    exact ⟨ns, rfl, fun z => by rw [z] at a; exact absurd a (by decide), c, h2⟩
  | _ => cases h
theorem inR_natD {n k : Nat} (h : n ≤ k) : inR (natD n) 0 k = true := by
  show (decide ((0 : Int) ≤ (n : Int)) && decide ((n : Int) ≤ (k : Int))) = true
  rw [decide_eq_true (by omega), decide_eq_true (by omega)]; rfl
theorem lenOk_nats {ns : List Nat} (h : LEN ns) : lenOk (.tup (ns.map natD)) = true := by
  show (decide (1 ≤ (ns.map natD).length) && decide ((ns.map natD).length ≤ 60) && (ns.map natD).all fun x => inR x 0 60) = true
  rw [nats_len, decide_eq_true (show 1 ≤ ns.length from List.length_pos_iff.mpr h.1), decide_eq_true h.2.1, List.all_eq_true.mpr]
  · rfl
  · intro x hx
    obtain ⟨n, hn, rfl⟩ := List.mem_map.mp hx
    exact inR_natD (k := 60) (h.2.2 n hn)
/-! # NEEDS sure_code is_code_in is_word_in does_begin tupled -/
theorem at_sure_code {A : Ad} {d : D} (b : Box) (h : wf d = true) (g : depthD d ≤ 64) : F_sure_code A [d] b = if sureC (tupD d) = true then .ok (tupD d) b else .exc (.pl (.ref A.U)) b := by
  show outOf (m_sure_code A ⟨[.d d, .no, .no], b⟩) = _
  obtain ⟨t1, t2⟩ := tup_wf h
  have tp := at_tupled b h (by omega)
  have ci := at_is_code_in b t1 (by rw [t2]; exact g)
  generalize tupD d = e at *
  unfold m_sure_code
  cases hc : codeOk e with
  | false =>
    have hs : sureC e = false := by
      cases e with
      | tup l =>
        have hc' : (match unWs l with
          | some ws => isCode ws
          | none => false) = false := hc
        show (match unWs l with
          | some ws => fitW ws
          | none => false) = false
        cases hw : unWs l with
        | none => rfl
        | some ws =>
          rw [hw] at hc'
          show (isCode ws && _ && _) = false
          rw [show isCode ws = false from hc']; rfl
      | _ => rfl
    simp (disch := first | assumption | omega | (simp only [List.length_cons, List.length_nil, List.length_map, List.length_append, List.length_range, List.length_reverse, List.length_replicate] <;> omega)) only [EV0, EV1, EV2, EV3, EV4, EV5, EV6, EV7, EV8, EV9, EV10, DATc, DATd, EVw, ofO_s, List.getD_cons_zero, List.getD_cons_succ, List.set_cons_zero, List.set_cons_succ, Bool.not_true, Bool.not_false, Option.map_some, decide_true, decide_false, tp, ci, hc, hs, Bool.false_eq_true, if_false]
  | true =>
    cases e with
    | tup l =>
      have hc' : (match unWs l with
          | some ws => isCode ws
          | none => false) = true := hc
      cases hw : unWs l with
      | none => rw [hw] at hc'; cases hc'
      | some ws =>
        rw [hw] at hc'
        have el := unWs_eq hw
        subst el
        have ne : ws ≠ [] := fun z => by rw [z] at hc'; cases hc'
        have hl : ws.length ≤ 10000 := by have := (wf_tup t1).1; rw [wds_len] at this; exact this
        have hwl : ∀ w ∈ ws, w.length ≤ 10000 := fun w hw => by
          have := wf_str (wfs_mem (wf_tup t1).2 (List.mem_map.mpr ⟨w, hw, rfl⟩))
          rw [wd_len] at this; exact this
        have c0 : cm_sure_code_0 A ⟨[.d d, .d (.tup (ws.map wD)), .no], b⟩ = .ok ((ws.map List.length).map natD) ⟨[.d d, .d (.tup (ws.map wD)), .no], b⟩ := by
          unfold cm_sure_code_0
          refine (comp_map (fun d => match d with | .str x => .int (x.length : Nat) | _ => .non) rfl rfl (fun d hd => ?_) (small_line (by rw [List.length_map]; omega))).trans ?_
          · obtain ⟨w, hw, rfl⟩ := List.mem_map.mp hd
            have := hwl w hw
            refine ⟨_, rfl, ?_, rfl⟩
            simp (disch := first | assumption | omega | (simp only [List.length_cons, List.length_nil, List.length_map, List.length_append, List.length_range, List.length_reverse, List.length_replicate] <;> omega)) only [EV0, EV1, EV2, EV3, EV4, EV5, EV6, EV7, EV8, EV9, EV10, DATc, DATd, EVw, ofO_s, List.getD_cons_zero, List.getD_cons_succ, List.set_cons_zero, List.set_cons_succ, Bool.not_true, Bool.not_false, Option.map_some, decide_true, decide_false, wD_eq, lenW, wd_len]
          · rw [List.map_map, List.map_map]
            congr 1
            apply List.map_congr_left
            intro w _
            show D.int ((wd w).length : Nat) = natD w.length
            rw [wd_len]; rfl
        have hm := maxNL (ns := ws.map List.length) (by simp [ne])
        rw [sureC_wD]
        have il : isCode ws = true := hc'
        have lws : ((ws.map wD).length : Int) = (ws.length : Int) := by rw [wds_len]
        by_cases q : ws.length ≤ 60
        · by_cases r : mx (ws.map List.length) ≤ 60
          · have fw : fitW ws = true := by
              unfold fitW
              rw [il, decide_eq_true q, List.all_eq_true.mpr]
              · rfl
              · intro w hw
                have := mx_le (List.mem_map.mpr ⟨w, hw, rfl⟩ : w.length ∈ ws.map List.length)
                exact decide_eq_true (by omega)
            simp (disch := first | assumption | omega | (simp only [List.length_cons, List.length_nil, List.length_map, List.length_append, List.length_range, List.length_reverse, List.length_replicate] <;> omega)) only [EV0, EV1, EV2, EV3, EV4, EV5, EV6, EV7, EV8, EV9, EV10, DATc, DATd, EVw, ofO_s, List.getD_cons_zero, List.getD_cons_succ, List.set_cons_zero, List.set_cons_succ, Bool.not_true, Bool.not_false, Option.map_some, decide_true, decide_false, tp, ci, hc, fw, c0, hm, wds_len, if_true, decide_eq_false (show ¬ (60 : Int) < (ws.length : Int) by omega), decide_eq_false (show ¬ (60 : Int) < (mx (ws.map List.length) : Int) by omega)]
          · have fw : fitW ws = false := by
              unfold fitW
              rw [il, decide_eq_true q]
              show (ws.all fun w => decide (w.length ≤ 60)) = false
              rw [← Bool.not_eq_true, List.all_eq_true]
              intro z
              exact r (mx_lub fun n hn => by
                obtain ⟨w, hw, rfl⟩ := List.mem_map.mp hn
                exact of_decide_eq_true (z w hw))
            simp (disch := first | assumption | omega | (simp only [List.length_cons, List.length_nil, List.length_map, List.length_append, List.length_range, List.length_reverse, List.length_replicate] <;> omega)) only [EV0, EV1, EV2, EV3, EV4, EV5, EV6, EV7, EV8, EV9, EV10, DATc, DATd, EVw, ofO_s, List.getD_cons_zero, List.getD_cons_succ, List.set_cons_zero, List.set_cons_succ, Bool.not_true, Bool.not_false, Option.map_some, decide_true, decide_false, tp, ci, hc, fw, c0, hm, wds_len, Bool.false_eq_true, if_false, decide_eq_false (show ¬ (60 : Int) < (ws.length : Int) by omega), decide_eq_true (show (60 : Int) < (mx (ws.map List.length) : Int) by omega)]
        · have fw : fitW ws = false := by
            unfold fitW
            rw [il, decide_eq_false q]; rfl
          simp (disch := first | assumption | omega | (simp only [List.length_cons, List.length_nil, List.length_map, List.length_append, List.length_range, List.length_reverse, List.length_replicate] <;> omega)) only [EV0, EV1, EV2, EV3, EV4, EV5, EV6, EV7, EV8, EV9, EV10, DATc, DATd, EVw, ofO_s, List.getD_cons_zero, List.getD_cons_succ, List.set_cons_zero, List.set_cons_succ, Bool.not_true, Bool.not_false, Option.map_some, decide_true, decide_false, tp, ci, hc, fw, wds_len, Bool.false_eq_true, if_false, decide_eq_true (show (60 : Int) < (ws.length : Int) by omega)]
    | _ => cases hc
theorem at_sure_code' {A : Ad} {ws : List (List Bool)} (b : Box) (h : CODE ws) : F_sure_code A [.tup (ws.map wD)] b = .ok (.tup (ws.map wD)) b := by
  rw [at_sure_code b h.wf (by rw [code_dep]; omega), code_tup, sureC_wD, h.fit, if_pos rfl]
/-! # NEEDS are_lengths is_within is_number -/
theorem at_are_lengths {d : D} (b : Box) (h : wf d = true) : F_are_lengths [d] b = .ok (.bl (lenOk d)) b := by
  show outOf (m_are_lengths ⟨[.d d, .no], b⟩) = _
  unfold m_are_lengths
  cases d with
  | tup l =>
    obtain ⟨h1, h2⟩ := wf_tup h
    have c0 : cm_are_lengths_0 ⟨[.d (.tup l), .no], b⟩ = .ok (l.map fun x => .bl (inR x 0 60)) ⟨[.d (.tup l), .no], b⟩ := by
      refine comp_map (fun x => .bl (inR x 0 60)) rfl rfl (fun d hd => ⟨_, rfl, ?_, rfl⟩) (small_line (by omega))
      have := wfs_mem h2 hd
      simp (disch := first | assumption | omega | (simp only [List.length_cons, List.length_nil, List.length_map, List.length_append, List.length_range, List.length_reverse, List.length_replicate] <;> omega)) only [EV0, EV1, EV2, EV3, EV4, EV5, EV6, EV7, EV8, EV9, EV10, DATc, DATd, EVw, ofO_s, List.getD_cons_zero, List.getD_cons_succ, List.set_cons_zero, List.set_cons_succ, Bool.not_true, Bool.not_false, Option.map_some, decide_true, decide_false, at_is_within b this]
    show _ = RO.ok (D.bl (decide (1 ≤ l.length) && decide (l.length ≤ 60) && l.all fun x => inR x 0 60)) b
    by_cases p : 1 ≤ l.length
    · by_cases q : l.length ≤ 60
      · simp (disch := first | assumption | omega | (simp only [List.length_cons, List.length_nil, List.length_map, List.length_append, List.length_range, List.length_reverse, List.length_replicate] <;> omega)) only [EV0, EV1, EV2, EV3, EV4, EV5, EV6, EV7, EV8, EV9, EV10, DATc, DATd, EVw, ofO_s, List.getD_cons_zero, List.getD_cons_succ, List.set_cons_zero, List.set_cons_succ, Bool.not_true, Bool.not_false, Option.map_some, decide_true, decide_false, c0, allL, show dIsi ["tuple"] (.tup l) = some (.bl true) from rfl, decide_eq_true (show (1 : Int) ≤ (l.length : Int) by omega), decide_eq_true (show (l.length : Int) ≤ 60 by omega), decide_eq_true p, decide_eq_true q, Bool.true_and]
      · simp (disch := first | assumption | omega | (simp only [List.length_cons, List.length_nil, List.length_map, List.length_append, List.length_range, List.length_reverse, List.length_replicate] <;> omega)) only [EV0, EV1, EV2, EV3, EV4, EV5, EV6, EV7, EV8, EV9, EV10, DATc, DATd, EVw, ofO_s, List.getD_cons_zero, List.getD_cons_succ, List.set_cons_zero, List.set_cons_succ, Bool.not_true, Bool.not_false, Option.map_some, decide_true, decide_false, show dIsi ["tuple"] (.tup l) = some (.bl true) from rfl, decide_eq_true (show (1 : Int) ≤ (l.length : Int) by omega), decide_eq_false (show ¬ (l.length : Int) ≤ 60 by omega), decide_eq_true p, decide_eq_false q, Bool.true_and, Bool.false_and]
    · simp (disch := first | assumption | omega | (simp only [List.length_cons, List.length_nil, List.length_map, List.length_append, List.length_range, List.length_reverse, List.length_replicate] <;> omega)) only [EV0, EV1, EV2, EV3, EV4, EV5, EV6, EV7, EV8, EV9, EV10, DATc, DATd, EVw, ofO_s, List.getD_cons_zero, List.getD_cons_succ, List.set_cons_zero, List.set_cons_succ, Bool.not_true, Bool.not_false, Option.map_some, decide_true, decide_false, show dIsi ["tuple"] (.tup l) = some (.bl true) from rfl, decide_eq_false (show ¬ (1 : Int) ≤ (l.length : Int) by omega), decide_eq_false p, Bool.false_and]
  | int _ => rfl
  | lst _ => rfl
  | bl _ => rfl
  | non => rfl
  | str _ => rfl
  | _ => cases h
/-! # NEEDS sure_lengths are_lengths is_within is_number tupled -/
theorem at_sure_lengths {A : Ad} {d : D} (b : Box) (h : wf d = true) (g : depthD d ≤ 64) : F_sure_lengths A [d] b = if lenOk (tupD d) = true then .ok (tupD d) b else .exc (.pl (.ref A.U)) b := by
  show outOf (m_sure_lengths A ⟨[.d d, .no], b⟩) = _
  unfold m_sure_lengths
  obtain ⟨t1, t2⟩ := tup_wf h
  cases hc : lenOk (tupD d) <;> simp (disch := first | assumption | omega | (simp only [List.length_cons, List.length_nil, List.length_map, List.length_append, List.length_range, List.length_reverse, List.length_replicate] <;> omega)) only [EV0, EV1, EV2, EV3, EV4, EV5, EV6, EV7, EV8, EV9, EV10, DATc, DATd, EVw, ofO_s, List.getD_cons_zero, List.getD_cons_succ, List.set_cons_zero, List.set_cons_succ, Bool.not_true, Bool.not_false, Option.map_some, decide_true, decide_false, at_tupled b h (by omega), at_are_lengths b t1, hc, Bool.false_eq_true, if_false, if_true]
theorem at_sure_lengths' {A : Ad} {ns : List Nat} (b : Box) (h : LEN ns) : F_sure_lengths A [.tup (ns.map natD)] b = .ok (.tup (ns.map natD)) b := by
  rw [at_sure_lengths b (row_wf (by have := h.2.1; omega)) (by rw [row_dep]; omega), row_tup, lenOk_nats h, if_pos rfl]
/-! # NEEDS share_in power_of_two least_terms -/
/-- all shares, times 2 to M -/
def tot (M : Nat) (ns : List Nat) : Nat := (ns.map fun n => 2 ^ (M - n)).sum
theorem at_share_in {l : Bool} {ns : List Nat} (b : Box) (h1 : ns ≠ []) (h2 : ns.length ≤ 10000) (h3 : ∀ n ∈ ns, n < 200) : F_share_in [if l then .lst (ns.map natD) else .tup (ns.map natD)] b = .ok (.tup [.int ((ltm (tot (mx ns) ns) (mx ns)).1 : Int), .int ((ltm (tot (mx ns) ns) (mx ns)).2 : Int)]) b := by
  have hm : mx ns < 200 := h3 _ (mx_mem h1)
  have key : ∀ d : D, iSeq (rd 0) ⟨[.d d, .d (.int (mx ns : Int)), .no], b⟩ = .ok (ns.map natD) ⟨[.d d, .d (.int (mx ns : Int)), .no], b⟩ → cm_share_in_0 ⟨[.d d, .d (.int (mx ns : Int)), .no], b⟩ = .ok ((ns.map fun n => 2 ^ (mx ns - n)).map natD) ⟨[.d d, .d (.int (mx ns : Int)), .no], b⟩ := fun d hd => by
    unfold cm_share_in_0
    refine (comp_map (fun d => match d with | .int i => natD (2 ^ (mx ns - i.toNat)) | _ => .non) hd rfl (fun d hd => ?_) (small_line (by rw [List.length_map]; omega))).trans ?_
    · obtain ⟨n, hn, rfl⟩ := List.mem_map.mp hd
      have := mx_le hn
      refine ⟨_, rfl, ?_, rfl⟩
      simp (disch := first | assumption | omega | (simp only [List.length_cons, List.length_nil, List.length_map, List.length_append, List.length_range, List.length_reverse, List.length_replicate] <;> omega)) only [EV0, EV1, EV2, EV3, EV4, EV5, EV6, EV7, EV8, EV9, EV10, DATc, DATd, EVw, ofO_s, List.getD_cons_zero, List.getD_cons_succ, List.set_cons_zero, List.set_cons_succ, Bool.not_true, Bool.not_false, Option.map_some, decide_true, decide_false, natD_eq, show ((mx ns : Int) - (n : Int)) = ((mx ns - n : Nat) : Int) by omega, at_power_of_two b (show mx ns - n ≤ 100000 by omega), Int.toNat_natCast]
    · rw [List.map_map, List.map_map]
      congr 1
  cases l with
  | true =>
    show outOf (m_share_in ⟨[.d (.lst (ns.map natD)), .no, .no], b⟩) = _
    unfold m_share_in
    simp (disch := first | assumption | omega | (simp only [List.length_cons, List.length_nil, List.length_map, List.length_append, List.length_range, List.length_reverse, List.length_replicate] <;> omega)) only [EV0, EV1, EV2, EV3, EV4, EV5, EV6, EV7, EV8, EV9, EV10, DATc, DATd, EVw, ofO_s, List.getD_cons_zero, List.getD_cons_succ, List.set_cons_zero, List.set_cons_succ, Bool.not_true, Bool.not_false, Option.map_some, decide_true, decide_false, maxNL h1, key (.lst (ns.map natD)) rfl, sumNL, at_least_terms b hm, tot]
  | false =>
    show outOf (m_share_in ⟨[.d (.tup (ns.map natD)), .no, .no], b⟩) = _
    unfold m_share_in
    simp (disch := first | assumption | omega | (simp only [List.length_cons, List.length_nil, List.length_map, List.length_append, List.length_range, List.length_reverse, List.length_replicate] <;> omega)) only [EV0, EV1, EV2, EV3, EV4, EV5, EV6, EV7, EV8, EV9, EV10, DATc, DATd, EVw, ofO_s, List.getD_cons_zero, List.getD_cons_succ, List.set_cons_zero, List.set_cons_succ, Bool.not_true, Bool.not_false, Option.map_some, decide_true, decide_false, maxNT h1, key (.tup (ns.map natD)) rfl, sumNL, at_least_terms b hm, tot]
/-! # NEEDS lengths_share share_in power_of_two least_terms sure_lengths are_lengths is_within is_number tupled -/
theorem at_lengths_share {A : Ad} {ns : List Nat} (b : Box) (h : LEN ns) : F_lengths_share A [.tup (ns.map natD)] b = .ok (.tup [.int ((ltm (tot (mx ns) ns) (mx ns)).1 : Int), .int ((ltm (tot (mx ns) ns) (mx ns)).2 : Int)]) b := by
  show outOf (m_lengths_share A ⟨[.d (.tup (ns.map natD))], b⟩) = _
  unfold m_lengths_share
  have e := at_share_in (l := false) b h.1 (by have := h.2.1; omega) (fun n hn => by have := h.2.2 n hn; omega)
  rw [if_neg Bool.false_ne_true] at e
  simp (disch := first | assumption | omega | (simp only [List.length_cons, List.length_nil, List.length_map, List.length_append, List.length_range, List.length_reverse, List.length_replicate] <;> omega)) only [EV0, EV1, EV2, EV3, EV4, EV5, EV6, EV7, EV8, EV9, EV10, DATc, DATd, EVw, ofO_s, List.getD_cons_zero, List.getD_cons_succ, List.set_cons_zero, List.set_cons_succ, Bool.not_true, Bool.not_false, Option.map_some, decide_true, decide_false, at_sure_lengths' b h, e]
/-! # NEEDS word_of -/
/-- the word of so many signs for a number -/
def wof : Nat → Nat → List Bool
  | _, 0 => []
  | v, l + 1 => wof (v / 2) l ++ [v % 2 == 1]
theorem wof_len : ∀ (l v : Nat), (wof v l).length = l
  | 0, _ => rfl
  | l + 1, v => by show (wof (v / 2) l ++ [_]).length = _; rw [List.length_append, wof_len l]; rfl
/-- from the last sign on -/
def wofr : Nat → Nat → List Bool
  | _, 0 => []
  | v, l + 1 => (v % 2 == 1) :: wofr (v / 2) l
theorem wofr_rev : ∀ (l v : Nat), (wofr v l).reverse = wof v l
  | 0, _ => rfl
  | l + 1, v => by show ((_) :: wofr (v / 2) l).reverse = _; rw [List.reverse_cons, wofr_rev l]; rfl
theorem str_bit (v : Nat) : dStr (.int ((v : Int) % 2)) = some (.str (wd [v % 2 == 1])) := by
  have h : (v : Int) % 2 = 0 ∨ (v : Int) % 2 = 1 := by omega
  rcases h with h | h
  · rw [h, show (v % 2 == 1) = false by rw [beq_eq_false_iff_ne]; omega]; show (if (0 : Int).natAbs.log2 < 1920 then some (D.str (Str.ofString (toString (0 : Int)))) else none) = _; rw [if_pos (by decide)]; rfl
  · rw [h, show (v % 2 == 1) = true by rw [beq_iff_eq]; omega]; show (if (1 : Int).natAbs.log2 < 1920 then some (D.str (Str.ofString (toString (1 : Int)))) else none) = _; rw [if_pos (by decide)]; rfl
theorem word_loop : ∀ (l : List Nat) (v : Nat) (f : List Bool) (k : D) (t : SV) (b : Box), l.length + f.length ≤ 1000 → ∃ t' v', sForL (gN 3) lp_word_of_0 (l.map fun i : Nat => D.int (i : Int)) ⟨[.d (.int (v : Int)), .d k, .d (.str (wd f)), t], b⟩ = .nx ⟨[v', .d k, .d (.str (wd ((wofr v l.length).reverse ++ f))), t'], b⟩
  | [], v, f, k, t, b, h => ⟨t, _, by simp [sForL, wofr]; rfl⟩
  | i :: r, v, f, k, t, b, h => by
    rw [List.length_cons] at h
    obtain ⟨t', v', e⟩ := word_loop r (v / 2) ([v % 2 == 1] ++ f) k (.d (.int (i : Int))) b (by rw [List.length_append, List.length_singleton]; omega)
    refine ⟨t', v', ?_⟩
    rw [List.map_cons]
    have hc := catW (p := [v % 2 == 1]) (q := f) (by rw [List.length_singleton]; omega)
    simp (disch := first | assumption | omega | (simp only [List.length_cons, List.length_nil, List.length_map, List.length_append, List.length_range, List.length_reverse, List.length_replicate] <;> omega)) only [EV0, EV1, EV2, EV3, EV4, EV5, EV6, EV7, EV8, EV9, EV10, DATc, DATd, EVw, ofO_s, List.getD_cons_zero, List.getD_cons_succ, List.set_cons_zero, List.set_cons_succ, Bool.not_true, Bool.not_false, Option.map_some, decide_true, decide_false, e_lp_word_of_0, str_bit, hc]
    rw [show (v : Int) / 2 = ((v / 2 : Nat) : Int) by omega, e]
    have z : (wofr v (i :: r).length).reverse ++ f = (wofr (v / 2) r.length).reverse ++ ([v % 2 == 1] ++ f) := by
      show ((v % 2 == 1) :: wofr (v / 2) r.length).reverse ++ f = _
      rw [List.reverse_cons, List.append_assoc]
    rw [z]
theorem at_word_of {v l : Nat} (b : Box) (h : l ≤ 1000) : F_word_of [.int (v : Int), .int (l : Int)] b = .ok (wD (wof v l)) b := by
  show outOf (m_word_of ⟨[.d (.int (v : Int)), .d (.int (l : Int)), .no, .no], b⟩) = _
  unfold m_word_of
  obtain ⟨t', v', e⟩ := word_loop (List.range l) v [] (.int (l : Int)) .no b (by rw [List.length_range]; exact h)
  rw [List.length_range, wofr_rev, List.append_nil] at e
  simp (disch := first | assumption | omega | (simp only [List.length_cons, List.length_nil, List.length_map, List.length_append, List.length_range, List.length_reverse, List.length_replicate] <;> omega)) only [EV0, EV1, EV2, EV3, EV4, EV5, EV6, EV7, EV8, EV9, EV10, DATc, DATd, EVw, ofO_s, List.getD_cons_zero, List.getD_cons_succ, List.set_cons_zero, List.set_cons_succ, Bool.not_true, Bool.not_false, Option.map_some, decide_true, decide_false, rgD_nat, wd_nil, e]
  rfl
/-! # NEEDS code_lengths sure_code is_code_in is_word_in does_begin tupled -/
theorem at_code_lengths {A : Ad} {ws : List (List Bool)} (b : Box) (h : CODE ws) : F_code_lengths A [.tup (ws.map wD)] b = .ok (.tup ((ws.map List.length).map natD)) b := by
  show outOf (m_code_lengths A ⟨[.d (.tup (ws.map wD)), .no], b⟩) = _
  have c0 : cm_code_lengths_0 A ⟨[.d (.tup (ws.map wD)), .no], b⟩ = .ok ((ws.map List.length).map natD) ⟨[.d (.tup (ws.map wD)), .no], b⟩ := by
    unfold cm_code_lengths_0
    have it : iSeq (mCall (F_sure_code A) (aCons (rd 0) aNil)) ⟨[.d (.tup (ws.map wD)), .no], b⟩ = .ok (ws.map wD) ⟨[.d (.tup (ws.map wD)), .no], b⟩ := by simp (disch := first | assumption | omega | (simp only [List.length_cons, List.length_nil, List.length_map, List.length_append, List.length_range, List.length_reverse, List.length_replicate] <;> omega)) only [EV0, EV1, EV2, EV3, EV4, EV5, EV6, EV7, EV8, EV9, EV10, DATc, DATd, EVw, ofO_s, List.getD_cons_zero, List.getD_cons_succ, List.set_cons_zero, List.set_cons_succ, Bool.not_true, Bool.not_false, Option.map_some, decide_true, decide_false, at_sure_code' b h]
    refine (comp_map (fun d => match d with | .str x => .int (x.length : Nat) | _ => .non) it rfl (fun d hd => ?_) (small_line (by rw [List.length_map]; have := h.n; omega))).trans ?_
    · obtain ⟨w, hw, rfl⟩ := List.mem_map.mp hd
      have := h.l w hw
      refine ⟨_, rfl, ?_, rfl⟩
      simp (disch := first | assumption | omega | (simp only [List.length_cons, List.length_nil, List.length_map, List.length_append, List.length_range, List.length_reverse, List.length_replicate] <;> omega)) only [EV0, EV1, EV2, EV3, EV4, EV5, EV6, EV7, EV8, EV9, EV10, DATc, DATd, EVw, ofO_s, List.getD_cons_zero, List.getD_cons_succ, List.set_cons_zero, List.set_cons_succ, Bool.not_true, Bool.not_false, Option.map_some, decide_true, decide_false, wD_eq, lenW, wd_len]
    · rw [List.map_map, List.map_map]
      congr 1
      apply List.map_congr_left
      intro w _
      show D.int ((wd w).length : Nat) = natD w.length
      rw [wd_len]; rfl
  unfold m_code_lengths
  simp (disch := first | assumption | omega | (simp only [List.length_cons, List.length_nil, List.length_map, List.length_append, List.length_range, List.length_reverse, List.length_replicate] <;> omega)) only [EV0, EV1, EV2, EV3, EV4, EV5, EV6, EV7, EV8, EV9, EV10, DATc, DATd, EVw, ofO_s, List.getD_cons_zero, List.getD_cons_succ, List.set_cons_zero, List.set_cons_succ, Bool.not_true, Bool.not_false, Option.map_some, decide_true, decide_false, c0]
end K
end P_codes_

section P_lengths_
set_option Elab.async false
set_option linter.all false
set_option maxRecDepth 100000
set_option maxHeartbeats 4000000
namespace K
open PySem PySem.Spec PyProof.Rows L2 Pv
/-! # NEEDS -/
/-- the sums behind each length, times 2 to M, from h on -/
def sumsF (M : Nat) : Nat → List Nat → List Nat
  | _, [] => []
  | h, n :: r => ((h + 2 ^ (M - n) - 1) / 2 ^ (M - n) * 2 ^ (M - n) + 2 ^ (M - n)) :: sumsF M ((h + 2 ^ (M - n) - 1) / 2 ^ (M - n) * 2 ^ (M - n) + 2 ^ (M - n)) r
theorem sumsF_len (M : Nat) : ∀ (ns : List Nat) (h : Nat), (sumsF M h ns).length = ns.length
  | [], _ => rfl
  | n :: r, h => by show (sumsF M _ r).length + 1 = r.length + 1; rw [sumsF_len M r]
def sm (ns : List Nat) : List Nat := sumsF (mx ns) 0 ns
theorem sm_len (ns : List Nat) : (sm ns).length = ns.length := sumsF_len _ _ _
/-- the places of what p holds of -/
def idxs (p : Nat → Bool) : Nat → List Nat → List Nat
  | _, [] => []
  | k, x :: r => if p x then k :: idxs p (k + 1) r else idxs p (k + 1) r
def bar (ns : List Nat) : Option Nat := (idxs (fun x => decide (2 ^ mx ns < x)) 0 (sm ns)).head?
def LEQ (ns : List Nat) : Prop := ns ≠ [] ∧ ns.length ≤ 100 ∧ ∀ n ∈ ns, n ≤ 60
theorem LEN.q {ns : List Nat} (h : LEN ns) : LEQ ns := ⟨h.1, by have := h.2.1; omega, h.2.2⟩
theorem LEQ.mx {ns : List Nat} (h : LEQ ns) : mx ns ≤ 60 := mx_lub h.2.2
theorem pow_lt64 {k : Nat} (h : k ≤ 60) : 2 ^ k < 2 ^ 64 := Nat.pow_lt_pow_right (by decide) (by omega)
theorem pow_pos2 (k : Nat) : 0 < 2 ^ k := Nat.pow_pos (by decide)
/-! # NEEDS sums_in power_of_two -/
theorem sums_loop (d : D) (M : Nat) (b : Box) : ∀ (ns : List Nat) (h : Nat) (f : List Nat) (t u : SV), (∀ n ∈ ns, n ≤ M) → M ≤ 60 → f.length + ns.length ≤ 1000 →
    ∃ (t' u' : SV) (h' : Int), sForL (gN 1) lp_sums_in_0 (ns.map natD) ⟨[.d d, t, .d (.int (M : Int)), .d (.int (h : Int)), .o (f.map natD), u], b⟩ = .nx ⟨[.d d, t', .d (.int (M : Int)), .d (.int h'), .o ((f ++ sumsF M h ns).map natD), u'], b⟩
  | [], h, f, t, u, _, _, _ => ⟨t, u, h, by simp [sForL, sumsF]⟩
  | n :: r, h, f, t, u, g1, g2, g3 => by
    have hn := g1 n List.mem_cons_self
    rw [List.length_cons] at g3
    have p1 := pow_pos2 (M - n)
    have p2 := pow_lt64 (k := M - n) (by omega)
    generalize hp : 2 ^ (M - n) = p at p1 p2
    obtain ⟨t', u', h', e⟩ := sums_loop d M b r ((h + p - 1) / p * p + p) (f ++ [(h + p - 1) / p * p + p]) (.d (natD n)) (.d (.int (p : Int))) (fun m hm => g1 m (List.mem_cons_of_mem _ hm)) g2 (by rw [List.length_append, List.length_singleton]; omega)
    refine ⟨t', u', h', ?_⟩
    have q := at_power_of_two (n := M - n) b (by omega)
    rw [hp] at q
    have z1 : ((M : Int) - (n : Int)) = ((M - n : Nat) : Int) := by omega
    have z2 : (p : Int).natAbs < 2 ^ 128 := by
      rw [Int.natAbs_natCast]; exact Nat.lt_trans p2 (by decide)
    have z3 : (p : Int).natAbs < 2 ^ 64 := by rw [Int.natAbs_natCast]; exact p2
    have z4 : (0 : Int) < (p : Int) := by omega
    have z5 : ((h : Int) + (p : Int) - 1) / (p : Int) * (p : Int) + (p : Int) = (((h + p - 1) / p * p + p : Nat) : Int) := by
      rw [show (h : Int) + (p : Int) - 1 = ((h + p - 1 : Nat) : Int) by omega]
      push_cast
      rfl
    have z6 : (f.map natD).length < 100000 := by rw [nats_len]; omega
    rw [List.map_cons]
    simp (disch := first | assumption | omega | (simp only [List.length_cons, List.length_nil, List.length_map, List.length_append, List.length_range, List.length_reverse, List.length_replicate] <;> omega)) only [EV0, EV1, EV2, EV3, EV4, EV5, EV6, EV7, EV8, EV9, EV10, DATc, DATd, EVw, ofO_s, List.getD_cons_zero, List.getD_cons_succ, List.set_cons_zero, List.set_cons_succ, Bool.not_true, Bool.not_false, Option.map_some, decide_true, decide_false, e_lp_sums_in_0, natD_eq, z1, q, divI z4 z2, mulI2 z3, z5]
    rw [show f.map natD ++ [D.int (((h + p - 1) / p * p + p : Nat) : Int)] = (f ++ [(h + p - 1) / p * p + p]).map natD by rw [List.map_append]; rfl]
    rw [show (SV.d (D.int (n : Int))) = .d (natD n) from rfl, e]
    show _ = SO.nx ⟨[_, _, _, _, .o ((f ++ (((h + 2 ^ (M - n) - 1) / 2 ^ (M - n) * 2 ^ (M - n) + 2 ^ (M - n)) :: sumsF M _ r)).map natD), _], b⟩
    rw [hp, List.append_assoc]
    rfl
theorem at_sums_in {ns : List Nat} (b : Box) (h : LEQ ns) : F_sums_in [.tup (ns.map natD)] b = .ok (.lst ((sm ns).map natD)) b := by
  show outOf (m_sums_in ⟨[.d (.tup (ns.map natD)), .no, .no, .no, .no, .no], b⟩) = _
  unfold m_sums_in
  obtain ⟨t', u', h', e⟩ := sums_loop (.tup (ns.map natD)) (mx ns) b ns 0 [] .no .no (fun n hn => mx_le hn) h.mx (by have := h.2.1; show 0 + _ ≤ _; omega)
  rw [List.nil_append, List.map_nil, show ((0 : Nat) : Int) = 0 from rfl] at e
  simp (disch := first | assumption | omega | (simp only [List.length_cons, List.length_nil, List.length_map, List.length_append, List.length_range, List.length_reverse, List.length_replicate] <;> omega)) only [EV0, EV1, EV2, EV3, EV4, EV5, EV6, EV7, EV8, EV9, EV10, DATc, DATd, EVw, ofO_s, List.getD_cons_zero, List.getD_cons_succ, List.set_cons_zero, List.set_cons_succ, Bool.not_true, Bool.not_false, Option.map_some, decide_true, decide_false, maxNT h.1, e]
  rfl
/-! # NEEDS bar_in sums_in power_of_two -/
theorem idx_en (p : Nat → Bool) : ∀ (xs : List Nat) (k : Nat), ((enD k (xs.map natD)).filter fun d => match d with | .tup [_, .int x] => p x.toNat | _ => false).map (fun d => match d with | .tup [i, _] => i | _ => .non) = (idxs p k xs).map natD
  | [], _ => rfl
  | x :: r, k => by
    show ((D.tup [.int (k : Int), natD x] :: enD (k + 1) (r.map natD)).filter _).map _ = _
    rw [List.filter_cons]
    show (if p (x : Int).toNat = true then _ else _ : List D).map _ = _
    rw [Int.toNat_natCast]
    cases c : p x with
    | true => rw [if_pos rfl, List.map_cons, idx_en p r (k + 1)]; show _ = (if p x then k :: idxs p (k + 1) r else idxs p (k + 1) r).map natD; rw [c]; rfl
    | false => rw [if_neg Bool.false_ne_true, idx_en p r (k + 1)]; show _ = (if p x then k :: idxs p (k + 1) r else idxs p (k + 1) r).map natD; rw [c]; rfl
theorem mem_enD {xs : List Nat} {d : D} {k : Nat} (h : d ∈ enD k (xs.map natD)) : ∃ i x : Nat, d = .tup [natD i, natD x] := by
  induction xs generalizing k with
  | nil => cases h
  | cons x r ih =>
    rcases List.mem_cons.mp (show d ∈ D.tup [.int (k : Int), natD x] :: enD (k + 1) (r.map natD) from h) with z | z
    · exact ⟨k, x, z⟩
    · exact ih z
def optN : Option Nat → D
  | some n => natD n
  | none => .non
theorem at_bar_in {ns : List Nat} (b : Box) (h : LEQ ns) : F_bar_in [.tup (ns.map natD)] b = .ok (optN (bar ns)) b := by
  show outOf (m_bar_in ⟨[.d (.tup (ns.map natD)), .no, .no, .no, .no], b⟩) = _
  unfold m_bar_in
  have hm := h.mx
  have c0 : cm_bar_in_0 ⟨[.d (.tup (ns.map natD)), .d (.int ((2 ^ mx ns : Nat) : Int)), .no, .no, .no], b⟩ = .ok ((idxs (fun x => decide (2 ^ mx ns < x)) 0 (sm ns)).map natD) ⟨[.d (.tup (ns.map natD)), .d (.int ((2 ^ mx ns : Nat) : Int)), .no, .no, .no], b⟩ := by
    unfold cm_bar_in_0
    have it : iEnM (mCall F_sums_in (aCons (rd 0) aNil)) ⟨[.d (.tup (ns.map natD)), .d (.int ((2 ^ mx ns : Nat) : Int)), .no, .no, .no], b⟩ = .ok (enD 0 ((sm ns).map natD)) ⟨[.d (.tup (ns.map natD)), .d (.int ((2 ^ mx ns : Nat) : Int)), .no, .no, .no], b⟩ := by simp (disch := first | assumption | omega | (simp only [List.length_cons, List.length_nil, List.length_map, List.length_append, List.length_range, List.length_reverse, List.length_replicate] <;> omega)) only [EV0, EV1, EV2, EV3, EV4, EV5, EV6, EV7, EV8, EV9, EV10, DATc, DATd, EVw, ofO_s, List.getD_cons_zero, List.getD_cons_succ, List.set_cons_zero, List.set_cons_succ, Bool.not_true, Bool.not_false, Option.map_some, decide_true, decide_false, at_sums_in b h]
    rw [← idx_en]
    refine comp_pure _ _ it rfl (fun d hd => ?_) (small_line (by rw [enD_len, nats_len, sm_len]; have := h.2.1; omega))
    obtain ⟨i, x, rfl⟩ := mem_enD hd
    refine ⟨_, rfl, ?_, fun _ => ?_, rfl⟩
    · by_cases q : 2 ^ mx ns < x
      · simp (disch := first | assumption | omega | (simp only [List.length_cons, List.length_nil, List.length_map, List.length_append, List.length_range, List.length_reverse, List.length_replicate] <;> omega)) only [EV0, EV1, EV2, EV3, EV4, EV5, EV6, EV7, EV8, EV9, EV10, DATc, DATd, EVw, ofO_s, List.getD_cons_zero, List.getD_cons_succ, List.set_cons_zero, List.set_cons_succ, Bool.not_true, Bool.not_false, Option.map_some, decide_true, decide_false, natD_eq, decide_eq_true (show ((2 ^ mx ns : Nat) : Int) < (x : Int) by omega), Int.toNat_natCast, decide_eq_true q]
      · simp (disch := first | assumption | omega | (simp only [List.length_cons, List.length_nil, List.length_map, List.length_append, List.length_range, List.length_reverse, List.length_replicate] <;> omega)) only [EV0, EV1, EV2, EV3, EV4, EV5, EV6, EV7, EV8, EV9, EV10, DATc, DATd, EVw, ofO_s, List.getD_cons_zero, List.getD_cons_succ, List.set_cons_zero, List.set_cons_succ, Bool.not_true, Bool.not_false, Option.map_some, decide_true, decide_false, natD_eq, decide_eq_false (show ¬ ((2 ^ mx ns : Nat) : Int) < (x : Int) by omega), Int.toNat_natCast, decide_eq_false q]
    · simp (disch := first | assumption | omega | (simp only [List.length_cons, List.length_nil, List.length_map, List.length_append, List.length_range, List.length_reverse, List.length_replicate] <;> omega)) only [EV0, EV1, EV2, EV3, EV4, EV5, EV6, EV7, EV8, EV9, EV10, DATc, DATd, EVw, ofO_s, List.getD_cons_zero, List.getD_cons_succ, List.set_cons_zero, List.set_cons_succ, Bool.not_true, Bool.not_false, Option.map_some, decide_true, decide_false, natD_eq]
  unfold bar
  cases hc : idxs (fun x => decide (2 ^ mx ns < x)) 0 (sm ns) with
  | nil =>
    rw [hc] at c0
    simp (disch := first | assumption | omega | (simp only [List.length_cons, List.length_nil, List.length_map, List.length_append, List.length_range, List.length_reverse, List.length_replicate] <;> omega)) only [EV0, EV1, EV2, EV3, EV4, EV5, EV6, EV7, EV8, EV9, EV10, DATc, DATd, EVw, ofO_s, List.getD_cons_zero, List.getD_cons_succ, List.set_cons_zero, List.set_cons_succ, Bool.not_true, Bool.not_false, Option.map_some, decide_true, decide_false, maxNT h.1, at_power_of_two b (show mx ns ≤ 100000 by omega), c0, eqNL0, decide_eq_true (show ([] : List Nat) = [] from rfl)]
    rfl
  | cons i r =>
    rw [hc] at c0
    have hat : atI ((i :: r).map natD) 0 = some (natD i) := atI_0
    simp (disch := first | assumption | omega | (simp only [List.length_cons, List.length_nil, List.length_map, List.length_append, List.length_range, List.length_reverse, List.length_replicate] <;> omega)) only [EV0, EV1, EV2, EV3, EV4, EV5, EV6, EV7, EV8, EV9, EV10, DATc, DATd, EVw, ofO_s, List.getD_cons_zero, List.getD_cons_succ, List.set_cons_zero, List.set_cons_succ, Bool.not_true, Bool.not_false, Option.map_some, decide_true, decide_false, maxNT h.1, at_power_of_two b (show mx ns ≤ 100000 by omega), c0, eqNL0, decide_eq_false (show ¬ (i :: r) = [] by simp), hat]
    rfl
/-! # NEEDS wasted_in sums_in power_of_two -/
theorem getLast_map {l : List Nat} (h : l ≠ []) : (l.map natD).getLast? = some (natD (l.getLast h)) := by
  rw [List.getLast?_map, List.getLast?_eq_some_getLast h]; rfl
def lastS (ns : List Nat) : Nat := (sm ns).getLastD 0
theorem sm_ne {ns : List Nat} (h : ns ≠ []) : sm ns ≠ [] := fun z => h (List.length_eq_zero_iff.mp (by rw [← sm_len, z]; rfl))
theorem sm_last {ns : List Nat} (h : ns ≠ []) : atI ((sm ns).map natD) (-1) = some (.int (lastS ns : Int)) := by
  rw [atI_last, getLast_map (sm_ne h)]
  unfold lastS
  rw [List.getLastD_eq_getLast?, List.getLast?_eq_some_getLast (sm_ne h)]
  rfl
theorem pows_comp (me : M D) (d : D) (b : Box) {ns : List Nat} (hm : mx ns ≤ 60) (hl : ns.length ≤ 1000) (it : iSeq (rd 0) ⟨[.d d, .d (.int (mx ns : Int)), .no], b⟩ = .ok (ns.map natD) ⟨[.d d, .d (.int (mx ns : Int)), .no], b⟩) :
    mComp (iSeq (rd 0)) (gN 2) mYes (mCall F_power_of_two (aCons (m2 dSub (rd 1) (rd 2)) aNil)) [2] ⟨[.d d, .d (.int (mx ns : Int)), .no], b⟩ = .ok ((ns.map fun n => 2 ^ (mx ns - n)).map natD) ⟨[.d d, .d (.int (mx ns : Int)), .no], b⟩ := by
  refine (comp_map (fun d => match d with | .int i => natD (2 ^ (mx ns - i.toNat)) | _ => .non) it rfl (fun d hd => ?_) (small_line (by rw [List.length_map]; omega))).trans ?_
  · obtain ⟨n, hn, rfl⟩ := List.mem_map.mp hd
    have := mx_le hn
    refine ⟨_, rfl, ?_, rfl⟩
    simp (disch := first | assumption | omega | (simp only [List.length_cons, List.length_nil, List.length_map, List.length_append, List.length_range, List.length_reverse, List.length_replicate] <;> omega)) only [EV0, EV1, EV2, EV3, EV4, EV5, EV6, EV7, EV8, EV9, EV10, DATc, DATd, EVw, ofO_s, List.getD_cons_zero, List.getD_cons_succ, List.set_cons_zero, List.set_cons_succ, Bool.not_true, Bool.not_false, Option.map_some, decide_true, decide_false, natD_eq, show ((mx ns : Int) - (n : Int)) = ((mx ns - n : Nat) : Int) by omega, at_power_of_two b (show mx ns - n ≤ 100000 by omega), Int.toNat_natCast]
  · rw [List.map_map, List.map_map]
    congr 1
theorem at_wasted_in {ns : List Nat} (b : Box) (h : LEQ ns) : F_wasted_in [.tup (ns.map natD)] b = .ok (.int ((lastS ns : Int) - (tot (mx ns) ns : Int))) b := by
  show outOf (m_wasted_in ⟨[.d (.tup (ns.map natD)), .no, .no], b⟩) = _
  unfold m_wasted_in
  have c0 : cm_wasted_in_0 ⟨[.d (.tup (ns.map natD)), .d (.int (mx ns : Int)), .no], b⟩ = _ := pows_comp (con .non) (.tup (ns.map natD)) b h.mx (by have := h.2.1; omega) rfl
  simp (disch := first | assumption | omega | (simp only [List.length_cons, List.length_nil, List.length_map, List.length_append, List.length_range, List.length_reverse, List.length_replicate] <;> omega)) only [EV0, EV1, EV2, EV3, EV4, EV5, EV6, EV7, EV8, EV9, EV10, DATc, DATd, EVw, ofO_s, List.getD_cons_zero, List.getD_cons_succ, List.set_cons_zero, List.set_cons_succ, Bool.not_true, Bool.not_false, Option.map_some, decide_true, decide_false, maxNT h.1, at_sums_in b h, sm_last h.1, c0, sumNL, tot]
/-! # NEEDS have_code bar_in sums_in power_of_two sure_lengths are_lengths is_within is_number tupled -/
theorem isN_opt (o : Option Nat) : dIsN (optN o) .non = some o.isNone := by cases o <;> rfl
theorem notN_opt (o : Option Nat) : dNotN (optN o) .non = some o.isSome := by cases o <;> rfl
theorem at_have_code {A : Ad} {ns : List Nat} (b : Box) (h : LEN ns) : F_have_code A [.tup (ns.map natD)] b = .ok (.bl (bar ns).isNone) b := by
  show outOf (m_have_code A ⟨[.d (.tup (ns.map natD))], b⟩) = _
  unfold m_have_code
  simp (disch := first | assumption | omega | (simp only [List.length_cons, List.length_nil, List.length_map, List.length_append, List.length_range, List.length_reverse, List.length_replicate] <;> omega)) only [EV0, EV1, EV2, EV3, EV4, EV5, EV6, EV7, EV8, EV9, EV10, DATc, DATd, EVw, ofO_s, List.getD_cons_zero, List.getD_cons_succ, List.set_cons_zero, List.set_cons_succ, Bool.not_true, Bool.not_false, Option.map_some, decide_true, decide_false, at_sure_lengths' b h, at_bar_in b h.q, isN_opt]
/-! # NEEDS length_sums sums_in power_of_two least_terms sure_lengths are_lengths is_within is_number tupled -/
def ltD (M x : Nat) : D := .tup [.int ((ltm x M).1 : Int), .int ((ltm x M).2 : Int)]
theorem at_length_sums {A : Ad} {ns : List Nat} (b : Box) (h : LEN ns) : F_length_sums A [.tup (ns.map natD)] b = .ok (.tup ((sm ns).map (ltD (mx ns)))) b := by
  show outOf (m_length_sums A ⟨[.d (.tup (ns.map natD)), .no, .no], b⟩) = _
  unfold m_length_sums
  have hm := h.q.mx
  have c0 : cm_length_sums_0 A ⟨[.d (.tup (ns.map natD)), .d (.tup (ns.map natD)), .no], b⟩ = .ok ((sm ns).map (ltD (mx ns))) ⟨[.d (.tup (ns.map natD)), .d (.tup (ns.map natD)), .no], b⟩ := by
    unfold cm_length_sums_0
    have it : iSeq (mCall F_sums_in (aCons (rd 1) aNil)) ⟨[.d (.tup (ns.map natD)), .d (.tup (ns.map natD)), .no], b⟩ = .ok ((sm ns).map natD) ⟨[.d (.tup (ns.map natD)), .d (.tup (ns.map natD)), .no], b⟩ := by simp (disch := first | assumption | omega | (simp only [List.length_cons, List.length_nil, List.length_map, List.length_append, List.length_range, List.length_reverse, List.length_replicate] <;> omega)) only [EV0, EV1, EV2, EV3, EV4, EV5, EV6, EV7, EV8, EV9, EV10, DATc, DATd, EVw, ofO_s, List.getD_cons_zero, List.getD_cons_succ, List.set_cons_zero, List.set_cons_succ, Bool.not_true, Bool.not_false, Option.map_some, decide_true, decide_false, at_sums_in b h.q]
    refine (comp_map (fun d => match d with | .int i => ltD (mx ns) i.toNat | _ => .non) it rfl (fun d hd => ?_) (small_line (by rw [nats_len, sm_len]; have := h.2.1; omega))).trans ?_
    · obtain ⟨x, _, rfl⟩ := List.mem_map.mp hd
      refine ⟨_, rfl, ?_, rfl⟩
      simp (disch := first | assumption | omega | (simp only [List.length_cons, List.length_nil, List.length_map, List.length_append, List.length_range, List.length_reverse, List.length_replicate] <;> omega)) only [EV0, EV1, EV2, EV3, EV4, EV5, EV6, EV7, EV8, EV9, EV10, DATc, DATd, EVw, ofO_s, List.getD_cons_zero, List.getD_cons_succ, List.set_cons_zero, List.set_cons_succ, Bool.not_true, Bool.not_false, Option.map_some, decide_true, decide_false, natD_eq, maxNT h.1, at_least_terms b (show mx ns < 200 by omega), Int.toNat_natCast, ltD]
    · rw [List.map_map]
      congr 1
  simp (disch := first | assumption | omega | (simp only [List.length_cons, List.length_nil, List.length_map, List.length_append, List.length_range, List.length_reverse, List.length_replicate] <;> omega)) only [EV0, EV1, EV2, EV3, EV4, EV5, EV6, EV7, EV8, EV9, EV10, DATc, DATd, EVw, ofO_s, List.getD_cons_zero, List.getD_cons_succ, List.set_cons_zero, List.set_cons_succ, Bool.not_true, Bool.not_false, Option.map_some, decide_true, decide_false, at_sure_lengths' b h, c0]
/-! # NEEDS length_bar bar_in sums_in power_of_two sure_lengths are_lengths is_within is_number tupled -/
theorem at_length_bar {A : Ad} {ns : List Nat} (b : Box) (h : LEN ns) : F_length_bar A [.tup (ns.map natD)] b = match bar ns with
    | some k => .ok (natD k) b
    | none => .exc (.pl (.ref A.C)) b := by
  show outOf (m_length_bar A ⟨[.d (.tup (ns.map natD)), .no], b⟩) = _
  unfold m_length_bar
  cases hb : bar ns with
  | none => simp (disch := first | assumption | omega | (simp only [List.length_cons, List.length_nil, List.length_map, List.length_append, List.length_range, List.length_reverse, List.length_replicate] <;> omega)) only [EV0, EV1, EV2, EV3, EV4, EV5, EV6, EV7, EV8, EV9, EV10, DATc, DATd, EVw, ofO_s, List.getD_cons_zero, List.getD_cons_succ, List.set_cons_zero, List.set_cons_succ, Bool.not_true, Bool.not_false, Option.map_some, decide_true, decide_false, at_sure_lengths' b h, at_bar_in b h.q, hb, isN_opt, Option.isNone_none]
  | some k => simp (disch := first | assumption | omega | (simp only [List.length_cons, List.length_nil, List.length_map, List.length_append, List.length_range, List.length_reverse, List.length_replicate] <;> omega)) only [EV0, EV1, EV2, EV3, EV4, EV5, EV6, EV7, EV8, EV9, EV10, DATc, DATd, EVw, ofO_s, List.getD_cons_zero, List.getD_cons_succ, List.set_cons_zero, List.set_cons_succ, Bool.not_true, Bool.not_false, Option.map_some, decide_true, decide_false, at_sure_lengths' b h, at_bar_in b h.q, hb, isN_opt, Option.isNone_some]; rfl
/-! # NEEDS words_by word_of sums_in power_of_two -/
/-- the least words of lengths -/
def lws (ns : List Nat) : List (List Bool) := List.zipWith (fun x n => wof (x / 2 ^ (mx ns - n) - 1) n) (sm ns) ns
theorem sumsF_ge (M : Nat) : ∀ (ns : List Nat) (h x n : Nat), (x, n) ∈ List.zip (sumsF M h ns) ns → 2 ^ (M - n) ≤ x
  | [], _, _, _, z => by cases z
  | m :: r, h, x, n, z => by
    rcases List.mem_cons.mp (show (x, n) ∈ (_, m) :: List.zip (sumsF M _ r) r from z) with e | e
    · cases e; exact Nat.le_add_left _ _
    · exact sumsF_ge M r _ x n e
theorem zpD_nats : ∀ xs ys : List Nat, zpD (xs.map natD) (ys.map natD) = (List.zip xs ys).map fun x => .tup [natD x.1, natD x.2]
  | [], _ => rfl
  | _ :: _, [] => rfl
  | x :: xs, y :: ys => by
    show D.tup [natD x, natD y] :: zpD (xs.map natD) (ys.map natD) = _
    rw [zpD_nats xs ys]; rfl
theorem at_words_by {ns : List Nat} (b : Box) (h : LEQ ns) : F_words_by [.tup (ns.map natD)] b = .ok (.tup ((lws ns).map wD)) b := by
  show outOf (m_words_by ⟨[.d (.tup (ns.map natD)), .no, .no, .no, .no], b⟩) = _
  unfold m_words_by
  have hm := h.mx
  have hl := h.2.1
  have c0 : cm_words_by_0 ⟨[.d (.tup (ns.map natD)), .d (.int (mx ns : Int)), .o ((List.zip (sm ns) ns).map fun x => .tup [natD x.1, natD x.2]), .no, .no], b⟩ = .ok ((lws ns).map wD) ⟨[.d (.tup (ns.map natD)), .d (.int (mx ns : Int)), .d (.lst ((List.zip (sm ns) ns).map fun x => .tup [natD x.1, natD x.2])), .no, .no], b⟩ := by
    unfold cm_words_by_0
    refine (comp_map (fun d => match d with | .tup [.int x, .int n] => wD (wof (x.toNat / 2 ^ (mx ns - n.toNat) - 1) n.toNat) | _ => .non) (seq_it rfl) rfl (fun d hd => ?_) (small_line (by rw [List.length_map, List.length_zip]; omega))).trans ?_
    · obtain ⟨⟨x, n⟩, hx, rfl⟩ := List.mem_map.mp hd
      have hn := h.2.2 n (List.of_mem_zip hx).2
      have hn2 := mx_le (List.of_mem_zip hx).2
      have ge := sumsF_ge _ _ _ _ _ hx
      have p1 := pow_pos2 (mx ns - n)
      have p2 := pow_lt64 (k := mx ns - n) (by omega)
      have q := at_power_of_two (n := mx ns - n) b (by omega)
      generalize hp : 2 ^ (mx ns - n) = p at p1 p2 q ge
      have g1 : 1 ≤ x / p := (Nat.le_div_iff_mul_le p1).mpr (by omega)
      have z2 : (p : Int).natAbs < 2 ^ 128 := by rw [Int.natAbs_natCast]; exact Nat.lt_trans p2 (by decide)
      have z4 : (0 : Int) < (p : Int) := by omega
      have z5 : (x : Int) / (p : Int) - 1 = ((x / p - 1 : Nat) : Int) := by
        have : ((x / p : Nat) : Int) = (x : Int) / (p : Int) := by push_cast; rfl
        omega
      refine ⟨_, rfl, ?_, rfl⟩
      simp (disch := first | assumption | omega | (simp only [List.length_cons, List.length_nil, List.length_map, List.length_append, List.length_range, List.length_reverse, List.length_replicate] <;> omega)) only [EV0, EV1, EV2, EV3, EV4, EV5, EV6, EV7, EV8, EV9, EV10, DATc, DATd, EVw, ofO_s, List.getD_cons_zero, List.getD_cons_succ, List.set_cons_zero, List.set_cons_succ, Bool.not_true, Bool.not_false, Option.map_some, decide_true, decide_false, natD_eq, show ((mx ns : Int) - (n : Int)) = ((mx ns - n : Nat) : Int) by omega, q, divI z4 z2, z5, at_word_of b (show n ≤ 1000 by omega), Int.toNat_natCast, hp]
    · rw [List.map_map]
      unfold lws
      rw [← List.map_uncurry_zip_eq_zipWith, List.map_map]
      congr 1
  simp (disch := first | assumption | omega | (simp only [List.length_cons, List.length_nil, List.length_map, List.length_append, List.length_range, List.length_reverse, List.length_replicate] <;> omega)) only [EV0, EV1, EV2, EV3, EV4, EV5, EV6, EV7, EV8, EV9, EV10, DATc, DATd, EVw, ofO_s, List.getD_cons_zero, List.getD_cons_succ, List.set_cons_zero, List.set_cons_succ, Bool.not_true, Bool.not_false, Option.map_some, decide_true, decide_false, maxNT h.1, at_sums_in b h, zpD_nats, c0]
/-! # NEEDS least_code words_by word_of bar_in sums_in power_of_two sure_lengths are_lengths is_within is_number tupled -/
theorem at_least_code {A : Ad} {ns : List Nat} (b : Box) (h : LEN ns) : F_least_code A [.tup (ns.map natD)] b = if (bar ns).isSome = true then .exc (.pl (.ref A.C)) b else .ok (.tup ((lws ns).map wD)) b := by
  show outOf (m_least_code A ⟨[.d (.tup (ns.map natD)), .no], b⟩) = _
  unfold m_least_code
  cases hb : (bar ns).isSome with
  | true => simp (disch := first | assumption | omega | (simp only [List.length_cons, List.length_nil, List.length_map, List.length_append, List.length_range, List.length_reverse, List.length_replicate] <;> omega)) only [EV0, EV1, EV2, EV3, EV4, EV5, EV6, EV7, EV8, EV9, EV10, DATc, DATd, EVw, ofO_s, List.getD_cons_zero, List.getD_cons_succ, List.set_cons_zero, List.set_cons_succ, Bool.not_true, Bool.not_false, Option.map_some, decide_true, decide_false, at_sure_lengths' b h, at_bar_in b h.q, notN_opt, hb, if_true]
  | false => simp (disch := first | assumption | omega | (simp only [List.length_cons, List.length_nil, List.length_map, List.length_append, List.length_range, List.length_reverse, List.length_replicate] <;> omega)) only [EV0, EV1, EV2, EV3, EV4, EV5, EV6, EV7, EV8, EV9, EV10, DATc, DATd, EVw, ofO_s, List.getD_cons_zero, List.getD_cons_succ, List.set_cons_zero, List.set_cons_succ, Bool.not_true, Bool.not_false, Option.map_some, decide_true, decide_false, at_sure_lengths' b h, at_bar_in b h.q, notN_opt, hb, at_words_by b h.q, Bool.false_eq_true, if_false]
/-! # NEEDS wasted wasted_in sums_in power_of_two least_terms sure_lengths are_lengths is_within is_number tupled -/
theorem at_wasted {A : Ad} {ns : List Nat} (b : Box) (h : LEN ns) (g : tot (mx ns) ns ≤ lastS ns) : F_wasted A [.tup (ns.map natD)] b = .ok (ltD (mx ns) (lastS ns - tot (mx ns) ns)) b := by
  show outOf (m_wasted A ⟨[.d (.tup (ns.map natD)), .no], b⟩) = _
  unfold m_wasted
  have hm := h.q.mx
  simp (disch := first | assumption | omega | (simp only [List.length_cons, List.length_nil, List.length_map, List.length_append, List.length_range, List.length_reverse, List.length_replicate] <;> omega)) only [EV0, EV1, EV2, EV3, EV4, EV5, EV6, EV7, EV8, EV9, EV10, DATc, DATd, EVw, ofO_s, List.getD_cons_zero, List.getD_cons_succ, List.set_cons_zero, List.set_cons_succ, Bool.not_true, Bool.not_false, Option.map_some, decide_true, decide_false, at_sure_lengths' b h, at_wasted_in b h.q, maxNT h.1, show (lastS ns : Int) - (tot (mx ns) ns : Int) = ((lastS ns - tot (mx ns) ns : Nat) : Int) by omega, at_least_terms b (show mx ns < 200 by omega), ltD]
/-! # NEEDS room_left bar_in sums_in power_of_two least_terms sure_lengths are_lengths is_within is_number tupled -/
theorem at_room_left {A : Ad} {ns : List Nat} (b : Box) (h : LEN ns) (g : lastS ns ≤ 2 ^ mx ns) (g2 : bar ns = none) : F_room_left A [.tup (ns.map natD)] b = .ok (ltD (mx ns) (2 ^ mx ns - lastS ns)) b := by
  show outOf (m_room_left A ⟨[.d (.tup (ns.map natD)), .no], b⟩) = _
  unfold m_room_left
  have hm := h.q.mx
  simp (disch := first | assumption | omega | (simp only [List.length_cons, List.length_nil, List.length_map, List.length_append, List.length_range, List.length_reverse, List.length_replicate] <;> omega)) only [EV0, EV1, EV2, EV3, EV4, EV5, EV6, EV7, EV8, EV9, EV10, DATc, DATd, EVw, ofO_s, List.getD_cons_zero, List.getD_cons_succ, List.set_cons_zero, List.set_cons_succ, Bool.not_true, Bool.not_false, Option.map_some, decide_true, decide_false, at_sure_lengths' b h, at_bar_in b h.q, notN_opt, g2, Option.isSome_none, at_sums_in b h.q, sm_last h.1, maxNT h.1, at_power_of_two b (show mx ns ≤ 100000 by omega), show ((2 ^ mx ns : Nat) : Int) - (lastS ns : Int) = ((2 ^ mx ns - lastS ns : Nat) : Int) by omega, at_least_terms b (show mx ns < 200 by omega), ltD]
/-! # NEEDS shortest_next bar_in sums_in power_of_two sure_lengths are_lengths is_within is_number tupled -/
theorem LEN.snoc {ns : List Nat} (h : LEN ns) {k : Nat} (g : k ≤ 60) : LEQ (ns ++ [k]) :=
  ⟨by simp, by rw [List.length_append, List.length_singleton]; have := h.2.1; omega, fun n hn => (List.mem_append.mp hn).elim (h.2.2 n) fun z => by rw [List.mem_singleton.mp z]; exact g⟩
/-- the first of k, k + 1, .. m - 1 behind which all is well -/
def firstN (ns : List Nat) : List Nat → Option Nat
  | [] => none
  | k :: r => if (bar (ns ++ [k])).isNone then some k else firstN ns r
theorem next_loop {A : Ad} {ns : List Nat} (d : D) (b : Box) (h : LEN ns) : ∀ (l : List Nat) (t : SV), (∀ k ∈ l, k ≤ 60) → ∃ t', sForL (gN 2) (lp_shortest_next_0 A) (l.map natD) ⟨[.d d, .d (.tup (ns.map natD)), t], b⟩ = match firstN ns l with
    | some k => .rt (natD k) ⟨[.d d, .d (.tup (ns.map natD)), .d (natD k)], b⟩
    | none => .nx ⟨[.d d, .d (.tup (ns.map natD)), t'], b⟩
  | [], t, _ => ⟨t, rfl⟩
  | k :: r, t, g => by
    have hk := g k List.mem_cons_self
    obtain ⟨t', e⟩ := next_loop (A := A) d b h r (.d (natD k)) fun m hm => g m (List.mem_cons_of_mem _ hm)
    refine ⟨t', ?_⟩
    have hl := h.2.1
    have z : ns.map natD ++ [natD k] = (ns ++ [k]).map natD := by rw [List.map_append]; rfl
    have zl : (ns.map natD).length + [natD k].length ≤ 100000 := by rw [nats_len, List.length_singleton]; omega
    rw [List.map_cons]
    unfold firstN
    cases hb : (bar (ns ++ [k])).isNone with
    | true => simp (disch := first | assumption | omega | (simp only [List.length_cons, List.length_nil, List.length_map, List.length_append, List.length_range, List.length_reverse, List.length_replicate] <;> omega)) only [EV0, EV1, EV2, EV3, EV4, EV5, EV6, EV7, EV8, EV9, EV10, DATc, DATd, EVw, ofO_s, List.getD_cons_zero, List.getD_cons_succ, List.set_cons_zero, List.set_cons_succ, Bool.not_true, Bool.not_false, Option.map_some, decide_true, decide_false, e_lp_shortest_next_0, catT zl, z, at_bar_in b (h.snoc hk), isN_opt, hb, if_true]
    | false => simp (disch := first | assumption | omega | (simp only [List.length_cons, List.length_nil, List.length_map, List.length_append, List.length_range, List.length_reverse, List.length_replicate] <;> omega)) only [EV0, EV1, EV2, EV3, EV4, EV5, EV6, EV7, EV8, EV9, EV10, DATc, DATd, EVw, ofO_s, List.getD_cons_zero, List.getD_cons_succ, List.set_cons_zero, List.set_cons_succ, Bool.not_true, Bool.not_false, Option.map_some, decide_true, decide_false, e_lp_shortest_next_0, catT zl, z, at_bar_in b (h.snoc hk), isN_opt, hb, Bool.false_eq_true, if_false, e]
theorem range_natD (n : Nat) : ((List.range n).map fun i : Nat => D.int (i : Int)) = (List.range n).map natD := rfl
theorem at_shortest_next {A : Ad} {ns : List Nat} (b : Box) (h : LEN ns) : F_shortest_next A [.tup (ns.map natD)] b = match firstN ns (List.range 61) with
    | some k => .ok (natD k) b
    | none => .exc (.pl (.ref A.C)) b := by
  show outOf (m_shortest_next A ⟨[.d (.tup (ns.map natD)), .no, .no], b⟩) = _
  unfold m_shortest_next
  obtain ⟨t', e⟩ := next_loop (A := A) (.tup (ns.map natD)) b h (List.range 61) .no fun k hk => by have := List.mem_range.mp hk; omega
  have r61 : rgD 0 (61 : Int).toNat = (List.range 61).map natD := rgD_nat 61
  cases hf : firstN ns (List.range 61) with
  | none => rw [hf] at e; simp (disch := first | assumption | omega | (simp only [List.length_cons, List.length_nil, List.length_map, List.length_append, List.length_range, List.length_reverse, List.length_replicate] <;> omega)) only [EV0, EV1, EV2, EV3, EV4, EV5, EV6, EV7, EV8, EV9, EV10, DATc, DATd, EVw, ofO_s, List.getD_cons_zero, List.getD_cons_succ, List.set_cons_zero, List.set_cons_succ, Bool.not_true, Bool.not_false, Option.map_some, decide_true, decide_false, at_sure_lengths' b h, r61, e]
  | some k => rw [hf] at e; simp (disch := first | assumption | omega | (simp only [List.length_cons, List.length_nil, List.length_map, List.length_append, List.length_range, List.length_reverse, List.length_replicate] <;> omega)) only [EV0, EV1, EV2, EV3, EV4, EV5, EV6, EV7, EV8, EV9, EV10, DATc, DATd, EVw, ofO_s, List.getD_cons_zero, List.getD_cons_succ, List.set_cons_zero, List.set_cons_succ, Bool.not_true, Bool.not_false, Option.map_some, decide_true, decide_false, at_sure_lengths' b h, r61, e]
end K
end P_lengths_

section P_trees_
set_option Elab.async false
set_option linter.all false
set_option maxRecDepth 100000
set_option maxHeartbeats 4000000
namespace K
open PySem PySem.Spec PyProof.Rows L2 Pv
/-! # NEEDS -/
inductive Tr where
  | lf (i : Nat) | nd (l r : Tr)
def Tr.d : Tr → D
  | .lf i => natD i
  | .nd a b => .tup [a.d, b.d]
/-- one more on the stack (the top first) -/
def push : List (Nat × Tr) → Nat → Tr → List (Nat × Tr)
  | [], d, t => [(d, t)]
  | (e, u) :: r, d, t => if e = d ∧ 0 < d then push r (d - 1) (.nd u t) else (d, t) :: (e, u) :: r
def stk : List Nat → Nat → List (Nat × Tr) → List (Nat × Tr)
  | [], _, st => st
  | n :: ns, p, st => stk ns (p + 1) (push st n (.lf p))
def pairD (x : Nat × Tr) : D := .tup [.int (x.1 : Int), x.2.d]
theorem push_len : ∀ (st : List (Nat × Tr)) (d : Nat) (t : Tr), (push st d t).length ≤ st.length + 1
  | [], _, _ => Nat.le_refl _
  | (e, u) :: r, d, t => by
    unfold push
    split
    · have := push_len r (d - 1) (.nd u t); rw [List.length_cons]; omega
    · exact Nat.le_refl _
theorem atI_l1 {α : Type} {l : List α} {x : α} : atI (l ++ [x]) (-1) = some x := by rw [atI_last]; simp
theorem atI_l2 {α : Type} {l : List α} {x y : α} : atI (l ++ [x, y]) (-2) = some x := by
  have h := atI_neg (l := l ++ [x, y]) (k := 2) (by decide) (by rw [List.length_append]; show 2 ≤ l.length + 2; omega)
  refine h.trans ?_
  rw [List.length_append]
  show (l ++ [x, y])[l.length + 2 - 2]? = _
  simp
/-! # NEEDS stacked -/
theorem st_loop (q : D) (c2 c3 : SV) (b : Box) : ∀ (st : List (Nat × Tr)) (d : Nat) (t : Tr) (k : Nat) (r l : SV), st.length < k → st.length < 1000 →
    ∃ r' l', sWhile lp_stacked_0_c lp_stacked_0 k ⟨[.d q, .o (st.reverse.map pairD ++ [pairD (d, t)]), c2, c3, r, l], b⟩ = .nx ⟨[.d q, .o ((push st d t).reverse.map pairD), c2, c3, r', l'], b⟩
  | _, _, _, 0, _, _, h, _ => absurd h (Nat.not_lt_zero _)
  | [], d, t, k + 1, r, l, _, _ => ⟨r, l, by
    rw [ev_while]
    simp (disch := first | assumption | omega | (simp only [List.length_cons, List.length_nil, List.length_map, List.length_append, List.length_range, List.length_reverse, List.length_replicate] <;> omega)) only [EV0, EV1, EV2, EV3, EV4, EV5, EV6, EV7, EV8, EV9, EV10, DATc, DATd, EVw, ofO_s, List.getD_cons_zero, List.getD_cons_succ, List.set_cons_zero, List.set_cons_succ, Bool.not_true, Bool.not_false, Option.map_some, decide_true, decide_false, e_lp_stacked_0_c, List.reverse_nil, List.map_nil, List.nil_append, List.length_cons, List.length_nil, decide_eq_false (show ¬ (1 : Int) < (((0 + 1 : Nat)) : Int) by omega), kWh_f]
    rfl⟩
  | (e, u) :: s, d, t, k + 1, r, l, h, g => by
    rw [List.length_cons] at h g
    have z : ((e, u) :: s).reverse.map pairD ++ [pairD (d, t)] = s.reverse.map pairD ++ [pairD (e, u), pairD (d, t)] := by
      rw [List.reverse_cons, List.map_append, List.append_assoc]; rfl
    have z2 : s.reverse.map pairD ++ [pairD (e, u), pairD (d, t)] = (s.reverse.map pairD ++ [pairD (e, u)]) ++ [pairD (d, t)] := by rw [List.append_assoc]; rfl
    have a1 : atI (s.reverse.map pairD ++ [pairD (e, u), pairD (d, t)]) (-1) = some (.tup [.int (d : Int), t.d]) := by rw [z2]; exact atI_l1
    have a2 : atI (s.reverse.map pairD ++ [pairD (e, u), pairD (d, t)]) (-2) = some (.tup [.int (e : Int), u.d]) := atI_l2
    have zl : decide ((1 : Int) < (((s.reverse.map pairD ++ [pairD (e, u), pairD (d, t)]).length : Nat) : Int)) = true := decide_eq_true (by rw [List.length_append]; show (1 : Int) < ((_ + 2 : Nat) : Int); omega)
    rw [z, ev_while]
    by_cases c1 : e = d
    · by_cases c4 : 0 < d
      · obtain ⟨r', l', ih⟩ := st_loop q c2 c3 b s (d - 1) (.nd u t) k (.d (pairD (d, t))) (.d (pairD (e, u))) (by omega) (by omega)
        refine ⟨r', l', ?_⟩
        have pu : push ((e, u) :: s) d t = push s (d - 1) (.nd u t) := if_pos ⟨c1, c4⟩
        have sl : (s.reverse.map pairD).length < 100000 := by rw [List.length_map, List.length_reverse]; omega
        rw [pu, ← ih]
        simp (disch := first | assumption | omega | (simp only [List.length_cons, List.length_nil, List.length_map, List.length_append, List.length_range, List.length_reverse, List.length_replicate] <;> omega)) only [EV0, EV1, EV2, EV3, EV4, EV5, EV6, EV7, EV8, EV9, EV10, DATc, DATd, EVw, ofO_s, List.getD_cons_zero, List.getD_cons_succ, List.set_cons_zero, List.set_cons_succ, Bool.not_true, Bool.not_false, Option.map_some, decide_true, decide_false, e_lp_stacked_0_c, zl, a1, a2, atI_0, decide_eq_true (show (d : Int) = (e : Int) by omega), decide_eq_true (show (0 : Int) < (d : Int) by omega), kWh_t, e_lp_stacked_0]
        rw [z2]
        simp (disch := first | assumption | omega | (simp only [List.length_cons, List.length_nil, List.length_map, List.length_append, List.length_range, List.length_reverse, List.length_replicate] <;> omega)) only [EV0, EV1, EV2, EV3, EV4, EV5, EV6, EV7, EV8, EV9, EV10, DATc, DATd, EVw, ofO_s, List.getD_cons_zero, List.getD_cons_succ, List.set_cons_zero, List.set_cons_succ, Bool.not_true, Bool.not_false, Option.map_some, decide_true, decide_false, pairD, atI_0, atI_1, kApp2_o sl, kWh2_nx, show (e : Int) - 1 = ((d - 1 : Nat) : Int) by omega]
        rfl
      · refine ⟨r, l, ?_⟩
        have pu : push ((e, u) :: s) d t = (d, t) :: (e, u) :: s := if_neg fun h => c4 h.2
        rw [pu]
        simp (disch := first | assumption | omega | (simp only [List.length_cons, List.length_nil, List.length_map, List.length_append, List.length_range, List.length_reverse, List.length_replicate] <;> omega)) only [EV0, EV1, EV2, EV3, EV4, EV5, EV6, EV7, EV8, EV9, EV10, DATc, DATd, EVw, ofO_s, List.getD_cons_zero, List.getD_cons_succ, List.set_cons_zero, List.set_cons_succ, Bool.not_true, Bool.not_false, Option.map_some, decide_true, decide_false, e_lp_stacked_0_c, zl, a1, a2, atI_0, decide_eq_true (show (d : Int) = (e : Int) by omega), decide_eq_false (show ¬ (0 : Int) < (d : Int) by omega), kWh_f]
        rw [List.reverse_cons, List.map_append, ← z]; rfl
    · refine ⟨r, l, ?_⟩
      have pu : push ((e, u) :: s) d t = (d, t) :: (e, u) :: s := if_neg fun h => c1 h.1
      rw [pu]
      simp (disch := first | assumption | omega | (simp only [List.length_cons, List.length_nil, List.length_map, List.length_append, List.length_range, List.length_reverse, List.length_replicate] <;> omega)) only [EV0, EV1, EV2, EV3, EV4, EV5, EV6, EV7, EV8, EV9, EV10, DATc, DATd, EVw, ofO_s, List.getD_cons_zero, List.getD_cons_succ, List.set_cons_zero, List.set_cons_succ, Bool.not_true, Bool.not_false, Option.map_some, decide_true, decide_false, e_lp_stacked_0_c, zl, a1, a2, atI_0, decide_eq_false (show ¬ (d : Int) = (e : Int) by omega), kWh_f]
      rw [List.reverse_cons, List.map_append, ← z]; rfl
theorem stk_loop (q : D) (b : Box) : ∀ (ns : List Nat) (p : Nat) (st : List (Nat × Tr)) (c2 c3 r l : SV), st.length + ns.length < 150 →
    ∃ c2' c3' r' l', sForL (gT 2 (gCons' (gN 2) (gCons' (gN 3) gNil'))) lp_stacked_1 (enD p (ns.map natD)) ⟨[.d q, .o (st.reverse.map pairD), c2, c3, r, l], b⟩ = .nx ⟨[.d q, .o ((stk ns p st).reverse.map pairD), c2', c3', r', l'], b⟩
  | [], p, st, c2, c3, r, l, _ => ⟨c2, c3, r, l, rfl⟩
  | n :: ns, p, st, c2, c3, r, l, h => by
    rw [List.length_cons] at h
    obtain ⟨r1, l1, e1⟩ := st_loop q (.d (.int (p : Int))) (.d (natD n)) b st n (.lf p) 200 r l (by omega) (by omega)
    have pl := push_len st n (.lf p)
    obtain ⟨c2', c3', r', l', e2⟩ := stk_loop q b ns (p + 1) (push st n (.lf p)) (.d (.int (p : Int))) (.d (natD n)) r1 l1 (by omega)
    refine ⟨c2', c3', r', l', ?_⟩
    have sl : (st.reverse.map pairD).length < 100000 := by rw [List.length_map, List.length_reverse]; omega
    rw [List.map_cons]
    show sForL _ _ (D.tup [.int (p : Int), natD n] :: enD (p + 1) (ns.map natD)) _ = _
    simp (disch := first | assumption | omega | (simp only [List.length_cons, List.length_nil, List.length_map, List.length_append, List.length_range, List.length_reverse, List.length_replicate] <;> omega)) only [EV0, EV1, EV2, EV3, EV4, EV5, EV6, EV7, EV8, EV9, EV10, DATc, DATd, EVw, ofO_s, List.getD_cons_zero, List.getD_cons_succ, List.set_cons_zero, List.set_cons_succ, Bool.not_true, Bool.not_false, Option.map_some, decide_true, decide_false, e_lp_stacked_1, kApp2_o sl]
    rw [show (D.tup [natD n, .int (p : Int)]) = pairD (n, .lf p) from rfl, e1]
    simp (disch := first | assumption | omega | (simp only [List.length_cons, List.length_nil, List.length_map, List.length_append, List.length_range, List.length_reverse, List.length_replicate] <;> omega)) only [EV0, EV1, EV2, EV3, EV4, EV5, EV6, EV7, EV8, EV9, EV10, DATc, DATd, EVw, ofO_s, List.getD_cons_zero, List.getD_cons_succ, List.set_cons_zero, List.set_cons_succ, Bool.not_true, Bool.not_false, Option.map_some, decide_true, decide_false, e2]
    rfl
theorem at_stacked {l : Bool} {ns : List Nat} (b : Box) (h : ns.length < 100) : F_stacked [if l then .lst (ns.map natD) else .tup (ns.map natD)] b = .ok (.lst ((stk ns 0 []).reverse.map pairD)) b := by
  obtain ⟨c2', c3', r', l', e⟩ := stk_loop (if l then .lst (ns.map natD) else .tup (ns.map natD)) b ns 0 [] .no .no .no .no (by rw [List.length_nil]; omega)
  rw [List.reverse_nil, List.map_nil] at e
  show outOf (m_stacked ⟨[.d (if l then .lst (ns.map natD) else .tup (ns.map natD)), .no, .no, .no, .no, .no], b⟩) = _
  unfold m_stacked
  cases l with
  | true => rw [if_pos rfl] at e ⊢; simp (disch := first | assumption | omega | (simp only [List.length_cons, List.length_nil, List.length_map, List.length_append, List.length_range, List.length_reverse, List.length_replicate] <;> omega)) only [EV0, EV1, EV2, EV3, EV4, EV5, EV6, EV7, EV8, EV9, EV10, DATc, DATd, EVw, ofO_s, List.getD_cons_zero, List.getD_cons_succ, List.set_cons_zero, List.set_cons_succ, Bool.not_true, Bool.not_false, Option.map_some, decide_true, decide_false, e]
  | false => rw [if_neg Bool.false_ne_true] at e ⊢; simp (disch := first | assumption | omega | (simp only [List.length_cons, List.length_nil, List.length_map, List.length_append, List.length_range, List.length_reverse, List.length_replicate] <;> omega)) only [EV0, EV1, EV2, EV3, EV4, EV5, EV6, EV7, EV8, EV9, EV10, DATc, DATd, EVw, ofO_s, List.getD_cons_zero, List.getD_cons_succ, List.set_cons_zero, List.set_cons_succ, Bool.not_true, Bool.not_false, Option.map_some, decide_true, decide_false, e]
/-! # NEEDS left_of_stack stacked sure_lengths are_lengths is_within is_number tupled -/
theorem at_left_of_stack {A : Ad} {ns : List Nat} (b : Box) (h : LEN ns) : F_left_of_stack A [.tup (ns.map natD)] b = .ok (.tup (((stk ns 0 []).reverse.map Prod.fst).map natD)) b := by
  show outOf (m_left_of_stack A ⟨[.d (.tup (ns.map natD)), .no, .no], b⟩) = _
  unfold m_left_of_stack
  have hl := h.2.1
  have e := at_stacked (l := false) (ns := ns) b (by omega)
  rw [if_neg Bool.false_ne_true] at e
  have c0 : cm_left_of_stack_0 A ⟨[.d (.tup (ns.map natD)), .no, .no], b⟩ = .ok (((stk ns 0 []).reverse.map Prod.fst).map natD) ⟨[.d (.tup (ns.map natD)), .no, .no], b⟩ := by
    unfold cm_left_of_stack_0
    have it : iSeq (mCall F_stacked (aCons (mCall (F_sure_lengths A) (aCons (rd 0) aNil)) aNil)) ⟨[.d (.tup (ns.map natD)), .no, .no], b⟩ = .ok ((stk ns 0 []).reverse.map pairD) ⟨[.d (.tup (ns.map natD)), .no, .no], b⟩ := by simp (disch := first | assumption | omega | (simp only [List.length_cons, List.length_nil, List.length_map, List.length_append, List.length_range, List.length_reverse, List.length_replicate] <;> omega)) only [EV0, EV1, EV2, EV3, EV4, EV5, EV6, EV7, EV8, EV9, EV10, DATc, DATd, EVw, ofO_s, List.getD_cons_zero, List.getD_cons_succ, List.set_cons_zero, List.set_cons_succ, Bool.not_true, Bool.not_false, Option.map_some, decide_true, decide_false, at_sure_lengths' b h, e]
    have len : ∀ (ns : List Nat) (p : Nat) (st : List (Nat × Tr)), (stk ns p st).length ≤ st.length + ns.length := by
      intro ns
      induction ns with
      | nil => intro p st; exact Nat.le_refl _
      | cons n r ih => intro p st; have := ih (p + 1) (push st n (.lf p)); have := push_len st n (.lf p); show (stk r (p + 1) _).length ≤ _; rw [List.length_cons]; omega
    refine (comp_map (fun d => match d with | .tup [x, _] => x | _ => .non) it rfl (fun d hd => ?_) (small_line (by rw [List.length_map, List.length_reverse]; have := len ns 0 []; rw [List.length_nil] at this; omega))).trans ?_
    · obtain ⟨x, _, rfl⟩ := List.mem_map.mp hd
      refine ⟨_, rfl, ?_, rfl⟩
      simp (disch := first | assumption | omega | (simp only [List.length_cons, List.length_nil, List.length_map, List.length_append, List.length_range, List.length_reverse, List.length_replicate] <;> omega)) only [EV0, EV1, EV2, EV3, EV4, EV5, EV6, EV7, EV8, EV9, EV10, DATc, DATd, EVw, ofO_s, List.getD_cons_zero, List.getD_cons_succ, List.set_cons_zero, List.set_cons_succ, Bool.not_true, Bool.not_false, Option.map_some, decide_true, decide_false, pairD]
    · rw [List.map_map, List.map_map]
      congr 1
  simp (disch := first | assumption | omega | (simp only [List.length_cons, List.length_nil, List.length_map, List.length_append, List.length_range, List.length_reverse, List.length_replicate] <;> omega)) only [EV0, EV1, EV2, EV3, EV4, EV5, EV6, EV7, EV8, EV9, EV10, DATc, DATd, EVw, ofO_s, List.getD_cons_zero, List.getD_cons_succ, List.set_cons_zero, List.set_cons_succ, Bool.not_true, Bool.not_false, Option.map_some, decide_true, decide_false, c0]
end K
end P_trees_

section P_moved_
set_option Elab.async false
set_option linter.all false
set_option maxRecDepth 100000
set_option maxHeartbeats 4000000
namespace K
open PySem PySem.Spec PyProof.Rows L2 Pv
/-! # NEEDS -/
theorem join_signs (ps : List (List Bool)) : Txt.join (wd []) (ps.map wd) = wd ps.flatten := by
  rw [TL.join_eq]
  induction ps with
  | nil => rfl
  | cons x r ih =>
    cases r with
    | nil => show wd x = wd (x ++ []); rw [List.append_nil]
    | cons y r =>
      show wd x ++ wd [] ++ Str.join (wd []) ((y :: r).map wd) = _
      rw [ih, wd_app, wd_app, List.append_nil]
      rfl
theorem flips (p : List Bool) : (p.map fun x => [!x]).flatten = p.map (!·) := by
  induction p with
  | nil => rfl
  | cons x r ih => rw [List.map_cons, List.flatten_cons, ih]; rfl
theorem strsW (ps : List (List Bool)) : strsD (ps.map wD) = some (ps.map wd) := strsD_of wd ps
theorem joinW {ps : List (List Bool)} (h : ps.flatten.length ≤ 100000) : dJoin (wd []) (.lst (ps.map wD)) = some (.str (wd ps.flatten)) := by
  have hz : ((ps.map wd).map (·.length)).sum + (ps.map wd).length * (wd []).length ≤ 16777216 := by
    rw [wd_len, List.length_nil, Nat.mul_zero, List.map_map]
    have : (ps.map ((fun x : Str => x.length) ∘ wd)) = ps.map List.length := List.map_congr_left fun p _ => wd_len p
    rw [this, ← List.length_flatten]
    omega
  show ((strsD (ps.map wD)).bind fun ys => if (ys.map (·.length)).sum + ys.length * (wd []).length ≤ 16777216 then some (D.str (Txt.join (wd []) ys)) else none) = _
  rw [strsW]
  show (if _ then _ else _) = _
  rw [if_pos hz, join_signs]
theorem ev_mJoin {a c : M D} {s s1 : S} {t : Str} (h : a s = .ok (.str t) s1) {y : D} {s2 : S} (h2 : c s1 = .ok y s2) : mJoin a c s = ofO (dJoin t y) s2 := by
  unfold mJoin
  rw [h]
  show (c s1).bind _ = _
  rw [h2]
  rfl
/-! # NEEDS other_word -/
theorem signs_of (p : List Bool) : ((wd p).cps.toList.map fun c => D.str ⟨#[c]⟩) = p.map fun x => wD [x] := by
  rw [wd_list, List.map_map]
  apply List.map_congr_left
  intro x _
  cases x <;> rfl
theorem at_other_word {p : List Bool} (b : Box) (h : p.length ≤ 10000) : F_other_word [.str (wd p)] b = .ok (wD (p.map (!·))) b := by
  show outOf (m_other_word ⟨[.d (.str (wd p)), .no], b⟩) = _
  unfold m_other_word
  have c0 : cm_other_word_0 ⟨[.d (.str (wd p)), .no], b⟩ = .ok ((p.map fun x => [!x]).map wD) ⟨[.d (.str (wd p)), .no], b⟩ := by
    unfold cm_other_word_0
    have it : iSeq (rd 0) ⟨[.d (.str (wd p)), .no], b⟩ = .ok (p.map fun x => wD [x]) ⟨[.d (.str (wd p)), .no], b⟩ := by
      rw [← signs_of]; rfl
    refine (comp_map (fun d => match d with | .str x => if x == wd [false] then wD [true] else wD [false] | _ => .non) it rfl (fun d hd => ?_) (small_line (by rw [List.length_map]; omega))).trans ?_
    · obtain ⟨x, _, rfl⟩ := List.mem_map.mp hd
      refine ⟨_, rfl, ?_, rfl⟩
      cases x <;> simp (disch := first | assumption | omega | (simp only [List.length_cons, List.length_nil, List.length_map, List.length_append, List.length_range, List.length_reverse, List.length_replicate] <;> omega)) only [EV0, EV1, EV2, EV3, EV4, EV5, EV6, EV7, EV8, EV9, EV10, DATc, DATd, EVw, ofO_s, List.getD_cons_zero, List.getD_cons_succ, List.set_cons_zero, List.set_cons_succ, Bool.not_true, Bool.not_false, Option.map_some, decide_true, decide_false, wD_eq, wd_s0, wd_s1, eqW, decide_eq_true (show ([false] : List Bool) = [false] from rfl), decide_eq_false (show ¬ ([true] : List Bool) = [false] by decide)] <;> rfl
    · rw [List.map_map, List.map_map]
      congr 1
      apply List.map_congr_left
      intro x _
      cases x <;> rfl
  have e := ev_mJoin (a := con (.str (Str.ofString ""))) (c := mLst cm_other_word_0) (s := ⟨[.d (.str (wd p)), .no], b⟩) (t := wd []) rfl (lst_at c0)
  rw [joinW (by rw [flips, List.length_map]; omega), flips] at e
  simp (disch := first | assumption | omega | (simp only [List.length_cons, List.length_nil, List.length_map, List.length_append, List.length_range, List.length_reverse, List.length_replicate] <;> omega)) only [EV0, EV1, EV2, EV3, EV4, EV5, EV6, EV7, EV8, EV9, EV10, DATc, DATd, EVw, ofO_s, List.getD_cons_zero, List.getD_cons_succ, List.set_cons_zero, List.set_cons_succ, Bool.not_true, Bool.not_false, Option.map_some, decide_true, decide_false, e]
  rfl
/-! # NEEDS mirrored_in other_word -/
/-- all signs changed, the last word first -/
def mirr (ws : List (List Bool)) : List (List Bool) := ws.reverse.map fun w => w.map (!·)
theorem at_mirrored_in {ws : List (List Bool)} (b : Box) (h : ws.length ≤ 10000) (g : ∀ w ∈ ws, w.length ≤ 10000) : F_mirrored_in [.tup (ws.map wD)] b = .ok (.tup ((mirr ws).map wD)) b := by
  show outOf (m_mirrored_in ⟨[.d (.tup (ws.map wD)), .no], b⟩) = _
  unfold m_mirrored_in
  have c0 : cm_mirrored_in_0 ⟨[.d (.tup (ws.map wD)), .no], b⟩ = .ok ((mirr ws).map wD) ⟨[.d (.tup (ws.map wD)), .no], b⟩ := by
    unfold cm_mirrored_in_0
    have it : iSeq (m1 dBack (rd 0)) ⟨[.d (.tup (ws.map wD)), .no], b⟩ = .ok (ws.reverse.map wD) ⟨[.d (.tup (ws.map wD)), .no], b⟩ := by
      rw [List.map_reverse]; rfl
    refine (comp_map (fun d => match unW d with | some w => wD (w.map (!·)) | none => .non) it rfl (fun d hd => ?_) (small_line (by rw [List.length_map, List.length_reverse]; omega))).trans ?_
    · obtain ⟨w, hw, rfl⟩ := List.mem_map.mp hd
      have := g w (List.mem_reverse.mp hw)
      refine ⟨_, rfl, ?_, rfl⟩
      rw [unW_wD]
      simp (disch := first | assumption | omega | (simp only [List.length_cons, List.length_nil, List.length_map, List.length_append, List.length_range, List.length_reverse, List.length_replicate] <;> omega)) only [EV0, EV1, EV2, EV3, EV4, EV5, EV6, EV7, EV8, EV9, EV10, DATc, DATd, EVw, ofO_s, List.getD_cons_zero, List.getD_cons_succ, List.set_cons_zero, List.set_cons_succ, Bool.not_true, Bool.not_false, Option.map_some, decide_true, decide_false, wD_eq, at_other_word b this]
    · unfold mirr
      rw [List.map_map, List.map_map]
      congr 1
      apply List.map_congr_left
      intro w _
      show (match unW (wD w) with | some w => wD (w.map (!·)) | none => .non) = _
      rw [unW_wD]; rfl
  simp (disch := first | assumption | omega | (simp only [List.length_cons, List.length_nil, List.length_map, List.length_append, List.length_range, List.length_reverse, List.length_replicate] <;> omega)) only [EV0, EV1, EV2, EV3, EV4, EV5, EV6, EV7, EV8, EV9, EV10, DATc, DATd, EVw, ofO_s, List.getD_cons_zero, List.getD_cons_succ, List.set_cons_zero, List.set_cons_succ, Bool.not_true, Bool.not_false, Option.map_some, decide_true, decide_false, c0]
/-! # NEEDS mirrored_code mirrored_in other_word sure_code is_code_in is_word_in does_begin tupled -/
theorem at_mirrored_code {A : Ad} {ws : List (List Bool)} (b : Box) (h : CODE ws) : F_mirrored_code A [.tup (ws.map wD)] b = .ok (.tup ((mirr ws).map wD)) b := by
  show outOf (m_mirrored_code A ⟨[.d (.tup (ws.map wD))], b⟩) = _
  unfold m_mirrored_code
  have hn := h.n
  simp (disch := first | assumption | omega | (simp only [List.length_cons, List.length_nil, List.length_map, List.length_append, List.length_range, List.length_reverse, List.length_replicate] <;> omega)) only [EV0, EV1, EV2, EV3, EV4, EV5, EV6, EV7, EV8, EV9, EV10, DATc, DATd, EVw, ofO_s, List.getD_cons_zero, List.getD_cons_succ, List.set_cons_zero, List.set_cons_succ, Bool.not_true, Bool.not_false, Option.map_some, decide_true, decide_false, at_sure_code' b h, at_mirrored_in b (show ws.length ≤ 10000 by omega) fun w hw => Nat.le_trans (h.l w hw) (by decide)]
end K
end P_moved_

section P_plain_codes_
set_option Elab.async false
set_option linter.all false
set_option maxRecDepth 100000
set_option maxHeartbeats 4000000
namespace K
open PySem PySem.Spec PyProof.Rows L2 Pv
/-! # NEEDS -/
theorem sIx_m1 (n d : Nat) : HT.sIx n d (some (-1)) = n - 1 := by
  unfold HT.sIx
  simp
  omega
theorem cut_mid1 {α : Type} {x z : α} {m : List α} : Pv.cutD (x :: (m ++ [z])) (some 1) (some (-1)) = m := by
  unfold Pv.cutD
  rw [sIx_m1, show HT.sIx (x :: (m ++ [z])).length 0 (some 1) = min 1 (x :: (m ++ [z])).length from HT.sIx_nat _ _ 1]
  simp
theorem cut_mid0 {α : Type} {x : α} : Pv.cutD [x] (some 1) (some (-1)) = [] := by
  unfold Pv.cutD
  rw [sIx_m1, show HT.sIx [x].length 0 (some 1) = min 1 [x].length from HT.sIx_nat _ _ 1]
  simp
theorem cut_end {α : Type} {z : α} {m : List α} : Pv.cutD (m ++ [z]) (some (-1)) none = [z] := by
  unfold Pv.cutD
  rw [sIx_m1]
  show ((m ++ [z]).drop ((m ++ [z]).length - 1)).take ((m ++ [z]).length - ((m ++ [z]).length - 1)) = [z]
  simp
/-- all but the first and the last one more -/
def raisedF : List Nat → List Nat
  | [] => []
  | x :: r => x :: (match r.getLast? with
    | some z => r.dropLast.map (· + 1) ++ [z]
    | none => [])
theorem raisedF_2 (x z : Nat) (m : List Nat) : raisedF (x :: (m ++ [z])) = x :: (m.map (· + 1) ++ [z]) := by
  unfold raisedF
  simp
/-! # NEEDS raised_in -/
theorem at_raised_in {ns : List Nat} (b : Box) (h : ns ≠ []) (g : ns.length ≤ 1000) : F_raised_in [.tup (ns.map natD)] b = .ok (.tup ((raisedF ns).map natD)) b := by
  show outOf (m_raised_in ⟨[.d (.tup (ns.map natD)), .no], b⟩) = _
  unfold m_raised_in
  have comp : ∀ (m : List Nat), m.length ≤ 1000 → Pv.cutD (ns.map natD) (some 1) (some (-1)) = m.map natD → cm_raised_in_0 ⟨[.d (.tup (ns.map natD)), .no], b⟩ = .ok ((m.map (· + 1)).map natD) ⟨[.d (.tup (ns.map natD)), .no], b⟩ := fun m hm hc => by
    unfold cm_raised_in_0
    have it : iSeq (mSl (rd 0) (oIn (con (.int 1))) (oIn (mNeg (con (.int 1))))) ⟨[.d (.tup (ns.map natD)), .no], b⟩ = .ok (m.map natD) ⟨[.d (.tup (ns.map natD)), .no], b⟩ := by simp (disch := first | assumption | omega | (simp only [List.length_cons, List.length_nil, List.length_map, List.length_append, List.length_range, List.length_reverse, List.length_replicate] <;> omega)) only [EV0, EV1, EV2, EV3, EV4, EV5, EV6, EV7, EV8, EV9, EV10, DATc, DATd, EVw, ofO_s, List.getD_cons_zero, List.getD_cons_succ, List.set_cons_zero, List.set_cons_succ, Bool.not_true, Bool.not_false, Option.map_some, decide_true, decide_false, hc]
    refine (comp_map (fun d => match d with | .int i => .int (i + 1) | _ => .non) it rfl (fun d hd => ?_) (small_line (by rw [List.length_map]; omega))).trans ?_
    · obtain ⟨n, _, rfl⟩ := List.mem_map.mp hd
      refine ⟨_, rfl, ?_, rfl⟩
      simp (disch := first | assumption | omega | (simp only [List.length_cons, List.length_nil, List.length_map, List.length_append, List.length_range, List.length_reverse, List.length_replicate] <;> omega)) only [EV0, EV1, EV2, EV3, EV4, EV5, EV6, EV7, EV8, EV9, EV10, DATc, DATd, EVw, ofO_s, List.getD_cons_zero, List.getD_cons_succ, List.set_cons_zero, List.set_cons_succ, Bool.not_true, Bool.not_false, Option.map_some, decide_true, decide_false, natD_eq]
    · rw [List.map_map, List.map_map]
      congr 1
  cases ns with
  | nil => exact absurd rfl h
  | cons x r =>
    by_cases hr : r = []
    · subst hr
      have c0 := comp [] (by decide) cut_mid0
      simp (disch := first | assumption | omega | (simp only [List.length_cons, List.length_nil, List.length_map, List.length_append, List.length_range, List.length_reverse, List.length_replicate] <;> omega)) only [EV0, EV1, EV2, EV3, EV4, EV5, EV6, EV7, EV8, EV9, EV10, DATc, DATd, EVw, ofO_s, List.getD_cons_zero, List.getD_cons_succ, List.set_cons_zero, List.set_cons_succ, Bool.not_true, Bool.not_false, Option.map_some, decide_true, decide_false, c0, show Pv.cutD ([x].map natD) none (some 1) = [natD x] from cut_hi1, List.map_nil, decide_eq_false (show ¬ (1 : Int) < (((0 + 1 : Nat)) : Int) by omega), List.length_map, List.length_cons, List.length_nil]
      rfl
    · obtain ⟨m, z, rfl⟩ : ∃ m z, r = m ++ [z] := ⟨r.dropLast, r.getLast hr, (List.dropLast_concat_getLast hr).symm⟩
      have hz : (x :: (m ++ [z])).map natD = natD x :: (m.map natD ++ [natD z]) := by rw [List.map_cons, List.map_append]; rfl
      rw [List.length_cons, List.length_append, List.length_singleton] at g
      have c0 := comp m (by omega) (by rw [hz]; exact cut_mid1)
      have k1 : Pv.cutD ((x :: (m ++ [z])).map natD) none (some 1) = [natD x] := by rw [hz]; exact cut_hi1
      have k2 : Pv.cutD ((x :: (m ++ [z])).map natD) (some (-1)) none = [natD z] := by rw [hz]; exact cut_end (m := natD x :: m.map natD)
      have kl : ((x :: (m ++ [z])).map natD).length = m.length + 2 := by rw [hz]; simp
      have l1 : [natD x].length + ((m.map (· + 1)).map natD).length ≤ 100000 := by rw [nats_len, List.length_map, List.length_singleton]; omega
      have l2 : ([natD x] ++ (m.map (· + 1)).map natD).length + [natD z].length ≤ 100000 := by rw [List.length_append, nats_len, List.length_map, List.length_singleton, List.length_singleton]; omega
      simp (disch := first | assumption | omega | (simp only [List.length_cons, List.length_nil, List.length_map, List.length_append, List.length_range, List.length_reverse, List.length_replicate] <;> omega)) only [EV0, EV1, EV2, EV3, EV4, EV5, EV6, EV7, EV8, EV9, EV10, DATc, DATd, EVw, ofO_s, List.getD_cons_zero, List.getD_cons_succ, List.set_cons_zero, List.set_cons_succ, Bool.not_true, Bool.not_false, Option.map_some, decide_true, decide_false, c0, k1, catT l1, k2, kl, catT l2, decide_eq_true (show (1 : Int) < ((m.length + 2 : Nat) : Int) by omega)]
      rw [raisedF_2, List.map_cons, List.map_append]
      rfl
/-! # NEEDS raised raised_in sure_lengths are_lengths is_within is_number tupled -/
theorem at_raised {A : Ad} {ns : List Nat} (b : Box) (h : LEN ns) (g : ∀ n ∈ raisedF ns, n ≤ 60) : F_raised A [.tup (ns.map natD)] b = .ok (.tup ((raisedF ns).map natD)) b := by
  show outOf (m_raised A ⟨[.d (.tup (ns.map natD)), .no], b⟩) = _
  unfold m_raised
  have hl := h.2.1
  have hm := mx_lub g
  have ne : raisedF ns ≠ [] := by
    cases ns with
    | nil => exact absurd rfl h.1
    | cons x r => unfold raisedF; simp
  simp (disch := first | assumption | omega | (simp only [List.length_cons, List.length_nil, List.length_map, List.length_append, List.length_range, List.length_reverse, List.length_replicate] <;> omega)) only [EV0, EV1, EV2, EV3, EV4, EV5, EV6, EV7, EV8, EV9, EV10, DATc, DATd, EVw, ofO_s, List.getD_cons_zero, List.getD_cons_succ, List.set_cons_zero, List.set_cons_succ, Bool.not_true, Bool.not_false, Option.map_some, decide_true, decide_false, at_sure_lengths' b h, at_raised_in b h.1 (show ns.length ≤ 1000 by omega), maxNT ne, decide_eq_false (show ¬ (60 : Int) < (mx (raisedF ns) : Int) by omega)]
end K
end P_plain_codes_

section P_law_
set_option Elab.async false
set_option linter.all false
set_option maxRecDepth 100000
set_option maxHeartbeats 4000000
namespace K
open PySem PySem.Spec PyProof.Rows L2 Pv
/-! # NEEDS -/
def takeV (b : Box) (n : Int) : Int := if 0 < b.1 then b.1 % n else
  ((((((((b.2.1 + 48271 * (b.2.2 + 1)) * (39373 + (b.2.2 + 1))) % 2147483647) + (b.2.2 + 1) + b.2.1 / 1000003) * (((b.2.1 + 48271 * (b.2.2 + 1)) * (39373 + (b.2.2 + 1))) % 2147483647 % 40009 + 7)) % 2147483629) * 48271 + ((b.2.1 + 48271 * (b.2.2 + 1)) * (39373 + (b.2.2 + 1))) % 2147483647) % 2147483587 / 64) % n
def takeB (b : Box) (n : Int) : Box := if 0 < b.1 then (b.1 / n, b.2.1, b.2.2) else (b.1, b.2.1, b.2.2 + 1)
theorem take_lo {b : Box} {n : Int} (h : 0 < n) : 0 ≤ takeV b n ∧ takeV b n < n := by
  unfold takeV
  split
  · exact ⟨Int.emod_nonneg _ (by omega), Int.emod_lt_of_pos _ h⟩
  · exact ⟨Int.emod_nonneg _ (by omega), Int.emod_lt_of_pos _ h⟩
/-- room for m more draws -/
def okB (b : Box) (m : Nat) : Prop := 0 ≤ b.2.2 ∧ b.2.2 + m ≤ 100000
theorem okB.take {b : Box} {m : Nat} {n : Int} (h : okB b (m + 1)) : okB (takeB b n) m := by
  unfold takeB okB at *
  split
  · exact ⟨h.1, by show b.2.2 + _ ≤ _; omega⟩
  · exact ⟨by show 0 ≤ b.2.2 + 1; omega, by show b.2.2 + 1 + _ ≤ _; omega⟩
theorem okB.less {b : Box} {m k : Nat} (h : okB b m) (le : k ≤ m) : okB b k := ⟨h.1, by have := h.2; omega⟩
def cellV (c : Int) : List Int → Int → Int
  | [], _ => c
  | n :: r, k => cellV (c + n * (k + 2)) r (k + 1)
def cells (ns : List Int) : Int := cellV (ns.headD 0) (ns.drop 1) 0
theorem small_log {n : Nat} (h : n ≤ 100000) : ((n : Nat) : Int).natAbs.log2 < 9000 := by
  rw [Int.natAbs_natCast]
  by_cases e : n = 0
  · subst e; decide
  · have : n < 2 ^ 9000 := Nat.lt_of_le_of_lt h (Nat.lt_of_lt_of_le (by decide : 100000 < 2 ^ 20) (Nat.pow_le_pow_right (by decide) (by decide)))
    exact (Nat.log2_lt e).mpr this
/-! # NEEDS _law_take -/
theorem e_take (n : Int) (b : Box) (h : 0 < n) (g : n.natAbs.log2 < 9000) (o : okB b 1) : outOf (m__law_take (s0 ["tin", "below_so", "once_so", "wide_so", "twice_so", "drawn_so"] [.box, .int n] b)) = .ok (.int (takeV b n)) (takeB b n) := by
  unfold m__law_take
  by_cases c : 0 < b.1
  · have t1 : (dOrd (fun i j => decide (j < i)) fun a b => strLt b a) (.int b.1) (.int 0) = some true := by rw [gt_int, decide_eq_true c]
    refine Eq.trans (congrArg outOf (seq_rt (Eq.trans (if_t (m2b_at (ixN_at rfl rfl rfl rfl) rfl t1)) (Eq.trans (seq_nx (set_at (m2_at (b1_at (ixN_at rfl rfl rfl rfl) rfl) rfl (mod_at h)))) (Eq.trans (seq_nx (putIx_at (m2_at (ixN_at rfl rfl rfl rfl) rfl (div_at h g)) rfl rfl rfl)) (ret_at rfl)))))) ?_
    unfold takeV takeB
    rw [if_pos c, if_pos c]
    rfl
  · have t1 : (dOrd (fun i j => decide (j < i)) fun a b => strLt b a) (.int b.1) (.int 0) = some false := by rw [gt_int, decide_eq_false c]
    refine Eq.trans (congrArg outOf (seq_nx (Eq.trans (if_f (m2b_at (ixN_at rfl rfl rfl rfl) rfl t1)) rfl))) ?_
    refine Eq.trans (congrArg outOf (seq_nx (putIx_at (m2_at (ixN_at rfl rfl rfl rfl) rfl (z := .int (b.2.2 + 1)) rfl) rfl rfl rfl))) ?_
    have o1 := o.1
    have o2 := o.2
    have w : (((b.2.1 + 48271 * (b.2.2 + 1)) * (39373 + (b.2.2 + 1))) % 2147483647 % 40009 + 7).natAbs < 2 ^ 64 := by omega
    refine Eq.trans (congrArg outOf (seq_nx (set_at (m2_at (b1_at (m2_at (m2_at (ixN_at rfl rfl rfl rfl) (m2_at rfl (ixN_at rfl rfl rfl rfl) (mul_at (y := b.2.2 + 1) (.inl (by decide)))) rfl) (m2_at rfl (ixN_at rfl rfl rfl rfl) rfl) (mul_at (x := b.2.1 + 48271 * (b.2.2 + 1)) (y := 39373 + (b.2.2 + 1)) (.inr (by omega)))) rfl) rfl (mod_at (by decide)))))) ?_
    refine Eq.trans (congrArg outOf (seq_nx (set_at (m2_at (m2_at (b1_at rfl rfl) rfl (mod_at (by decide))) rfl rfl)))) ?_
    refine Eq.trans (congrArg outOf (seq_nx (set_at (m2_at (b1_at (m2_at (m2_at (m2_at rfl (ixN_at rfl rfl rfl rfl) rfl) (m2_at (ixN_at rfl rfl rfl rfl) rfl (div_at (by decide) (by decide))) rfl) rfl (mul_at (.inr w))) rfl) rfl (mod_at (by decide)))))) ?_
    refine Eq.trans (congrArg outOf (ret_at (m2_at (b1_at (m2_at (m2_at (b1_at (m2_at (m2_at rfl rfl (mul_at (.inr (by decide)))) rfl rfl) rfl) rfl (mod_at (by decide))) rfl (div_at (by decide) (by decide))) rfl) rfl (mod_at h)))) ?_
    unfold takeV takeB
    rw [if_neg c, if_neg c]
    rfl
theorem at_take (n : Int) (b : Box) (h : 0 < n) (g : n.natAbs.log2 < 9000) (o : okB b 1) : F__law_take [.box, .int n] b = .ok (.int (takeV b n)) (takeB b n) := e_take n b h g o
/-- a draw from 0 to n - 1, whatever it is -/
theorem a_take {n k : Nat} {b : Box} (h : 0 < n) (g : n ≤ 100000) (o : okB b (k + 1)) : ∃ (v : Nat) (b' : Box), F__law_take [.box, .int (n : Int)] b = .ok (.int (v : Int)) b' ∧ v < n ∧ okB b' k := by
  have lo := take_lo (b := b) (n := (n : Int)) (by omega)
  refine ⟨(takeV b n).toNat, takeB b n, ?_, by omega, o.take⟩
  rw [at_take (n : Int) b (by omega) (small_log g) (o.less (by omega)), Int.toNat_of_nonneg lo.1]
/-! # NEEDS _law_cells -/
abbrev cS (ns : List Int) (c : Int) (k bt at_ : SV) (b : Box) : S := { env := [.d (.scr ns), .d (.int 1), .o [.int c], k, bt, at_], box := b }
theorem c_loop (ns : List Int) (b : Box) : ∀ (xs : List Int) (q : Nat) (c : Int) (k bt at_ : SV), q ≤ 1000 → xs.length ≤ 1000 - q → ∃ k' b' a', sForL (gT 2 (gCons' (gN 3) (gCons' (gN 4) gNil'))) lp__law_cells_0 (enD q (xs.map .int)) (cS ns c k bt at_ b) = .nx (cS ns (cellV c xs (q : Int)) k' b' a' b)
  | [], q, c, k, bt, at_, _, _ => ⟨k, bt, at_, rfl⟩
  | x :: xs, q, c, k, bt, at_, q1, q2 => by
    rw [List.length_cons] at q2
    obtain ⟨k', b', a', e⟩ := c_loop ns b xs (q + 1) (c + x * ((q : Int) + 2)) (.d (.int ((q : Nat) : Int))) (.d (.int x)) (.d (.int 0)) (by omega) (by omega)
    refine ⟨k', b', a', ?_⟩
    have turn : lp__law_cells_0 (cS ns c (.d (.int ((q : Nat) : Int))) (.d (.int x)) at_ b) = .nx (cS ns (c + x * ((q : Int) + 2)) (.d (.int ((q : Nat) : Int))) (.d (.int x)) (.d (.int 0)) b) := by
      unfold lp__law_cells_0
      refine Eq.trans (seq_nx (set_at (m2_at (b1_at rfl rfl) rfl (Eq.trans (mod_at (by decide)) (by rw [Int.emod_one]))))) ?_
      refine Eq.trans (putIx_at (m2_at (ixN_at rfl rfl rfl rfl) (m2_at rfl (m2_at rfl rfl rfl) (mul_at (x := x) (y := (q : Int) + 2) (.inr (by omega)))) rfl) rfl rfl rfl) ?_
      rfl
    have g := Eq.trans (for_cons (g := gT 2 (gCons' (gN 3) (gCons' (gN 4) gNil'))) (d := .tup [.int ((q : Nat) : Int), .int x]) (r := enD (q + 1) (xs.map .int)) (s := cS ns c k bt at_ b) (s1 := cS ns c (.d (.int ((q : Nat) : Int))) (.d (.int x)) at_ b) rfl turn) e
    rw [show ((q + 1 : Nat) : Int) = (q : Int) + 1 by omega] at g
    exact g
theorem e_cells (ns : List Int) (b : Box) (h : ns.length ≤ 63) : outOf (m__law_cells (s0 ["script", "most_so", "cells_so", "k", "bit_so", "at_so"] [.scr ns, .int 1] b)) = .ok (.lst [.int (cells ns)]) b := by
  unfold m__law_cells
  have first : fOr (mB1F dList (mSl (rd 0) oNo (oIn (rd 1)))) (lNew (aCons (con (.int 0)) aNil)) { env := [.d (.scr ns), .d (.int 1), .no, .no, .no, .no], box := b } = .ok [.int (ns.headD 0)] { env := [.d (.scr ns), .d (.int 1), .no, .no, .no, .no], box := b } := by
    cases ns with
    | nil => rfl
    | cons x r =>
      have ct : Pv.cutD (x :: r) none (some 1) = [x] := by
        unfold Pv.cutD
        rw [show HT.sIx (x :: r).length 0 none = 0 from rfl, show HT.sIx (x :: r).length (x :: r).length (some 1) = min 1 (x :: r).length from HT.sIx_nat _ _ 1, show min 1 (x :: r).length = 1 by rw [List.length_cons]; omega]
        rfl
      have sl : mSl (rd 0) oNo (oIn (rd 1)) { env := [.d (.scr (x :: r)), .d (.int 1), .no, .no, .no, .no], box := b } = .ok (.lst [.int x]) { env := [.d (.scr (x :: r)), .d (.int 1), .no, .no, .no, .no], box := b } := by
        show (ofO (some (D.lst ((Pv.cutD (x :: r) none (some 1)).map .int))) _ : Out D) = _
        rw [ct]
        rfl
      unfold fOr
      rw [b1F_at sl rfl]
      rfl
  refine Eq.trans (congrArg outOf (seq_nx (setF_at first))) ?_
  have ct : Pv.cutD ns (some 1) (some 63) = ns.drop 1 := by
    unfold Pv.cutD
    rw [show HT.sIx ns.length 0 (some 1) = min 1 ns.length from HT.sIx_nat _ _ 1, show HT.sIx ns.length ns.length (some 63) = min 63 ns.length from HT.sIx_nat _ _ 63, Nat.min_eq_right h]
    cases ns with
    | nil => rfl
    | cons x r =>
      rw [show min 1 (x :: r).length = 1 by rw [List.length_cons]; omega]
      exact List.take_of_length_le (by rw [List.length_drop]; omega)
  have it : iEnM (mSl (rd 0) (oIn (rd 1)) (oIn (con (.int 63)))) (cS ns (ns.headD 0) .no .no .no b) = .ok (enD 0 ((ns.drop 1).map .int)) (cS ns (ns.headD 0) .no .no .no b) := by
    have sl : mSl (rd 0) (oIn (rd 1)) (oIn (con (.int 63))) (cS ns (ns.headD 0) .no .no .no b) = .ok (.lst ((ns.drop 1).map .int)) (cS ns (ns.headD 0) .no .no .no b) := by
      show (ofO (some (D.lst ((Pv.cutD ns (some 1) (some 63)).map .int))) _ : Out D) = _
      rw [ct]
      rfl
    exact en_it (q := (true, (ns.drop 1).map .int)) sl rfl
  obtain ⟨k', b', a', e⟩ := c_loop ns b (ns.drop 1) 0 (ns.headD 0) .no .no .no (by omega) (by rw [List.length_drop]; omega)
  refine Eq.trans (congrArg outOf (seq_nx (Eq.trans (for_at it) e))) ?_
  rfl
theorem at_cells (ns : List Int) (b : Box) (h : ns.length ≤ 63) : F__law_cells [.scr ns, .int 1] b = .ok (.lst [.int (cells ns)]) b := e_cells ns b h
/-! # NEEDS _law_same -/
theorem zp_self {xs : List D} {d : D} (h : d ∈ zpD xs xs) : ∃ y ∈ xs, d = .tup [y, y] := by
  induction xs with
  | nil => cases h
  | cons x r ih =>
    rcases List.mem_cons.mp (show d ∈ D.tup [x, x] :: zpD r r from h) with z | z
    · exact ⟨x, List.mem_cons_self, z⟩
    · obtain ⟨y, h1, h2⟩ := ih z
      exact ⟨y, List.mem_cons_of_mem _ h1, h2⟩
theorem zp_self_len (xs : List D) : (zpD xs xs).length = xs.length := by unfold zpD; rw [List.length_zipWith]; omega
theorem all_t (l : List D) : dAll (.lst (l.map fun _ => D.bl true)) = some (.bl true) := by
  rw [allL (fun _ => true)]
  simp
theorem at_sameF : ∀ {n : Nat} {d : D} {b : Box}, wf d = true → depthD d < n → FR__law_same n [d, d] b = .ok (.bl true) b
  | 0, _, _, _, g => absurd g (Nat.not_lt_zero _)
  | n + 1, d, b, h, g => by
    show outOf (m__law_same (FR__law_same n) ⟨[.d d, .d d, .no, .no], b⟩) = _
    have seq : ∀ (xs : List D) (d : D), xs.length ≤ 10000 → wfs xs = true → depthDs xs < n → iZpM (rd 0) (rd 1) ⟨[.d d, .d d, .no, .no], b⟩ = .ok (zpD xs xs) ⟨[.d d, .d d, .no, .no], b⟩ → cm__law_same_0 (FR__law_same n) ⟨[.d d, .d d, .no, .no], b⟩ = .ok ((zpD xs xs).map fun _ => .bl true) ⟨[.d d, .d d, .no, .no], b⟩ := fun xs d hl ho hd it => by
      unfold cm__law_same_0
      refine comp_map (fun _ => .bl true) it rfl (fun x hx => ?_) (small_line (by rw [zp_self_len]; omega))
      obtain ⟨y, hy, rfl⟩ := zp_self hx
      exact ⟨_, rfl, call_same rfl (at_sameF (wfs_mem ho hy) (by have := dep_mem hy; omega)), rfl⟩
    unfold m__law_same
    cases d with
    | int i => simp (disch := first | assumption | omega | (simp only [List.length_cons, List.length_nil, List.length_map, List.length_append, List.length_range, List.length_reverse, List.length_replicate] <;> omega)) only [EV0, EV1, EV2, EV3, EV4, EV5, EV6, EV7, EV8, EV9, EV10, DATc, DATd, EVw, ofO_s, List.getD_cons_zero, List.getD_cons_succ, List.set_cons_zero, List.set_cons_succ, Bool.not_true, Bool.not_false, Option.map_some, decide_true, decide_false, show dIsi ["list", "tuple"] (.int i) = some (.bl false) from rfl, show dIsi ["bool", "str"] (.int i) = some (.bl false) from rfl, show dIsi ["int"] (.int i) = some (.bl true) from rfl, show dIsi ["bool"] (.int i) = some (.bl false) from rfl, decide_eq_true (show i = i from rfl)]
    | bl k =>
      have e : dEq (.bl k) (.bl k) = some true := by cases k <;> rfl
      have e2 : dEq (.bl true) (.bl true) = some true := rfl
      have e3 : dEq (.bl false) (.bl false) = some true := rfl
      have nn : dIsN (.bl k) .non = some false := rfl
      simp (disch := first | assumption | omega | (simp only [List.length_cons, List.length_nil, List.length_map, List.length_append, List.length_range, List.length_reverse, List.length_replicate] <;> omega)) only [EV0, EV1, EV2, EV3, EV4, EV5, EV6, EV7, EV8, EV9, EV10, DATc, DATd, EVw, ofO_s, List.getD_cons_zero, List.getD_cons_succ, List.set_cons_zero, List.set_cons_succ, Bool.not_true, Bool.not_false, Option.map_some, decide_true, decide_false, show dIsi ["list", "tuple"] (.bl k) = some (.bl false) from rfl, show dIsi ["bool", "str"] (.bl k) = some (.bl true) from rfl, show dIsi ["bool"] (.bl k) = some (.bl true) from rfl, show dIsi ["str"] (.bl k) = some (.bl false) from rfl, nn, show ((k == k) = true) from by cases k <;> rfl, show ((true == true) = true) from rfl, show ((false == false) = true) from rfl]
    | str x =>
      simp (disch := first | assumption | omega | (simp only [List.length_cons, List.length_nil, List.length_map, List.length_append, List.length_range, List.length_reverse, List.length_replicate] <;> omega)) only [EV0, EV1, EV2, EV3, EV4, EV5, EV6, EV7, EV8, EV9, EV10, DATc, DATd, EVw, ofO_s, List.getD_cons_zero, List.getD_cons_succ, List.set_cons_zero, List.set_cons_succ, Bool.not_true, Bool.not_false, Option.map_some, decide_true, decide_false, show dIsi ["list", "tuple"] (.str x) = some (.bl false) from rfl, show dIsi ["bool", "str"] (.str x) = some (.bl true) from rfl, show dIsi ["bool"] (.str x) = some (.bl false) from rfl, show dIsi ["str"] (.str x) = some (.bl true) from rfl, eqS, beq_self_eq_true, show ((true == true) = true) from rfl, show ((false == false) = true) from rfl]
    | non => rfl
    | lst xs =>
      obtain ⟨h1, h2⟩ := wf_lst h
      have g' : depthDs xs + 1 < n + 1 := g
      have c := seq xs (.lst xs) h1 h2 (by omega) (by simp (disch := first | assumption | omega | (simp only [List.length_cons, List.length_nil, List.length_map, List.length_append, List.length_range, List.length_reverse, List.length_replicate] <;> omega)) only [EV0, EV1, EV2, EV3, EV4, EV5, EV6, EV7, EV8, EV9, EV10, DATc, DATd, EVw, ofO_s, List.getD_cons_zero, List.getD_cons_succ, List.set_cons_zero, List.set_cons_succ, Bool.not_true, Bool.not_false, Option.map_some, decide_true, decide_false])
      simp (disch := first | assumption | omega | (simp only [List.length_cons, List.length_nil, List.length_map, List.length_append, List.length_range, List.length_reverse, List.length_replicate] <;> omega)) only [EV0, EV1, EV2, EV3, EV4, EV5, EV6, EV7, EV8, EV9, EV10, DATc, DATd, EVw, ofO_s, List.getD_cons_zero, List.getD_cons_succ, List.set_cons_zero, List.set_cons_succ, Bool.not_true, Bool.not_false, Option.map_some, decide_true, decide_false, show dIsi ["list", "tuple"] (.lst xs) = some (.bl true) from rfl, show dIsi ["list"] (.lst xs) = some (.bl true) from rfl, show dIsi ["tuple"] (.lst xs) = some (.bl false) from rfl, c, all_t, show ((true == true) = true) from rfl, show ((false == false) = true) from rfl, decide_eq_true (show (xs.length : Int) = (xs.length : Int) from rfl)]
    | tup xs =>
      obtain ⟨h1, h2⟩ := wf_tup h
      have g' : depthDs xs + 1 < n + 1 := g
      have c := seq xs (.tup xs) h1 h2 (by omega) (by simp (disch := first | assumption | omega | (simp only [List.length_cons, List.length_nil, List.length_map, List.length_append, List.length_range, List.length_reverse, List.length_replicate] <;> omega)) only [EV0, EV1, EV2, EV3, EV4, EV5, EV6, EV7, EV8, EV9, EV10, DATc, DATd, EVw, ofO_s, List.getD_cons_zero, List.getD_cons_succ, List.set_cons_zero, List.set_cons_succ, Bool.not_true, Bool.not_false, Option.map_some, decide_true, decide_false])
      simp (disch := first | assumption | omega | (simp only [List.length_cons, List.length_nil, List.length_map, List.length_append, List.length_range, List.length_reverse, List.length_replicate] <;> omega)) only [EV0, EV1, EV2, EV3, EV4, EV5, EV6, EV7, EV8, EV9, EV10, DATc, DATd, EVw, ofO_s, List.getD_cons_zero, List.getD_cons_succ, List.set_cons_zero, List.set_cons_succ, Bool.not_true, Bool.not_false, Option.map_some, decide_true, decide_false, show dIsi ["list", "tuple"] (.tup xs) = some (.bl true) from rfl, show dIsi ["list"] (.tup xs) = some (.bl false) from rfl, show dIsi ["tuple"] (.tup xs) = some (.bl true) from rfl, c, all_t, show ((true == true) = true) from rfl, show ((false == false) = true) from rfl, decide_eq_true (show (xs.length : Int) = (xs.length : Int) from rfl)]
    | _ => cases h
theorem at_same {d : D} (b : Box) (h : wf d = true) (g : depthD d ≤ 80) : F__law_same [d, d] b = .ok (.bl true) b := at_sameF h (by omega)
/-! # NEEDS _law_two -/
theorem two_loop : ∀ (l : List Nat) (a : Nat) (k : D) (t : SV) (b : Box), ∃ t', sForL (gN 2) lp__law_two_0 (l.map natD) ⟨[.d k, .d (.int (a : Int)), t], b⟩ = .nx ⟨[.d k, .d (.int ((a * 2 ^ l.length : Nat) : Int)), t'], b⟩
  | [], a, k, t, b => ⟨t, by simp [sForL]⟩
  | i :: r, a, k, t, b => by
    obtain ⟨t', e⟩ := two_loop r (a + a) k (.d (natD i)) b
    refine ⟨t', ?_⟩
    rw [List.map_cons]
    simp (disch := first | assumption | omega | (simp only [List.length_cons, List.length_nil, List.length_map, List.length_append, List.length_range, List.length_reverse, List.length_replicate] <;> omega)) only [EV0, EV1, EV2, EV3, EV4, EV5, EV6, EV7, EV8, EV9, EV10, DATc, DATd, EVw, ofO_s, List.getD_cons_zero, List.getD_cons_succ, List.set_cons_zero, List.set_cons_succ, Bool.not_true, Bool.not_false, Option.map_some, decide_true, decide_false, e_lp__law_two_0]
    rw [show (a : Int) + a = ((a + a : Nat) : Int) by omega, e, List.length_cons, Nat.pow_succ, Nat.mul_comm (2 ^ r.length) 2, ← Nat.mul_assoc, Nat.mul_two]
theorem at_law_two {n : Nat} (b : Box) (h : n ≤ 100000) : F__law_two [.int (n : Int)] b = .ok (.int ((2 ^ n : Nat) : Int)) b := by
  show outOf (m__law_two ⟨[.d (.int (n : Int)), .no, .no], b⟩) = _
  unfold m__law_two
  obtain ⟨t', e⟩ := two_loop (List.range n) 1 (.int (n : Int)) .no b
  rw [List.length_range, Nat.one_mul] at e
  simp (disch := first | assumption | omega | (simp only [List.length_cons, List.length_nil, List.length_map, List.length_append, List.length_range, List.length_reverse, List.length_replicate] <;> omega)) only [EV0, EV1, EV2, EV3, EV4, EV5, EV6, EV7, EV8, EV9, EV10, DATc, DATd, EVw, ofO_s, List.getD_cons_zero, List.getD_cons_succ, List.set_cons_zero, List.set_cons_succ, Bool.not_true, Bool.not_false, Option.map_some, decide_true, decide_false, rgD_nat, range_natD]
  rw [show (D.int 1) = .int ((1 : Nat) : Int) from rfl, e]
  simp (disch := first | assumption | omega | (simp only [List.length_cons, List.length_nil, List.length_map, List.length_append, List.length_range, List.length_reverse, List.length_replicate] <;> omega)) only [EV0, EV1, EV2, EV3, EV4, EV5, EV6, EV7, EV8, EV9, EV10, DATc, DATd, EVw, ofO_s, List.getD_cons_zero, List.getD_cons_succ, List.set_cons_zero, List.set_cons_succ, Bool.not_true, Bool.not_false, Option.map_some, decide_true, decide_false]
/-! # NEEDS _law_share -/
theorem ltm_odd {a p : Nat} (h : a % 2 ≠ 0) : ltm a p = (a, p) := by cases p <;> simp [ltm, h]
theorem share_odd : ∀ (l : List Nat) (a p : Nat) (t : SV) (b : Box), (p = 0 ∨ a % 2 ≠ 0) → ∃ t', sForL (gN 2) lp__law_share_0 (l.map natD) ⟨[.d (.int (a : Int)), .d (.int (p : Int)), t], b⟩ = .nx ⟨[.d (.int (a : Int)), .d (.int (p : Int)), t'], b⟩
  | [], a, p, t, b, _ => ⟨t, rfl⟩
  | i :: r, a, p, t, b, h => by
    obtain ⟨t', e⟩ := share_odd r a p (.d (natD i)) b h
    refine ⟨t', ?_⟩
    rw [List.map_cons]
    rcases h with h | h
    · simp (disch := first | assumption | omega | (simp only [List.length_cons, List.length_nil, List.length_map, List.length_append, List.length_range, List.length_reverse, List.length_replicate] <;> omega)) only [EV0, EV1, EV2, EV3, EV4, EV5, EV6, EV7, EV8, EV9, EV10, DATc, DATd, EVw, ofO_s, List.getD_cons_zero, List.getD_cons_succ, List.set_cons_zero, List.set_cons_succ, Bool.not_true, Bool.not_false, Option.map_some, decide_true, decide_false, e_lp__law_share_0, decide_eq_false (show ¬ (0 : Int) < (p : Int) by omega), e]
    · by_cases q : 0 < p
      · simp (disch := first | assumption | omega | (simp only [List.length_cons, List.length_nil, List.length_map, List.length_append, List.length_range, List.length_reverse, List.length_replicate] <;> omega)) only [EV0, EV1, EV2, EV3, EV4, EV5, EV6, EV7, EV8, EV9, EV10, DATc, DATd, EVw, ofO_s, List.getD_cons_zero, List.getD_cons_succ, List.set_cons_zero, List.set_cons_succ, Bool.not_true, Bool.not_false, Option.map_some, decide_true, decide_false, e_lp__law_share_0, decide_eq_true (show (0 : Int) < (p : Int) by omega), decide_eq_false (show ¬ (a : Int) % 2 = 0 by omega), e]
      · simp (disch := first | assumption | omega | (simp only [List.length_cons, List.length_nil, List.length_map, List.length_append, List.length_range, List.length_reverse, List.length_replicate] <;> omega)) only [EV0, EV1, EV2, EV3, EV4, EV5, EV6, EV7, EV8, EV9, EV10, DATc, DATd, EVw, ofO_s, List.getD_cons_zero, List.getD_cons_succ, List.set_cons_zero, List.set_cons_succ, Bool.not_true, Bool.not_false, Option.map_some, decide_true, decide_false, e_lp__law_share_0, decide_eq_false (show ¬ (0 : Int) < (p : Int) by omega), e]
theorem share_loop : ∀ (l : List Nat) (a p : Nat) (t : SV) (b : Box), p ≤ l.length → ∃ t', sForL (gN 2) lp__law_share_0 (l.map natD) ⟨[.d (.int (a : Int)), .d (.int (p : Int)), t], b⟩ = .nx ⟨[.d (.int ((ltm a p).1 : Int)), .d (.int ((ltm a p).2 : Int)), t'], b⟩
  | [], a, 0, t, b, _ => ⟨t, rfl⟩
  | i :: r, a, 0, t, b, _ => share_odd (i :: r) a 0 t b (.inl rfl)
  | i :: r, a, p + 1, t, b, h => by
    rw [List.length_cons] at h
    by_cases c : a % 2 = 0
    · obtain ⟨t', e⟩ := share_loop r (a / 2) p (.d (natD i)) b (by omega)
      refine ⟨t', ?_⟩
      have lt : ltm a (p + 1) = ltm (a / 2) p := if_pos c
      rw [List.map_cons, lt, ← e]
      simp (disch := first | assumption | omega | (simp only [List.length_cons, List.length_nil, List.length_map, List.length_append, List.length_range, List.length_reverse, List.length_replicate] <;> omega)) only [EV0, EV1, EV2, EV3, EV4, EV5, EV6, EV7, EV8, EV9, EV10, DATc, DATd, EVw, ofO_s, List.getD_cons_zero, List.getD_cons_succ, List.set_cons_zero, List.set_cons_succ, Bool.not_true, Bool.not_false, Option.map_some, decide_true, decide_false, e_lp__law_share_0, decide_eq_true (show (0 : Int) < ((p + 1 : Nat) : Int) by omega), decide_eq_true (show (a : Int) % 2 = 0 by omega), show (a : Int) / 2 = ((a / 2 : Nat) : Int) by omega, show ((p + 1 : Nat) : Int) - 1 = (p : Int) by omega]
    · rw [ltm_odd c]
      exact share_odd (i :: r) a (p + 1) t b (.inr c)
theorem at_law_share {a p : Nat} (b : Box) (h : p ≤ 1000) : F__law_share [.int (a : Int), .int (p : Int)] b = .ok (ltD p a) b := by
  show outOf (m__law_share ⟨[.d (.int (a : Int)), .d (.int (p : Int)), .no], b⟩) = _
  unfold m__law_share
  obtain ⟨t', e⟩ := share_loop (List.range p) a p .no b (by rw [List.length_range]; exact Nat.le_refl _)
  simp (disch := first | assumption | omega | (simp only [List.length_cons, List.length_nil, List.length_map, List.length_append, List.length_range, List.length_reverse, List.length_replicate] <;> omega)) only [EV0, EV1, EV2, EV3, EV4, EV5, EV6, EV7, EV8, EV9, EV10, DATc, DATd, EVw, ofO_s, List.getD_cons_zero, List.getD_cons_succ, List.set_cons_zero, List.set_cons_succ, Bool.not_true, Bool.not_false, Option.map_some, decide_true, decide_false, rgD_nat, range_natD, e]
  rfl
/-! # NEEDS _law_sums _law_two -/
theorem round_up (h p : Nat) (g : 0 < p) : (h : Int) + (0 - (h : Int)) % (p : Int) = (((h + p - 1) / p * p : Nat) : Int) := by
  have d1 := Nat.div_add_mod h p
  have d2 := Nat.mod_lt h g
  generalize hq : h / p = q at d1
  generalize hr : h % p = r at d1 d2
  by_cases z : r = 0
  · subst z
    have e1 : (h + p - 1) / p = q := by
      apply Nat.div_eq_of_lt_le
      · rw [Nat.mul_comm]; omega
      · rw [Nat.add_mul, Nat.mul_comm q p]; omega
    have e2 : (0 - (h : Int)) % (p : Int) = 0 := by
      apply Int.emod_eq_zero_of_dvd
      refine ⟨-(q : Int), ?_⟩
      have : (h : Int) = (p : Int) * (q : Int) := by rw [← Int.natCast_mul]; omega
      rw [this, Int.mul_neg]; omega
    rw [e1, e2, Nat.mul_comm]; omega
  · have e1 : (h + p - 1) / p = q + 1 := by
      apply Nat.div_eq_of_lt_le
      · rw [Nat.add_mul, Nat.mul_comm q p]; omega
      · rw [Nat.add_mul, Nat.add_mul, Nat.mul_comm q p]; omega
    have e2 : (0 - (h : Int)) % (p : Int) = (p : Int) - (r : Int) := by
      have : (0 - (h : Int)) = ((p : Int) - (r : Int)) + (p : Int) * (-(q : Int) - 1) := by
        have e : (h : Int) = (p : Int) * (q : Int) + (r : Int) := by rw [← Int.natCast_mul]; omega
        rw [e, Int.mul_sub, Int.mul_neg, Int.mul_one]; omega
      rw [this, Int.add_mul_emod_self_left, Int.emod_eq_of_lt (by omega) (by omega)]
    rw [e1, e2, Nat.add_mul, Nat.mul_comm q p]; omega
theorem lsums_loop (d : D) (M : Nat) (b : Box) : ∀ (ns : List Nat) (h : Nat) (f : List Nat) (t u : SV), (∀ n ∈ ns, n ≤ M) → M ≤ 1000 → f.length + ns.length ≤ 1000 →
    ∃ (t' u' : SV) (h' : Int), sForL (gN 1) lp__law_sums_0 (ns.map natD) ⟨[.d d, t, .d (.int (M : Int)), .d (.int (h : Int)), .o (f.map natD), u], b⟩ = .nx ⟨[.d d, t', .d (.int (M : Int)), .d (.int h'), .o ((f ++ sumsF M h ns).map natD), u'], b⟩
  | [], h, f, t, u, _, _, _ => ⟨t, u, h, by simp [sForL, sumsF]⟩
  | n :: r, h, f, t, u, g1, g2, g3 => by
    have hn := g1 n List.mem_cons_self
    rw [List.length_cons] at g3
    have p1 := pow_pos2 (M - n)
    generalize hp : 2 ^ (M - n) = p at p1
    obtain ⟨t', u', h', e⟩ := lsums_loop d M b r ((h + p - 1) / p * p + p) (f ++ [(h + p - 1) / p * p + p]) (.d (natD n)) (.d (.int (p : Int))) (fun m hm => g1 m (List.mem_cons_of_mem _ hm)) g2 (by rw [List.length_append, List.length_singleton]; omega)
    refine ⟨t', u', h', ?_⟩
    have q := at_law_two (n := M - n) b (by omega)
    rw [hp] at q
    have z1 : ((M : Int) - (n : Int)) = ((M - n : Nat) : Int) := by omega
    have z4 : (0 : Int) < (p : Int) := by omega
    have z5 : (h : Int) + (0 - (h : Int)) % (p : Int) + (p : Int) = (((h + p - 1) / p * p + p : Nat) : Int) := by rw [round_up h p p1]; omega
    have z6 : (f.map natD).length < 100000 := by rw [nats_len]; omega
    rw [List.map_cons]
    simp (disch := first | assumption | omega | (simp only [List.length_cons, List.length_nil, List.length_map, List.length_append, List.length_range, List.length_reverse, List.length_replicate] <;> omega)) only [EV0, EV1, EV2, EV3, EV4, EV5, EV6, EV7, EV8, EV9, EV10, DATc, DATd, EVw, ofO_s, List.getD_cons_zero, List.getD_cons_succ, List.set_cons_zero, List.set_cons_succ, Bool.not_true, Bool.not_false, Option.map_some, decide_true, decide_false, e_lp__law_sums_0, natD_eq, z1, q, modI z4, z5]
    rw [show f.map natD ++ [D.int (((h + p - 1) / p * p + p : Nat) : Int)] = (f ++ [(h + p - 1) / p * p + p]).map natD by rw [List.map_append]; rfl]
    rw [show (SV.d (D.int (n : Int))) = .d (natD n) from rfl, e]
    show _ = SO.nx ⟨[_, _, _, _, .o ((f ++ (((h + 2 ^ (M - n) - 1) / 2 ^ (M - n) * 2 ^ (M - n) + 2 ^ (M - n)) :: sumsF M _ r)).map natD), _], b⟩
    rw [hp, List.append_assoc]
    rfl
theorem at_law_sums {ns : List Nat} (b : Box) (h : ns ≠ []) (g : ns.length ≤ 1000) (hm : mx ns ≤ 1000) : F__law_sums [.tup (ns.map natD)] b = .ok (.lst ((sm ns).map natD)) b := by
  show outOf (m__law_sums ⟨[.d (.tup (ns.map natD)), .no, .no, .no, .no, .no], b⟩) = _
  unfold m__law_sums
  obtain ⟨t', u', h', e⟩ := lsums_loop (.tup (ns.map natD)) (mx ns) b ns 0 [] .no .no (fun n hn => mx_le hn) hm (by show 0 + _ ≤ _; omega)
  rw [List.nil_append, List.map_nil, show ((0 : Nat) : Int) = 0 from rfl] at e
  simp (disch := first | assumption | omega | (simp only [List.length_cons, List.length_nil, List.length_map, List.length_append, List.length_range, List.length_reverse, List.length_replicate] <;> omega)) only [EV0, EV1, EV2, EV3, EV4, EV5, EV6, EV7, EV8, EV9, EV10, DATc, DATd, EVw, ofO_s, List.getD_cons_zero, List.getD_cons_succ, List.set_cons_zero, List.set_cons_succ, Bool.not_true, Bool.not_false, Option.map_some, decide_true, decide_false, maxNT h, e]
  rfl
/-! # NEEDS _law_bar _law_sums _law_two -/
theorem at_law_bar {ns : List Nat} (b : Box) (h : ns ≠ []) (g : ns.length ≤ 1000) (hm : mx ns ≤ 1000) : F__law_bar [.tup (ns.map natD)] b = .ok (optN (bar ns)) b := by
  show outOf (m__law_bar ⟨[.d (.tup (ns.map natD)), .no, .no, .no], b⟩) = _
  unfold m__law_bar
  have c0 : cm__law_bar_0 ⟨[.d (.tup (ns.map natD)), .no, .no, .no], b⟩ = .ok ((idxs (fun x => decide (2 ^ mx ns < x)) 0 (sm ns)).map natD) ⟨[.d (.tup (ns.map natD)), .no, .no, .no], b⟩ := by
    unfold cm__law_bar_0
    have it : iEnM (mCall F__law_sums (aCons (rd 0) aNil)) ⟨[.d (.tup (ns.map natD)), .no, .no, .no], b⟩ = .ok (enD 0 ((sm ns).map natD)) ⟨[.d (.tup (ns.map natD)), .no, .no, .no], b⟩ := by simp (disch := first | assumption | omega | (simp only [List.length_cons, List.length_nil, List.length_map, List.length_append, List.length_range, List.length_reverse, List.length_replicate] <;> omega)) only [EV0, EV1, EV2, EV3, EV4, EV5, EV6, EV7, EV8, EV9, EV10, DATc, DATd, EVw, ofO_s, List.getD_cons_zero, List.getD_cons_succ, List.set_cons_zero, List.set_cons_succ, Bool.not_true, Bool.not_false, Option.map_some, decide_true, decide_false, at_law_sums b h g hm]
    rw [← idx_en]
    refine comp_pure _ _ it rfl (fun d hd => ?_) (small_line (by rw [enD_len, nats_len, sm_len]; omega))
    obtain ⟨i, x, rfl⟩ := mem_enD hd
    refine ⟨_, rfl, ?_, fun _ => ?_, rfl⟩
    · by_cases q : 2 ^ mx ns < x
      · simp (disch := first | assumption | omega | (simp only [List.length_cons, List.length_nil, List.length_map, List.length_append, List.length_range, List.length_reverse, List.length_replicate] <;> omega)) only [EV0, EV1, EV2, EV3, EV4, EV5, EV6, EV7, EV8, EV9, EV10, DATc, DATd, EVw, ofO_s, List.getD_cons_zero, List.getD_cons_succ, List.set_cons_zero, List.set_cons_succ, Bool.not_true, Bool.not_false, Option.map_some, decide_true, decide_false, natD_eq, maxNT h, at_law_two b (show mx ns ≤ 100000 by omega), decide_eq_true (show ((2 ^ mx ns : Nat) : Int) < (x : Int) by omega), Int.toNat_natCast, decide_eq_true q]
      · simp (disch := first | assumption | omega | (simp only [List.length_cons, List.length_nil, List.length_map, List.length_append, List.length_range, List.length_reverse, List.length_replicate] <;> omega)) only [EV0, EV1, EV2, EV3, EV4, EV5, EV6, EV7, EV8, EV9, EV10, DATc, DATd, EVw, ofO_s, List.getD_cons_zero, List.getD_cons_succ, List.set_cons_zero, List.set_cons_succ, Bool.not_true, Bool.not_false, Option.map_some, decide_true, decide_false, natD_eq, maxNT h, at_law_two b (show mx ns ≤ 100000 by omega), decide_eq_false (show ¬ ((2 ^ mx ns : Nat) : Int) < (x : Int) by omega), Int.toNat_natCast, decide_eq_false q]
    · simp (disch := first | assumption | omega | (simp only [List.length_cons, List.length_nil, List.length_map, List.length_append, List.length_range, List.length_reverse, List.length_replicate] <;> omega)) only [EV0, EV1, EV2, EV3, EV4, EV5, EV6, EV7, EV8, EV9, EV10, DATc, DATd, EVw, ofO_s, List.getD_cons_zero, List.getD_cons_succ, List.set_cons_zero, List.set_cons_succ, Bool.not_true, Bool.not_false, Option.map_some, decide_true, decide_false, natD_eq]
  unfold bar
  cases hc : idxs (fun x => decide (2 ^ mx ns < x)) 0 (sm ns) with
  | nil =>
    rw [hc] at c0
    simp (disch := first | assumption | omega | (simp only [List.length_cons, List.length_nil, List.length_map, List.length_append, List.length_range, List.length_reverse, List.length_replicate] <;> omega)) only [EV0, EV1, EV2, EV3, EV4, EV5, EV6, EV7, EV8, EV9, EV10, DATc, DATd, EVw, ofO_s, List.getD_cons_zero, List.getD_cons_succ, List.set_cons_zero, List.set_cons_succ, Bool.not_true, Bool.not_false, Option.map_some, decide_true, decide_false, c0, eqNL0, decide_eq_true (show ([] : List Nat) = [] from rfl)]
    rfl
  | cons i r =>
    rw [hc] at c0
    have hat : atI ((i :: r).map natD) 0 = some (natD i) := atI_0
    simp (disch := first | assumption | omega | (simp only [List.length_cons, List.length_nil, List.length_map, List.length_append, List.length_range, List.length_reverse, List.length_replicate] <;> omega)) only [EV0, EV1, EV2, EV3, EV4, EV5, EV6, EV7, EV8, EV9, EV10, DATc, DATd, EVw, ofO_s, List.getD_cons_zero, List.getD_cons_succ, List.set_cons_zero, List.set_cons_succ, Bool.not_true, Bool.not_false, Option.map_some, decide_true, decide_false, c0, eqNL0, decide_eq_false (show ¬ (i :: r) = [] by simp), hat]
    rfl
/-! # NEEDS _law_put -/
theorem at_law_put {ns : List Nat} {k v : Nat} (b : Box) (h : k < ns.length) (g : ns.length ≤ 1000) : F__law_put [.tup (ns.map natD), .int (k : Int), .int (v : Int)] b = .ok (.tup ((ns.set k v).map natD)) b := by
  show outOf (m__law_put ⟨[.d (.tup (ns.map natD)), .d (.int (k : Int)), .d (.int (v : Int))], b⟩) = _
  unfold m__law_put
  have c1 : Pv.cutD (ns.map natD) none (some (k : Int)) = (ns.take k).map natD := by rw [cut_hi, List.map_take]
  have c2 : Pv.cutD (ns.map natD) (some ((k : Int) + 1)) none = (ns.drop (k + 1)).map natD := by
    rw [show ((k : Int) + 1) = ((k + 1 : Nat) : Int) by omega, cut_lo, List.map_drop]
  have l1 : ((ns.take k).map natD).length + [D.int (v : Int)].length ≤ 100000 := by rw [nats_len, List.length_take, List.length_singleton]; omega
  have l2 : ((ns.take k).map natD ++ [D.int (v : Int)]).length + ((ns.drop (k + 1)).map natD).length ≤ 100000 := by rw [List.length_append, nats_len, nats_len, List.length_take, List.length_drop, List.length_singleton]; omega
  simp (disch := first | assumption | omega | (simp only [List.length_cons, List.length_nil, List.length_map, List.length_append, List.length_range, List.length_reverse, List.length_replicate] <;> omega)) only [EV0, EV1, EV2, EV3, EV4, EV5, EV6, EV7, EV8, EV9, EV10, DATc, DATd, EVw, ofO_s, List.getD_cons_zero, List.getD_cons_succ, List.set_cons_zero, List.set_cons_succ, Bool.not_true, Bool.not_false, Option.map_some, decide_true, decide_false, c1, c2, catT l1, catT l2]
  rw [List.set_eq_take_append_cons_drop, if_pos h, List.map_append, List.map_cons, List.append_assoc]
  rfl
/-! # NEEDS _law_call -/
theorem ev_mCallL {T : Doors} {i n : Nat} {m : M (List D)} {s : S} {a : Addr} {F : Fn} (h : look i s = some (.fn a)) (hT : T a = some (n, F)) : mCallL T i n m s = mCall F m s := by
  unfold mCallL
  rw [h]
  show (match T a with
    | some (n', F) => if n' = n then mCall F m s else .no
    | none => .no) = _
  rw [hT]
  show (if n = n then _ else _) = _
  rw [if_pos rfl]
theorem out_ret (r : RO) (s : S) : outOf (k0_sRet (ofRO r s)) = r := by cases r <;> rfl
theorem seq_call (r : RO) (s : S) (mb : MS) : outOf (kSeq mb (k0_sRet (ofRO r s))) = r := by cases r <;> rfl
theorem at_call1 {T : Doors} {a : Addr} {F : Fn} {x : D} (b : Box) (hT : T a = some (1, F)) : F__law_call T [.fn a, .lst [x]] b = F [x] b := by
  show outOf (m__law_call T ⟨[.d (.fn a), .d (.lst [x])], b⟩) = _
  unfold m__law_call
  have e := ev_mCallL (T := T) (i := 0) (n := 1) (m := aCons (mIxN 1 (con (.int 0))) aNil) (s := ⟨[.d (.fn a), .d (.lst [x])], b⟩) rfl hT
  simp (disch := first | assumption | omega | (simp only [List.length_cons, List.length_nil, List.length_map, List.length_append, List.length_range, List.length_reverse, List.length_replicate] <;> omega)) only [EV0, EV1, EV2, EV3, EV4, EV5, EV6, EV7, EV8, EV9, EV10, DATc, DATd, EVw, ofO_s, List.getD_cons_zero, List.getD_cons_succ, List.set_cons_zero, List.set_cons_succ, Bool.not_true, Bool.not_false, Option.map_some, decide_true, decide_false, List.length_cons, List.length_nil, e, atI_0, seq_call, decide_eq_true (show (((0 + 1 : Nat)) : Int) = 1 by omega)]
theorem at_call2 {T : Doors} {a : Addr} {F : Fn} {x y : D} (b : Box) (hT : T a = some (2, F)) : F__law_call T [.fn a, .lst [x, y]] b = F [x, y] b := by
  show outOf (m__law_call T ⟨[.d (.fn a), .d (.lst [x, y])], b⟩) = _
  unfold m__law_call
  have e := ev_mCallL (T := T) (i := 0) (n := 2) (m := aCons (mIxN 1 (con (.int 0))) (aCons (mIxN 1 (con (.int 1))) aNil)) (s := ⟨[.d (.fn a), .d (.lst [x, y])], b⟩) rfl hT
  simp (disch := first | assumption | omega | (simp only [List.length_cons, List.length_nil, List.length_map, List.length_append, List.length_range, List.length_reverse, List.length_replicate] <;> omega)) only [EV0, EV1, EV2, EV3, EV4, EV5, EV6, EV7, EV8, EV9, EV10, DATc, DATd, EVw, ofO_s, List.getD_cons_zero, List.getD_cons_succ, List.set_cons_zero, List.set_cons_succ, Bool.not_true, Bool.not_false, Option.map_some, decide_true, decide_false, List.length_cons, List.length_nil, e, atI_0, atI_1, seq_call, decide_eq_false (show ¬ (((0 + 1 + 1 : Nat)) : Int) = 1 by omega), decide_eq_true (show (((0 + 1 + 1 : Nat)) : Int) = 2 by omega)]
theorem at_call3 {T : Doors} {a : Addr} {F : Fn} {x y z : D} (b : Box) (hT : T a = some (3, F)) : F__law_call T [.fn a, .lst [x, y, z]] b = F [x, y, z] b := by
  show outOf (m__law_call T ⟨[.d (.fn a), .d (.lst [x, y, z])], b⟩) = _
  unfold m__law_call
  have e := ev_mCallL (T := T) (i := 0) (n := 3) (m := aCons (mIxN 1 (con (.int 0))) (aCons (mIxN 1 (con (.int 1))) (aCons (mIxN 1 (con (.int 2))) aNil))) (s := ⟨[.d (.fn a), .d (.lst [x, y, z])], b⟩) rfl hT
  simp (disch := first | assumption | omega | (simp only [List.length_cons, List.length_nil, List.length_map, List.length_append, List.length_range, List.length_reverse, List.length_replicate] <;> omega)) only [EV0, EV1, EV2, EV3, EV4, EV5, EV6, EV7, EV8, EV9, EV10, DATc, DATd, EVw, ofO_s, List.getD_cons_zero, List.getD_cons_succ, List.set_cons_zero, List.set_cons_succ, Bool.not_true, Bool.not_false, Option.map_some, decide_true, decide_false, List.length_cons, List.length_nil, e, atI_0, atI_1, atI_2, seq_call, decide_eq_false (show ¬ (((0 + 1 + 1 + 1 : Nat)) : Int) = 1 by omega), decide_eq_false (show ¬ (((0 + 1 + 1 + 1 : Nat)) : Int) = 2 by omega), decide_eq_true (show (((0 + 1 + 1 + 1 : Nat)) : Int) = 3 by omega)]
/-! # NEEDS _law_slip _law_call -/
def kTry (mt : Value → Value → Option Bool) (l : Ans) : SO → SO
  | .exc (.pl c) s1 => pickA mt c s1 l
  | .exc _ _ => .no
  | o => o
theorem ev_sTry {mt : Value → Value → Option Bool} {l : Ans} {mb : MS} {s : S} : sTry mt l mb s = kTry mt l (mb s) := rfl
theorem kTry_nx {mt : Value → Value → Option Bool} {l : Ans} {s : S} : kTry mt l (.nx s) = .nx s := rfl
theorem kTry_exc {mt : Value → Value → Option Bool} {l : Ans} {s : S} {c : Value} : kTry mt l (.exc (.pl c) s) = pickA mt c s l := rfl
theorem pick_t {mt : Value → Value → Option Bool} {l : Ans} {s : S} {c c' : Value} {i : Nat} {t : Str} (h : mt c c' = some true) (hi : i < s.env.length) : pickA mt c s ((c', i, some t) :: l) = .rt (.str t) s := by
  show (match mt c c' with
    | some true => ansO i s (some t)
    | some false => pickA mt c s l
    | none => .no) = _
  rw [h]
  show (if i < s.env.length then _ else _) = _
  rw [if_pos hi]
theorem pick_f {mt : Value → Value → Option Bool} {l : Ans} {s : S} {c c' : Value} {i : Nat} {t : Option Str} (h : mt c c' = some false) : pickA mt c s ((c', i, t) :: l) = pickA mt c s l := by
  show (match mt c c' with
    | some true => ansO i s t
    | some false => pickA mt c s l
    | none => .no) = _
  rw [h]
section
variable {A : Ad} {T : Doors} {f g : D} {b b' : Box}
theorem slip_told {d : D} (h : F__law_call T [f, g] b = .ok d b') : F__law_slip A T [f, g] b = .ok (.str (Str.ofString "told")) b' := by
  show outOf (m__law_slip A T ⟨[.d f, .d g, .no, .no, .no, .no], b⟩) = _
  unfold m__law_slip
  simp (disch := first | assumption | omega | (simp only [List.length_cons, List.length_nil, List.length_map, List.length_append, List.length_range, List.length_reverse, List.length_replicate] <;> omega)) only [EV0, EV1, EV2, EV3, EV4, EV5, EV6, EV7, EV8, EV9, EV10, DATc, DATd, EVw, ofO_s, List.getD_cons_zero, List.getD_cons_succ, List.set_cons_zero, List.set_cons_succ, Bool.not_true, Bool.not_false, Option.map_some, decide_true, decide_false, ev_sTry, h, kTry_nx]
theorem slip_U (h : F__law_call T [f, g] b = .exc (.pl (.ref A.U)) b') : F__law_slip A T [f, g] b = .ok (.str (Str.ofString "unfit")) b' := by
  show outOf (m__law_slip A T ⟨[.d f, .d g, .no, .no, .no, .no], b⟩) = _
  unfold m__law_slip
  simp (disch := first | assumption | omega | (simp only [List.length_cons, List.length_nil, List.length_map, List.length_append, List.length_range, List.length_reverse, List.length_replicate] <;> omega)) only [EV0, EV1, EV2, EV3, EV4, EV5, EV6, EV7, EV8, EV9, EV10, DATc, DATd, EVw, ofO_s, List.getD_cons_zero, List.getD_cons_succ, List.set_cons_zero, List.set_cons_succ, Bool.not_true, Bool.not_false, Option.map_some, decide_true, decide_false, ev_sTry, h, kTry_exc, pick_t (i := 2) mt_UU (show 2 < (S.mk [.d f, .d g, .no, .no, .no, .no] b').env.length from by show 2 < 6; omega)]
theorem slip_C (o : A.ok) (h : F__law_call T [f, g] b = .exc (.pl (.ref A.C)) b') : F__law_slip A T [f, g] b = .ok (.str (Str.ofString "can not")) b' := by
  show outOf (m__law_slip A T ⟨[.d f, .d g, .no, .no, .no, .no], b⟩) = _
  unfold m__law_slip
  simp (disch := first | assumption | omega | (simp only [List.length_cons, List.length_nil, List.length_map, List.length_append, List.length_range, List.length_reverse, List.length_replicate] <;> omega)) only [EV0, EV1, EV2, EV3, EV4, EV5, EV6, EV7, EV8, EV9, EV10, DATc, DATd, EVw, ofO_s, List.getD_cons_zero, List.getD_cons_succ, List.set_cons_zero, List.set_cons_succ, Bool.not_true, Bool.not_false, Option.map_some, decide_true, decide_false, ev_sTry, h, kTry_exc, pick_f (mt_CU o), pick_t (i := 3) (mt_CC o) (show 3 < (S.mk [.d f, .d g, .no, .no, .no, .no] b').env.length from by show 3 < 6; omega)]
theorem slip_M (o : A.ok) (h : F__law_call T [f, g] b = .exc (.pl (.ref A.M)) b') : F__law_slip A T [f, g] b = .ok (.str (Str.ofString "many")) b' := by
  show outOf (m__law_slip A T ⟨[.d f, .d g, .no, .no, .no, .no], b⟩) = _
  unfold m__law_slip
  simp (disch := first | assumption | omega | (simp only [List.length_cons, List.length_nil, List.length_map, List.length_append, List.length_range, List.length_reverse, List.length_replicate] <;> omega)) only [EV0, EV1, EV2, EV3, EV4, EV5, EV6, EV7, EV8, EV9, EV10, DATc, DATd, EVw, ofO_s, List.getD_cons_zero, List.getD_cons_succ, List.set_cons_zero, List.set_cons_succ, Bool.not_true, Bool.not_false, Option.map_some, decide_true, decide_false, ev_sTry, h, kTry_exc, pick_f (mt_MU o), pick_f (mt_MC o), pick_t (i := 4) (mt_MM o) (show 4 < (S.mk [.d f, .d g, .no, .no, .no, .no] b').env.length from by show 4 < 6; omega)]
end
end K
end P_law_

section Q_len_
set_option Elab.async false
set_option linter.all false
set_option maxRecDepth 100000
set_option maxHeartbeats 4000000
namespace K
/-! # NEEDS -/
/-! ### rows of lengths: bits of 0 to 1 one behind the other -/
def up (h p : Nat) : Nat := (h + p - 1) / p * p
theorem up_dvd (h p : Nat) : p ∣ up h p := Nat.dvd_mul_left _ _
theorem up_ge {h p : Nat} (g : 0 < p) : h ≤ up h p := by
  unfold up
  have d1 := Nat.div_add_mod (h + p - 1) p
  have d2 := Nat.mod_lt (h + p - 1) g
  rw [Nat.mul_comm] at d1
  omega
theorem up_le {h p m : Nat} (g : 0 < p) (hd : p ∣ m) (hm : h ≤ m) : up h p ≤ m := by
  obtain ⟨c, rfl⟩ := hd
  unfold up
  have : (h + p - 1) / p ≤ c := by
    have : h + p - 1 < p * (c + 1) := by rw [Nat.mul_add]; omega
    have := Nat.div_lt_of_lt_mul this
    omega
  calc (h + p - 1) / p * p ≤ c * p := Nat.mul_le_mul_right _ this
    _ = p * c := Nat.mul_comm _ _
theorem up_eq {h p : Nat} (g : 0 < p) (hd : p ∣ h) : up h p = h := Nat.le_antisymm (up_le g hd (Nat.le_refl _)) (up_ge g)
theorem up_mul {h p c : Nat} (g : 0 < p) (gc : 0 < c) : up (h * c) (p * c) = up h p * c := by
  apply Nat.le_antisymm
  · exact up_le (Nat.mul_pos g gc) (Nat.mul_dvd_mul (up_dvd h p) (Nat.dvd_refl c)) (Nat.mul_le_mul_right _ (up_ge g))
  · obtain ⟨q, hq⟩ := up_dvd (h * c) (p * c)
    have h1 : h * c ≤ p * q * c := by
      have := up_ge (h := h * c) (Nat.mul_pos g gc)
      rw [hq] at this
      calc h * c ≤ p * c * q := this
        _ = p * q * c := by rw [Nat.mul_right_comm]
    have h2 : h ≤ p * q := Nat.le_of_mul_le_mul_right h1 gc
    have h3 := up_le g (Nat.dvd_mul_right p q) h2
    rw [hq, Nat.mul_right_comm]
    exact Nat.mul_le_mul_right _ h3
theorem sumsF_cons (M h n : Nat) (r : List Nat) : sumsF M h (n :: r) = (up h (2 ^ (M - n)) + 2 ^ (M - n)) :: sumsF M (up h (2 ^ (M - n)) + 2 ^ (M - n)) r := rfl
theorem pow_sub_add {M d n : Nat} (h : n ≤ M) : 2 ^ (M + d - n) = 2 ^ (M - n) * 2 ^ d := by rw [← Nat.pow_add]; congr 1; omega
theorem sums_scale (M d : Nat) : ∀ (ns : List Nat) (h : Nat), (∀ n ∈ ns, n ≤ M) → sumsF (M + d) (h * 2 ^ d) ns = (sumsF M h ns).map (· * 2 ^ d)
  | [], _, _ => rfl
  | n :: r, h, g => by
    have hn := g n List.mem_cons_self
    rw [sumsF_cons, sumsF_cons, List.map_cons, pow_sub_add hn, up_mul (pow_pos2 _) (pow_pos2 _), ← Nat.add_mul, sums_scale M d r _ fun m hm => g m (List.mem_cons_of_mem _ hm)]
/-- where the last one ends -/
def gl (M : Nat) : Nat → List Nat → Nat
  | h, [] => h
  | h, n :: r => gl M (up h (2 ^ (M - n)) + 2 ^ (M - n)) r
theorem gl_scale (M d : Nat) : ∀ (ns : List Nat) (h : Nat), (∀ n ∈ ns, n ≤ M) → gl (M + d) (h * 2 ^ d) ns = gl M h ns * 2 ^ d
  | [], _, _ => rfl
  | n :: r, h, g => by
    have hn := g n List.mem_cons_self
    show gl (M + d) (up (h * 2 ^ d) (2 ^ (M + d - n)) + 2 ^ (M + d - n)) r = gl M (up h (2 ^ (M - n)) + 2 ^ (M - n)) r * 2 ^ d
    rw [pow_sub_add hn, up_mul (pow_pos2 _) (pow_pos2 _), ← Nat.add_mul, gl_scale M d r _ fun m hm => g m (List.mem_cons_of_mem _ hm)]
theorem gl_ge (M : Nat) : ∀ (ns : List Nat) (h : Nat), h ≤ gl M h ns
  | [], _ => Nat.le_refl _
  | n :: r, h => Nat.le_trans (Nat.le_trans (up_ge (pow_pos2 _)) (Nat.le_add_right _ _)) (gl_ge M r _)
theorem gl_last (M : Nat) : ∀ (ns : List Nat) (h : Nat), gl M h ns = (sumsF M h ns).getLastD h
  | [], _ => rfl
  | n :: r, h => by
    rw [sumsF_cons]
    show gl M _ r = _
    rw [gl_last M r, List.getLastD_cons]
theorem sums_le (M : Nat) : ∀ (ns : List Nat) (h : Nat), ∀ x ∈ sumsF M h ns, x ≤ gl M h ns
  | [], _, _, z => by cases z
  | n :: r, h, x, z => by
    rw [sumsF_cons] at z
    rcases List.mem_cons.mp z with e | e
    · rw [e]; exact gl_ge M r _
    · exact sums_le M r _ x e
theorem lastS_gl {ns : List Nat} (h : ns ≠ []) : lastS ns = gl (mx ns) 0 ns := by
  unfold lastS sm
  rw [gl_last]
theorem idxs_nil {p : Nat → Bool} : ∀ {xs : List Nat} {k : Nat}, idxs p k xs = [] ↔ ∀ x ∈ xs, p x = false
  | [], k => ⟨fun _ x (z : x ∈ []) => (nomatch z), fun _ => rfl⟩
  | x :: r, k => by
    unfold idxs
    cases c : p x with
    | true => simp [c]
    | false => simp [c, idxs_nil (xs := r) (k := k + 1)]
theorem idxs_app (p : Nat → Bool) : ∀ (xs ys : List Nat) (k : Nat), idxs p k (xs ++ ys) = idxs p k xs ++ idxs p (k + xs.length) ys
  | [], ys, k => rfl
  | x :: r, ys, k => by
    show (if p x then k :: idxs p (k + 1) (r ++ ys) else idxs p (k + 1) (r ++ ys)) = (if p x then k :: idxs p (k + 1) r else idxs p (k + 1) r) ++ _
    rw [idxs_app p r ys (k + 1), List.length_cons, show k + 1 + r.length = k + (r.length + 1) by omega]
    split <;> rfl
theorem bar_none {ns : List Nat} (h : ns ≠ []) : bar ns = none ↔ gl (mx ns) 0 ns ≤ 2 ^ mx ns := by
  unfold bar
  rw [List.head?_eq_none_iff, idxs_nil]
  constructor
  · intro g
    have l := gl_last (mx ns) ns 0
    have m : (sm ns).getLastD 0 ∈ sm ns := by
      rw [List.getLastD_eq_getLast?, List.getLast?_eq_some_getLast (sm_ne h)]
      exact List.getLast_mem _
    have := g _ m
    rw [decide_eq_false_iff_not] at this
    rw [l]
    unfold sm at this
    omega
  · intro g x hx
    have := sums_le _ _ _ x hx
    rw [decide_eq_false_iff_not]
    omega
/-- lengths placed one behind the other from a to e -/
def Pi' (M : Nat) (e : Nat) : Nat → List Nat → Prop
  | a, [] => a ≤ e
  | a, n :: r => ∃ p, 2 ^ (M - n) ∣ p ∧ a ≤ p ∧ Pi' M e (p + 2 ^ (M - n)) r
theorem pi_mono {M e : Nat} : ∀ {ns : List Nat} {a a' : Nat}, Pi' M e a ns → a' ≤ a → Pi' M e a' ns
  | [], _, _, h, g => Nat.le_trans g h
  | _ :: _, _, _, ⟨p, h1, h2, h3⟩, g => ⟨p, h1, Nat.le_trans g h2, h3⟩
theorem pi_gl {M e : Nat} : ∀ {ns : List Nat} {a : Nat}, Pi' M e a ns ↔ gl M a ns ≤ e
  | [], a => Iff.rfl
  | n :: r, a => by
    show (∃ p, 2 ^ (M - n) ∣ p ∧ a ≤ p ∧ Pi' M e (p + 2 ^ (M - n)) r) ↔ gl M (up a (2 ^ (M - n)) + 2 ^ (M - n)) r ≤ e
    rw [← pi_gl]
    constructor
    · rintro ⟨p, h1, h2, h3⟩
      exact pi_mono h3 (Nat.add_le_add_right (up_le (pow_pos2 _) h1 h2) _)
    · intro h
      exact ⟨_, up_dvd _ _, up_ge (pow_pos2 _), h⟩
/-- no less, place by place -/
inductive Le2 : List Nat → List Nat → Prop
  | nil : Le2 [] []
  | cons {x y : Nat} {xs ys : List Nat} : x ≤ y → Le2 xs ys → Le2 (x :: xs) (y :: ys)
def Fit (ns : List Nat) : Prop := Pi' 100 (2 ^ 100) 0 ns
theorem gl_100 {ns : List Nat} {M : Nat} (h : ∀ n ∈ ns, n ≤ M) (g : M ≤ 100) : gl 100 0 ns = gl M 0 ns * 2 ^ (100 - M) := by
  have := gl_scale M (100 - M) ns 0 h
  rw [Nat.zero_mul, show M + (100 - M) = 100 by omega] at this
  exact this
theorem fit_gl {ns : List Nat} {M : Nat} (h : ∀ n ∈ ns, n ≤ M) (g : M ≤ 100) : Fit ns ↔ gl M 0 ns ≤ 2 ^ M := by
  unfold Fit
  rw [pi_gl, gl_100 h g, show (2 : Nat) ^ 100 = 2 ^ M * 2 ^ (100 - M) by rw [← Nat.pow_add]; congr 1; omega]
  exact ⟨fun z => Nat.le_of_mul_le_mul_right z (pow_pos2 _), fun z => Nat.mul_le_mul_right _ z⟩
theorem bar_fit {ns : List Nat} (h : ns ≠ []) (g : mx ns ≤ 100) : bar ns = none ↔ Fit ns := (bar_none h).trans (fit_gl (fun n hn => mx_le hn) g).symm
theorem isNone_fit {ns : List Nat} (h : ns ≠ []) (g : mx ns ≤ 100) : (bar ns).isNone = true ↔ Fit ns := by rw [Option.isNone_iff_eq_none]; exact bar_fit h g
theorem pi_pre {M e : Nat} : ∀ {xs ys : List Nat} {a : Nat}, Pi' M e a (xs ++ ys) → Pi' M e a xs
  | [], ys, a, h => by
    have := pi_gl.mp h
    exact Nat.le_trans (gl_ge M ys a) this
  | x :: xs, ys, a, ⟨p, h1, h2, h3⟩ => ⟨p, h1, h2, pi_pre h3⟩
theorem pi_suf {M e : Nat} : ∀ {xs ys : List Nat} {a : Nat}, Pi' M e a (xs ++ ys) → Pi' M e a ys
  | [], _, _, h => h
  | x :: xs, ys, a, ⟨p, h1, h2, h3⟩ => pi_mono (pi_suf h3) (Nat.le_trans h2 (Nat.le_add_right _ _))
theorem pi_pt {M e : Nat} : ∀ {xs ys : List Nat} {a : Nat}, Pi' M e a xs → Le2 xs ys → Pi' M e a ys
  | [], [], _, h, _ => h
  | x :: xs, y :: ys, a, ⟨p, h1, h2, h3⟩, .cons g1 g2 => by
    have le : 2 ^ (M - y) ≤ 2 ^ (M - x) := Nat.pow_le_pow_right (by decide) (by omega)
    exact ⟨p, Nat.dvd_trans (Nat.pow_dvd_pow 2 (by omega)) h1, h2, pi_pt (pi_mono h3 (Nat.add_le_add_left le p)) g2⟩
theorem pi_snoc {M e : Nat} {n : Nat} : ∀ {xs : List Nat} {a : Nat}, (∃ p, 2 ^ (M - n) ∣ p ∧ p + 2 ^ (M - n) ≤ e ∧ Pi' M p a xs) → Pi' M e a (xs ++ [n])
  | [], a, ⟨p, h1, h2, h3⟩ => ⟨p, h1, h3, h2⟩
  | x :: xs, a, ⟨p, h1, h2, q, h3, h4, h5⟩ => ⟨q, h3, h4, pi_snoc ⟨p, h1, h2, h5⟩⟩
theorem pi_rev {M : Nat} : ∀ {ns : List Nat} {a e : Nat}, e ≤ 2 ^ M → Pi' M e a ns → Pi' M (2 ^ M - a) (2 ^ M - e) ns.reverse
  | [], a, e, g, h => by
    have h' : a ≤ e := h
    show 2 ^ M - e ≤ 2 ^ M - a
    omega
  | n :: r, a, e, g, ⟨p, h1, h2, h3⟩ => by
    have ih := pi_rev g h3
    have hpe : p + 2 ^ (M - n) ≤ e := Nat.le_trans (gl_ge M r _) (pi_gl.mp h3)
    rw [List.reverse_cons]
    refine pi_snoc ⟨2 ^ M - (p + 2 ^ (M - n)), ?_, by omega, ih⟩
    have d : 2 ^ (M - n) ∣ 2 ^ M := Nat.pow_dvd_pow 2 (Nat.sub_le _ _)
    exact Nat.dvd_sub d (Nat.dvd_add h1 (Nat.dvd_refl _))
theorem Fit.rev {ns : List Nat} (h : Fit ns) : Fit ns.reverse := by
  have := pi_rev (Nat.le_refl _) h
  rw [Nat.sub_zero, Nat.sub_self] at this
  exact this
theorem Fit.pre {xs ys : List Nat} (h : Fit (xs ++ ys)) : Fit xs := pi_pre h
theorem Fit.suf {xs ys : List Nat} (h : Fit (xs ++ ys)) : Fit ys := pi_suf h
theorem Fit.pt {xs ys : List Nat} (h : Fit xs) (g : Le2 xs ys) : Fit ys := pi_pt h g
theorem Fit.take {ns : List Nat} (h : Fit ns) (k : Nat) : Fit (ns.take k) := by
  rw [← List.take_append_drop k ns] at h
  exact h.pre
theorem Fit.drop {ns : List Nat} (h : Fit ns) (k : Nat) : Fit (ns.drop k) := by
  rw [← List.take_append_drop k ns] at h
  exact h.suf
theorem f2_refl : ∀ ns : List Nat, Le2 ns ns
  | [] => .nil
  | n :: r => .cons (Nat.le_refl _) (f2_refl r)
theorem f2_map {f : Nat → Nat} (h : ∀ n, n ≤ f n) : ∀ ns : List Nat, Le2 ns (ns.map f)
  | [] => .nil
  | n :: r => .cons (h n) (f2_map h r)
theorem f2_app {a b c d : List Nat} (h : Le2 a b) (g : Le2 c d) : Le2 (a ++ c) (b ++ d) := by
  induction h with
  | nil => exact g
  | cons h1 h2 ih => exact .cons h1 ih
theorem f2_set : ∀ (ns : List Nat) (k v : Nat), ns.getD k 0 ≤ v → Le2 ns (ns.set k v)
  | [], _, _, _ => .nil
  | n :: r, 0, v, h => .cons h (f2_refl r)
  | n :: r, k + 1, v, h => .cons (Nat.le_refl _) (f2_set r k v h)
theorem f2_raised : ∀ ns : List Nat, Le2 ns (raisedF ns)
  | [] => .nil
  | x :: r => by
    unfold raisedF
    refine .cons (Nat.le_refl _) ?_
    by_cases hr : r = []
    · subst hr; exact .nil
    · rw [List.getLast?_eq_some_getLast hr]
      show Le2 r (r.dropLast.map (· + 1) ++ [r.getLast hr])
      have e := List.dropLast_concat_getLast hr
      have := f2_app (f2_map (f := (· + 1)) (fun n => Nat.le_succ n) r.dropLast) (f2_refl [r.getLast hr])
      rw [e] at this
      exact this
/-! ### the shortest next one -/
theorem gl_snoc (M : Nat) : ∀ (ns : List Nat) (h n : Nat), gl M h (ns ++ [n]) = up (gl M h ns) (2 ^ (M - n)) + 2 ^ (M - n)
  | [], _, _ => rfl
  | _ :: r, _, n => gl_snoc M r _ n
theorem fit_next {ns : List Nat} {k j : Nat} (h : Fit (ns ++ [k])) (g : k ≤ j) : Fit (ns ++ [j]) := h.pt (f2_app (f2_refl ns) (.cons g .nil))
theorem mx_app (a b : List Nat) : mx (a ++ b) = max (mx a) (mx b) := by
  induction a with
  | nil => show mx b = max 0 (mx b); omega
  | cons x r ih => show max x (mx (r ++ b)) = max (max x (mx r)) (mx b); rw [ih]; omega
theorem firstN_some {ns : List Nat} : ∀ {l : List Nat} {k : Nat}, firstN ns l = some k → ∃ a c, l = a ++ k :: c ∧ (bar (ns ++ [k])).isNone = true ∧ ∀ j ∈ a, (bar (ns ++ [j])).isNone = false
  | [], _, h => by cases h
  | x :: r, k, h => by
    have h' : (if (bar (ns ++ [x])).isNone then some x else firstN ns r) = some k := h
    by_cases c : (bar (ns ++ [x])).isNone = true
    · rw [if_pos c] at h'
      cases h'
      exact ⟨[], r, rfl, c, fun _ z => by cases z⟩
    · rw [if_neg c] at h'
      obtain ⟨a, d, h1, h2, h3⟩ := firstN_some h'
      exact ⟨x :: a, d, by rw [h1]; rfl, h2, fun j hj => (List.mem_cons.mp hj).elim (fun z => by rw [z]; exact Bool.eq_false_iff.mpr c) (h3 j)⟩
theorem firstN_none {ns : List Nat} : ∀ {l : List Nat}, firstN ns l = none → ∀ j ∈ l, (bar (ns ++ [j])).isNone = false
  | [], _, _, z => by cases z
  | x :: r, h, j, hj => by
    have h' : (if (bar (ns ++ [x])).isNone then some x else firstN ns r) = none := h
    by_cases c : (bar (ns ++ [x])).isNone = true
    · rw [if_pos c] at h'; cases h'
    · rw [if_neg c] at h'
      rcases List.mem_cons.mp hj with z | z
      · rw [z]; exact Bool.eq_false_iff.mpr c
      · exact firstN_none h' j z
/-- the least length that fits behind, if any is told -/
theorem next_facts {ns : List Nat} {k : Nat} (hm : mx ns ≤ 60) (h : firstN ns (List.range 61) = some k) : k ≤ 60 ∧ Fit (ns ++ [k]) ∧ ∀ j, j ≤ 60 → (Fit (ns ++ [j]) ↔ k ≤ j) := by
  obtain ⟨a, c, h1, h2, h3⟩ := firstN_some h
  have hk : k ∈ List.range 61 := by rw [h1]; simp
  have hk' := List.mem_range.mp hk
  have ne : ∀ j, ns ++ [j] ≠ [] := fun j => by simp
  have hmx : ∀ j, j ≤ 60 → mx (ns ++ [j]) ≤ 100 := fun j hj => by rw [mx_app]; show max (mx ns) (max j 0) ≤ 100; omega
  have ft := (isNone_fit (ne k) (hmx k (by omega))).mp h2
  refine ⟨by omega, ft, fun j hj => ⟨fun hf => ?_, fun g => fit_next ft g⟩⟩
  have n1 := (isNone_fit (ne j) (hmx j hj)).mpr hf
  apply Nat.le_of_not_lt
  intro lt
  -- j stands ahead of k in the range
  have ha : a = List.range a.length := by
    have e : List.range 61 = a ++ k :: c := h1
    have := congrArg (List.take a.length) e
    rw [List.take_left' rfl, List.take_range] at this
    have hl : a.length ≤ 61 := by have := congrArg List.length e; rw [List.length_range, List.length_append, List.length_cons] at this; omega
    rw [Nat.min_eq_left hl] at this
    exact this.symm
  have kl : k = a.length := by
    have e : (List.range 61)[a.length]? = some k := by rw [h1]; simp
    rw [List.getElem?_range (by have := congrArg List.length h1; rw [List.length_range, List.length_append, List.length_cons] at this; omega)] at e
    exact (Option.some.inj e).symm
  have jm : j ∈ a := by rw [ha]; exact List.mem_range.mpr (by omega)
  rw [h3 j jm] at n1
  cases n1
theorem no_next {ns : List Nat} (hne : ns ≠ []) (hm : mx ns ≤ 60) (h : firstN ns (List.range 61) = none) (hf : Fit ns) : (∀ j, j ≤ 60 → ¬ Fit (ns ++ [j])) ∧ lastS ns = 2 ^ mx ns := by
  have ne : ∀ j, ns ++ [j] ≠ [] := fun j => by simp
  have hmx : ∀ j, j ≤ 60 → mx (ns ++ [j]) ≤ 100 := fun j hj => by rw [mx_app]; show max (mx ns) (max j 0) ≤ 100; omega
  have n1 : ∀ j, j ≤ 60 → ¬ Fit (ns ++ [j]) := fun j hj z => by
    have := firstN_none h j (List.mem_range.mpr (by omega))
    rw [(isNone_fit (ne j) (hmx j hj)).mpr z] at this
    cases this
  refine ⟨n1, ?_⟩
  rw [lastS_gl hne]
  have le := (fit_gl (ns := ns) (M := mx ns) (fun n hn => mx_le hn) (by omega)).mp hf
  apply Nat.le_antisymm le
  apply Nat.le_of_not_lt
  intro lt
  refine n1 (mx ns) hm ((fit_gl (M := mx ns) (fun n hn => ?_) (by omega)).mpr ?_)
  · rcases List.mem_append.mp hn with z | z
    · exact mx_le z
    · rw [List.mem_singleton.mp z]; exact Nat.le_refl _
  · rw [gl_snoc, Nat.sub_self, Nat.pow_zero, up_eq (by decide) (Nat.one_dvd _)]
    omega
end K
end Q_len_

section Q_len2_
set_option Elab.async false
set_option linter.all false
set_option maxRecDepth 100000
set_option maxHeartbeats 4000000
namespace K
/-! # NEEDS -/
/-! ### words by their numbers -/
def vh : List Bool → Nat
  | [] => 0
  | b :: w => (if b then 2 ^ w.length else 0) + vh w
theorem vh_lt : ∀ w : List Bool, vh w < 2 ^ w.length
  | [] => Nat.one_pos
  | b :: w => by
    have := vh_lt w
    show (if b then 2 ^ w.length else 0) + vh w < 2 ^ (w.length + 1)
    rw [Nat.pow_succ]
    split <;> omega
theorem vh_snoc : ∀ (w : List Bool) (b : Bool), vh (w ++ [b]) = 2 * vh w + (if b then 1 else 0)
  | [], b => by cases b <;> rfl
  | a :: w, b => by
    show (if a then 2 ^ (w ++ [b]).length else 0) + vh (w ++ [b]) = 2 * ((if a then 2 ^ w.length else 0) + vh w) + _
    rw [vh_snoc w b, List.length_append, List.length_singleton, Nat.pow_succ]
    split <;> omega
theorem vh_wof : ∀ (n v : Nat), v < 2 ^ n → vh (wof v n) = v
  | 0, v, h => by show 0 = v; rw [Nat.pow_zero] at h; omega
  | n + 1, v, h => by
    show vh (wof (v / 2) n ++ [v % 2 == 1]) = v
    rw [vh_snoc, vh_wof n (v / 2) (by rw [Nat.pow_succ] at h; omega)]
    have : v % 2 = 0 ∨ v % 2 = 1 := by omega
    rcases this with z | z
    · rw [z]; show 2 * (v / 2) + 0 = v; omega
    · rw [z]; show 2 * (v / 2) + 1 = v; omega
/-- ahead of, and not its beginning -/
def R (p q : List Bool) : Bool := blt p q && !p.isPrefixOf q
theorem R_cons (a c : Bool) (p q : List Bool) : R (a :: p) (c :: q) = if a = c then R p q else c := by
  unfold R
  show ((if a = c then blt p q else c) && !((a == c) && p.isPrefixOf q)) = _
  cases a <;> cases c <;> simp
theorem R_nil (q : List Bool) : R [] q = false := by cases q <;> rfl
theorem R_nil' (p : List Bool) : R p [] = false := by cases p <;> rfl
theorem R_of : ∀ (p q : List Bool) (M : Nat), p.length ≤ M → q.length ≤ M → (vh p + 1) * 2 ^ (M - p.length) ≤ vh q * 2 ^ (M - q.length) → R p q = true
  | [], q, M, _, h2, h => by
    have l := vh_lt q
    have : vh q * 2 ^ (M - q.length) < 2 ^ q.length * 2 ^ (M - q.length) := Nat.mul_lt_mul_of_pos_right l (pow_pos2 _)
    rw [← Nat.pow_add, show q.length + (M - q.length) = M by omega] at this
    have h' : (0 + 1) * 2 ^ (M - 0) ≤ _ := h
    rw [Nat.sub_zero, Nat.zero_add, Nat.one_mul] at h'
    omega
  | a :: p, [], M, _, _, h => by
    have h' : _ ≤ 0 * 2 ^ (M - 0) := h
    rw [Nat.zero_mul] at h'
    have := Nat.mul_pos (show 0 < vh (a :: p) + 1 by omega) (pow_pos2 (M - (a :: p).length))
    omega
  | a :: p, c :: q, 0, h1, _, _ => by rw [List.length_cons] at h1; omega
  | a :: p, c :: q, M + 1, h1, h2, h => by
    rw [List.length_cons] at h1 h2
    rw [List.length_cons, List.length_cons, show M + 1 - (p.length + 1) = M - p.length by omega, show M + 1 - (q.length + 1) = M - q.length by omega] at h
    have e1 : 2 ^ p.length * 2 ^ (M - p.length) = 2 ^ M := by rw [← Nat.pow_add]; congr 1; omega
    have e2 : 2 ^ q.length * 2 ^ (M - q.length) = 2 ^ M := by rw [← Nat.pow_add]; congr 1; omega
    have lq : vh q * 2 ^ (M - q.length) < 2 ^ M := by rw [← e2]; exact Nat.mul_lt_mul_of_pos_right (vh_lt q) (pow_pos2 _)
    have pp := Nat.mul_pos (show 0 < vh p + 1 by omega) (pow_pos2 (M - p.length))
    rw [R_cons]
    cases a with
    | true =>
      have x1 : (vh (true :: p) + 1) * 2 ^ (M - p.length) = 2 ^ M + (vh p + 1) * 2 ^ (M - p.length) := by
        show (2 ^ p.length + vh p + 1) * _ = _
        rw [Nat.add_assoc, Nat.add_mul, e1]
      rw [x1] at h
      cases c with
      | true =>
        have x2 : vh (true :: q) * 2 ^ (M - q.length) = 2 ^ M + vh q * 2 ^ (M - q.length) := by
          show (2 ^ q.length + vh q) * _ = _
          rw [Nat.add_mul, e2]
        rw [x2] at h
        rw [if_pos rfl]
        exact R_of p q M (by omega) (by omega) (by omega)
      | false =>
        have x2 : vh (false :: q) * 2 ^ (M - q.length) = vh q * 2 ^ (M - q.length) := by
          show (0 + vh q) * _ = _
          rw [Nat.zero_add]
        rw [x2] at h
        omega
    | false =>
      have x1 : (vh (false :: p) + 1) * 2 ^ (M - p.length) = (vh p + 1) * 2 ^ (M - p.length) := by
        show (0 + vh p + 1) * _ = _
        rw [Nat.zero_add]
      rw [x1] at h
      cases c with
      | true => rfl
      | false =>
        have x2 : vh (false :: q) * 2 ^ (M - q.length) = vh q * 2 ^ (M - q.length) := by
          show (0 + vh q) * _ = _
          rw [Nat.zero_add]
        rw [x2] at h
        rw [if_pos rfl]
        exact R_of p q M (by omega) (by omega) h
theorem chain_R : ∀ (p q : List Bool) (r : List (List Bool)), chain (p :: q :: r) = (R p q && chain (q :: r)) := fun _ _ _ => rfl
/-! ### the least words of lengths -/
def lwsM (M h : Nat) (ns : List Nat) : List (List Bool) := List.zipWith (fun x n => wof (x / 2 ^ (M - n) - 1) n) (sumsF M h ns) ns
theorem lws_M (ns : List Nat) : lws ns = lwsM (mx ns) 0 ns := rfl
theorem lwsM_cons (M h n : Nat) (r : List Nat) : lwsM M h (n :: r) = wof ((up h (2 ^ (M - n)) + 2 ^ (M - n)) / 2 ^ (M - n) - 1) n :: lwsM M (up h (2 ^ (M - n)) + 2 ^ (M - n)) r := rfl
theorem lwsM_chain (M : Nat) : ∀ (ns : List Nat) (h : Nat), (∀ n ∈ ns, n ≤ M) → gl M h ns ≤ 2 ^ M → chain (lwsM M h ns) = true ∧ ∀ w ∈ (lwsM M h ns).head?, w.length ≤ M ∧ h ≤ vh w * 2 ^ (M - w.length)
  | [], _, _, _ => ⟨rfl, fun _ z => by cases z⟩
  | n :: r, h, g1, g2 => by
    have hn := g1 n List.mem_cons_self
    have p1 := pow_pos2 (M - n)
    generalize hp : 2 ^ (M - n) = s at p1
    have e : 2 ^ n * s = 2 ^ M := by rw [← hp, ← Nat.pow_add]; congr 1; omega
    obtain ⟨v, hv⟩ := up_dvd h s
    have g2' : gl M (up h s + s) r ≤ 2 ^ M := by rw [← hp]; exact g2
    have xle : up h s + s ≤ 2 ^ M := Nat.le_trans (gl_ge M r _) g2'
    have dv : (up h s + s) / s - 1 = v := by
      rw [hv, ← Nat.mul_succ, Nat.mul_div_cancel_left _ p1]; rfl
    have vlt : v < 2 ^ n := by
      have : s * v < s * 2 ^ n := by rw [Nat.mul_comm s (2 ^ n), e, ← hv]; omega
      exact Nat.lt_of_mul_lt_mul_left this
    obtain ⟨c1, c2⟩ := lwsM_chain M r (up h s + s) (fun m hm => g1 m (List.mem_cons_of_mem _ hm)) g2'
    rw [lwsM_cons, hp, dv]
    have len : (wof v n).length = n := wof_len n v
    have vw := vh_wof n v vlt
    refine ⟨?_, fun w hw => ?_⟩
    · cases hr : lwsM M (up h s + s) r with
      | nil => rfl
      | cons w ws =>
        rw [chain_R, ← hr, c1, Bool.and_true]
        obtain ⟨k1, k2⟩ := c2 w (by rw [hr]; rfl)
        refine R_of _ _ M (by rw [len]; exact hn) k1 ?_
        rw [len, vw, hp, Nat.add_mul, Nat.one_mul, Nat.mul_comm v s, ← hv]
        exact k2
    · cases hw
      rw [len, vw, hp, Nat.mul_comm, ← hv]
      exact ⟨hn, up_ge p1⟩
theorem lwsM_len (M : Nat) : ∀ (ns : List Nat) (h : Nat), (lwsM M h ns).map List.length = ns
  | [], _ => rfl
  | n :: r, h => by rw [lwsM_cons, List.map_cons, wof_len, lwsM_len M r]
theorem lwsM_scale (M d : Nat) : ∀ (ns : List Nat) (h : Nat), (∀ n ∈ ns, n ≤ M) → lwsM (M + d) (h * 2 ^ d) ns = lwsM M h ns
  | [], _, _ => rfl
  | n :: r, h, g => by
    have hn := g n List.mem_cons_self
    rw [lwsM_cons, lwsM_cons, pow_sub_add hn, up_mul (pow_pos2 _) (pow_pos2 _), ← Nat.add_mul, Nat.mul_div_mul_right _ _ (pow_pos2 d), lwsM_scale M d r _ fun m hm => g m (List.mem_cons_of_mem _ hm)]
theorem lwsM_app (M : Nat) : ∀ (a c : List Nat) (h : Nat), lwsM M h (a ++ c) = lwsM M h a ++ lwsM M (gl M h a) c
  | [], _, _ => rfl
  | n :: r, c, h => by rw [List.cons_append, lwsM_cons, lwsM_cons, lwsM_app M r c]; rfl
theorem lws_at {ns : List Nat} {M : Nat} (h : mx ns ≤ M) : lws ns = lwsM M 0 ns := by
  have := lwsM_scale (mx ns) (M - mx ns) ns 0 fun n hn => mx_le hn
  rw [Nat.zero_mul, show mx ns + (M - mx ns) = M by omega] at this
  exact this.symm
theorem lws_len (ns : List Nat) : (lws ns).map List.length = ns := lwsM_len _ ns 0
theorem lws_snoc (ns : List Nat) (k : Nat) : ∃ w, lws (ns ++ [k]) = lws ns ++ [w] ∧ w.length = k := by
  have e1 := lws_at (ns := ns ++ [k]) (M := mx (ns ++ [k])) (Nat.le_refl _)
  have e2 := lws_at (ns := ns) (M := mx (ns ++ [k])) (by rw [mx_app]; omega)
  rw [lwsM_app] at e1
  refine ⟨_, by rw [e1, e2]; rfl, wof_len _ _⟩
theorem lws_CODE {ns : List Nat} (h : LEN ns) (f : Fit ns) : CODE (lws ns) := by
  have hm := h.q.mx
  have ll := lws_len ns
  have g := (fit_gl (ns := ns) (M := mx ns) (fun n hn => mx_le hn) (by omega)).mp f
  refine ⟨fun z => ?_, (lwsM_chain (mx ns) ns 0 (fun n hn => mx_le hn) g).1, ?_, fun w hw => ?_⟩
  · rw [z] at ll; exact h.1 ll.symm
  · have := congrArg List.length ll
    rw [List.length_map] at this
    rw [this]; exact h.2.1
  · exact h.2.2 _ (by rw [← ll]; exact List.mem_map.mpr ⟨w, hw, rfl⟩)
/-! ### mirrored -/
theorem R_flip : ∀ p q : List Bool, R (q.map (!·)) (p.map (!·)) = R p q
  | [], q => by rw [R_nil, List.map_nil, R_nil']
  | a :: p, [] => by rw [R_nil', List.map_nil, R_nil]
  | a :: p, c :: q => by
    rw [List.map_cons, List.map_cons, R_cons, R_cons, R_flip p q]
    cases a <;> cases c <;> rfl
theorem chain_snoc : ∀ (ws : List (List Bool)) (p q : List Bool), chain (ws ++ [p, q]) = (chain (ws ++ [p]) && R p q)
  | [], p, q => by show (R p q && true) = (true && R p q); cases R p q <;> rfl
  | [x], p, q => by show (R x p && (R p q && true)) = ((R x p && true) && R p q); cases R x p <;> cases R p q <;> rfl
  | x :: y :: r, p, q => by
    have := chain_snoc (y :: r) p q
    show (R x y && chain ((y :: r) ++ [p, q])) = ((R x y && chain ((y :: r) ++ [p])) && R p q)
    rw [this, Bool.and_assoc]
theorem mirr_cons (p : List Bool) (r : List (List Bool)) : mirr (p :: r) = mirr r ++ [p.map (!·)] := by unfold mirr; rw [List.reverse_cons, List.map_append]; rfl
theorem chain_mirr : ∀ ws : List (List Bool), chain (mirr ws) = chain ws
  | [] => rfl
  | [_] => rfl
  | p :: q :: r => by
    rw [mirr_cons, mirr_cons, List.append_assoc]
    show chain (mirr r ++ [q.map (!·), p.map (!·)]) = (R p q && chain (q :: r))
    rw [chain_snoc, R_flip, ← mirr_cons, chain_mirr (q :: r), Bool.and_comm]
theorem mirr_len (ws : List (List Bool)) : (mirr ws).map List.length = (ws.map List.length).reverse := by
  unfold mirr
  rw [List.map_map, ← List.map_reverse]
  apply List.map_congr_left
  intro w _
  show (w.map _).length = w.length
  rw [List.length_map]
theorem mirr_CODE {ws : List (List Bool)} (h : CODE ws) : CODE (mirr ws) := by
  refine ⟨fun z => ?_, by rw [chain_mirr]; exact h.ch, by unfold mirr; rw [List.length_map, List.length_reverse]; exact h.n, fun w hw => ?_⟩
  · have := congrArg List.length z
    unfold mirr at this
    rw [List.length_map, List.length_reverse] at this
    exact h.ne (List.length_eq_zero_iff.mp this)
  · unfold mirr at hw
    obtain ⟨u, hu, rfl⟩ := List.mem_map.mp hw
    rw [List.length_map]
    exact h.l u (List.mem_reverse.mp hu)
/-! ### shares -/
theorem ltm_val : ∀ (p a : Nat), (ltm a p).2 ≤ p ∧ a = (ltm a p).1 * 2 ^ (p - (ltm a p).2)
  | 0, a => ⟨Nat.le_refl _, by show a = a * 2 ^ (0 - 0); rw [Nat.sub_self, Nat.pow_zero, Nat.mul_one]⟩
  | p + 1, a => by
    by_cases c : a % 2 = 0
    · have e : ltm a (p + 1) = ltm (a / 2) p := if_pos c
      obtain ⟨h1, h2⟩ := ltm_val p (a / 2)
      rw [e]
      refine ⟨by omega, ?_⟩
      rw [show p + 1 - (ltm (a / 2) p).2 = (p - (ltm (a / 2) p).2) + 1 by omega, Nat.pow_succ, ← Nat.mul_assoc, ← h2]
      omega
    · have e : ltm a (p + 1) = (a, p + 1) := if_neg c
      rw [e]
      exact ⟨Nat.le_refl _, by rw [Nat.sub_self, Nat.pow_zero, Nat.mul_one]⟩
theorem ltm_le {a p : Nat} (h : a ≤ 2 ^ p) : (ltm a p).1 ≤ 2 ^ (ltm a p).2 := by
  obtain ⟨h1, h2⟩ := ltm_val p a
  rw [h2, show (2 : Nat) ^ p = 2 ^ (ltm a p).2 * 2 ^ (p - (ltm a p).2) by rw [← Nat.pow_add]; congr 1; omega] at h
  exact Nat.le_of_mul_le_mul_right h (pow_pos2 _)
theorem ltm_whole : ∀ (p a : Nat), ltm a p = (1, 0) ↔ a = 2 ^ p
  | 0, a => by show (a, 0) = (1, 0) ↔ a = 1; simp
  | p + 1, a => by
    by_cases c : a % 2 = 0
    · have e : ltm a (p + 1) = ltm (a / 2) p := if_pos c
      rw [e, ltm_whole p (a / 2), Nat.pow_succ]
      omega
    · have e : ltm a (p + 1) = (a, p + 1) := if_neg c
      rw [e, Nat.pow_succ]
      simp
      omega
theorem ltm_zero : ∀ p : Nat, ltm 0 p = (0, 0)
  | 0 => rfl
  | p + 1 => ltm_zero p
theorem tot_cons (M n : Nat) (r : List Nat) : tot M (n :: r) = 2 ^ (M - n) + tot M r := by unfold tot; rw [List.map_cons, List.sum_cons]
theorem tot_gl (M : Nat) : ∀ (ns : List Nat) (h : Nat), h + tot M ns ≤ gl M h ns
  | [], h => Nat.le_refl _
  | n :: r, h => by
    have := tot_gl M r (up h (2 ^ (M - n)) + 2 ^ (M - n))
    have := up_ge (h := h) (pow_pos2 (M - n))
    rw [tot_cons]
    show _ ≤ gl M (up h (2 ^ (M - n)) + 2 ^ (M - n)) r
    omega
/-! ### the stack -/
def sumS (M : Nat) (st : List (Nat × Tr)) : Nat := (st.map fun x => 2 ^ (M - x.1)).sum
theorem sumS_cons (M : Nat) (x : Nat × Tr) (r : List (Nat × Tr)) : sumS M (x :: r) = 2 ^ (M - x.1) + sumS M r := by unfold sumS; rw [List.map_cons, List.sum_cons]
theorem push_sum (M : Nat) : ∀ (st : List (Nat × Tr)) (d : Nat) (t : Tr), d ≤ M → sumS M (push st d t) = 2 ^ (M - d) + sumS M st
  | [], d, t, _ => by unfold push; rw [sumS_cons]
  | (e, u) :: r, d, t, h => by
    unfold push
    split
    · next c =>
      obtain ⟨c1, c2⟩ := c
      rw [push_sum M r (d - 1) _ (by omega), sumS_cons, show M - (d - 1) = (M - d) + 1 by omega, Nat.pow_succ]
      show _ = 2 ^ (M - d) + (2 ^ (M - e) + sumS M r)
      rw [show e = d from c1]
      omega
    · rw [sumS_cons]
theorem push_le {M : Nat} : ∀ {st : List (Nat × Tr)} {d : Nat} {t : Tr}, d ≤ M → (∀ x ∈ st, x.1 ≤ M) → ∀ x ∈ push st d t, x.1 ≤ M
  | [], d, t, h, _, x, hx => by
    have hx' : x ∈ [(d, t)] := hx
    rw [List.mem_singleton.mp hx']; exact h
  | (e, u) :: r, d, t, h, g, x, hx => by
    unfold push at hx
    split at hx
    · exact push_le (by omega) (fun y hy => g y (List.mem_cons_of_mem _ hy)) x hx
    · rcases List.mem_cons.mp hx with z | z
      · rw [z]; exact h
      · exact g x z
theorem stk_sum (M : Nat) : ∀ (ns : List Nat) (p : Nat) (st : List (Nat × Tr)), (∀ n ∈ ns, n ≤ M) → sumS M (stk ns p st) = sumS M st + tot M ns
  | [], _, _, _ => rfl
  | n :: r, p, st, h => by
    show sumS M (stk r (p + 1) (push st n (.lf p))) = _
    rw [stk_sum M r _ _ fun m hm => h m (List.mem_cons_of_mem _ hm), push_sum M st n _ (h n List.mem_cons_self), tot_cons]
    omega
/-- the lengths fall from the top on -/
def Dec (st : List (Nat × Tr)) : Prop := (st.map Prod.fst).Pairwise (fun a c => c < a)
theorem dec_dvd {M : Nat} {x : Nat × Tr} {r : List (Nat × Tr)} (h : Dec (x :: r)) (hx : x.1 ≤ M) : 2 ^ (M - x.1 + 1) ∣ sumS M r := by
  have h1 := (List.pairwise_cons.mp h).1
  unfold sumS
  clear h
  induction r with
  | nil => exact Nat.dvd_zero _
  | cons y r ih =>
    rw [List.map_cons, List.sum_cons]
    refine Nat.dvd_add (Nat.pow_dvd_pow 2 ?_) (ih fun a ha => h1 a (List.mem_cons_of_mem _ ha))
    have := h1 y.1 List.mem_cons_self
    omega
theorem not_dvd_pow {k m : Nat} (h : 2 ^ (k + 1) ∣ 2 ^ k + 2 ^ (k + 1) * m) : False := by
  have h2 : 2 ^ (k + 1) ∣ 2 ^ k := (Nat.dvd_add_left (Nat.dvd_mul_right _ _)).mp h
  have := Nat.le_of_dvd (pow_pos2 k) h2
  rw [Nat.pow_succ] at this
  have := pow_pos2 k
  omega
theorem top_le {M l : Nat} {x : Nat × Tr} {r : List (Nat × Tr)} (h : Dec (x :: r)) (hx : x.1 ≤ M) (hl : 2 ^ (M - l) ∣ sumS M (x :: r)) : x.1 ≤ l := by
  apply Nat.le_of_not_lt
  intro lt
  have d1 := dec_dvd h hx
  obtain ⟨m, hm⟩ := d1
  have d2 : 2 ^ (M - x.1 + 1) ∣ sumS M (x :: r) := Nat.dvd_trans (Nat.pow_dvd_pow 2 (by omega)) hl
  rw [sumS_cons, hm] at d2
  exact not_dvd_pow d2
theorem push_dec {M : Nat} : ∀ {st : List (Nat × Tr)} {d : Nat} {t : Tr}, Dec st → (∀ x ∈ st, x.1 ≤ d) → d ≤ M → sumS M st + 2 ^ (M - d) ≤ 2 ^ M → Dec (push st d t)
  | [], d, t, _, _, _, _ => by unfold push Dec; simp
  | (e, u) :: r, d, t, h, g, hd, hs => by
    have g1 := g (e, u) List.mem_cons_self
    have h' := List.pairwise_cons.mp h
    have hs' := hs
    rw [sumS_cons] at hs'
    unfold push
    split
    · next c =>
      obtain ⟨c1, c2⟩ := c
      refine push_dec (M := M) h'.2 (fun x hx => ?_) (by omega) ?_
      · have : x.1 < e := h'.1 x.1 (List.mem_map.mpr ⟨x, hx, rfl⟩)
        omega
      · rw [show M - (d - 1) = (M - d) + 1 by omega, Nat.pow_succ]
        have hs2 : 2 ^ (M - e) + sumS M r + 2 ^ (M - d) ≤ 2 ^ M := hs'
        rw [show e = d from c1] at hs2
        omega
    · next c =>
      have lt : e < d := by
        apply Nat.lt_of_le_of_ne g1
        intro z
        have d0 : d = 0 := by
          apply Nat.eq_zero_of_not_pos
          exact fun p => c ⟨z, p⟩
        have hs2 : 2 ^ (M - e) + sumS M r + 2 ^ (M - d) ≤ 2 ^ M := hs'
        rw [show e = d from z, d0, Nat.sub_zero] at hs2
        have := pow_pos2 M
        omega
      refine List.pairwise_cons.mpr ⟨fun a ha => ?_, h⟩
      rcases List.mem_cons.mp ha with z | z
      · rw [z]; exact lt
      · exact Nat.lt_trans (h'.1 a z) lt
theorem stk_dec (M : Nat) : ∀ (ns : List Nat) (p : Nat) (st : List (Nat × Tr)), (∀ n ∈ ns, n ≤ M) → Dec st → (∀ x ∈ st, x.1 ≤ M) → gl M (sumS M st) ns = sumS M st + tot M ns → sumS M st + tot M ns ≤ 2 ^ M → Dec (stk ns p st) ∧ ∀ x ∈ stk ns p st, x.1 ≤ M
  | [], _, _, _, h, g, _, _ => ⟨h, g⟩
  | n :: r, p, st, g1, h, g, e, le => by
    have hn := g1 n List.mem_cons_self
    have e' : gl M (up (sumS M st) (2 ^ (M - n)) + 2 ^ (M - n)) r = sumS M st + (2 ^ (M - n) + tot M r) := by rw [← tot_cons]; exact e
    have t := tot_gl M r (up (sumS M st) (2 ^ (M - n)) + 2 ^ (M - n))
    have u := up_ge (h := sumS M st) (pow_pos2 (M - n))
    have ue : up (sumS M st) (2 ^ (M - n)) = sumS M st := by omega
    have dv : 2 ^ (M - n) ∣ sumS M st := by rw [← ue]; exact up_dvd _ _
    rw [tot_cons] at le
    have pd : Dec (push st n (.lf p)) := by
      refine push_dec h (fun x hx => ?_) hn (by omega)
      cases st with
      | nil => cases hx
      | cons y s =>
        have ty := top_le h (g y List.mem_cons_self) dv
        rcases List.mem_cons.mp hx with z | z
        · rw [z]; exact ty
        · have := (List.pairwise_cons.mp h).1 x.1 (List.mem_map.mpr ⟨x, z, rfl⟩)
          omega
    refine stk_dec M r (p + 1) (push st n (.lf p)) (fun m hm => g1 m (List.mem_cons_of_mem _ hm)) pd (push_le hn g) ?_ ?_
    · rw [push_sum M st n _ hn, Nat.add_comm (2 ^ (M - n)), ← ue, e', ue]; omega
    · rw [push_sum M st n _ hn]; omega
/-- of a row that fits the stack ends in one 0 just if its share is 1 -/
theorem left_whole {ns : List Nat} (hf : Fit ns) (hm : mx ns ≤ 100) : ((stk ns 0 []).reverse.map Prod.fst = [0]) ↔ tot (mx ns) ns = 2 ^ mx ns := by
  have hle : ∀ n ∈ ns, n ≤ mx ns := fun n hn => mx_le hn
  have g := (fit_gl (ns := ns) (M := mx ns) hle hm).mp hf
  have t := tot_gl (mx ns) ns 0
  have ss := stk_sum (mx ns) ns 0 [] hle
  have s0 : sumS (mx ns) [] = 0 := rfl
  rw [s0, Nat.zero_add] at ss
  constructor
  · intro h
    have h2 : (stk ns 0 []).map Prod.fst = [0] := by
      rw [List.map_reverse] at h
      have := congrArg List.reverse h
      rwa [List.reverse_reverse] at this
    rw [← ss]
    unfold sumS
    have : (stk ns 0 []).map (fun x => 2 ^ (mx ns - x.1)) = ((stk ns 0 []).map Prod.fst).map fun d => 2 ^ (mx ns - d) := by rw [List.map_map]; rfl
    rw [this, h2]
    simp
  · intro h
    obtain ⟨d, l⟩ := stk_dec (mx ns) ns 0 [] hle (by unfold Dec; simp) (fun _ z => by cases z) (by rw [s0]; omega) (by rw [s0]; omega)
    cases hs : stk ns 0 [] with
    | nil => rw [hs, s0, h] at ss; have := pow_pos2 (mx ns); omega
    | cons x r =>
      rw [hs] at d l ss
      have hx := l x List.mem_cons_self
      have x0 : x.1 = 0 := by
        apply Nat.eq_zero_of_not_pos
        intro px
        obtain ⟨m, hm⟩ := dec_dvd d hx
        have dd : 2 ^ (mx ns - x.1 + 1) ∣ sumS (mx ns) (x :: r) := by rw [ss, h]; exact Nat.pow_dvd_pow 2 (by omega)
        rw [sumS_cons, hm] at dd
        exact not_dvd_pow dd
      cases r with
      | nil => show [x.1] = [0]; rw [x0]
      | cons y r =>
        have := (List.pairwise_cons.mp d).1 y.1 List.mem_cons_self
        omega
end K
end Q_len2_

section O_k74_
set_option Elab.async false
set_option linter.all false
set_option maxRecDepth 100000
set_option maxHeartbeats 4000000
namespace K
open PySem PySem.Spec PyProof.Rows L2 Pv
def cm_law_0 (A : Ad) (T : Doors) : M (List D) := mComp (iRg1 (con (.int 13))) (gN 7) (m2b dIsN (mCall (F__law_bar) (aCons (m2 dAdd (rd 3) (mTup (aCons (rd 7) (aNil)))) (aNil))) (con .non)) (rd 7) [7]
def lp_law_1 (A : Ad) (T : Doors) : MS := sSeq (sSetF 8 (cm_law_0 A T)) (sIf (m2b dEq (mCall (F__law_slip A T) (aCons (con (.fn (A.fn "shortest_next"))) (aCons (fz (lNew (aCons (rd 3) (aNil)))) (aNil)))) (con (.str (Str.ofString "told")))) (sSeq (sSet 13 (mCall (F_shortest_next A) (aCons (rd 3) (aNil)))) (sSeq (sIf (tOrM (tAndM (m2b (dOrd (fun i j => decide (i < j)) strLt) (rd 13) (con (.int 13))) (tOrM (m2N dEq 8 (fz (lNew (aNil)))) (m2b (fun x y => (dEq x y).map (!·)) (mIxN 8 (con (.int 0))) (rd 13)))) (m2b (fun x y => (dEq x y).map (!·)) (rd 8) (fz (mRg2 (rd 13) (con (.int 13)))))) (sRet (con (.bl false))) (sNx)) (sSeq (sIf (tAndM (m2b (dOrd (fun i j => decide (j < i)) fun a b => strLt b a) (rd 13) (con (.int 0))) (tNotM (mT (mCall (F__law_same) (aCons (mCall (F_length_bar A) (aCons (m2 dAdd (rd 3) (mTup (aCons (m2 dSub (rd 13) (con (.int 1))) (aNil)))) (aNil))) (aCons (mB1 dLen (lend 3)) (aNil))))))) (sRet (con (.bl false))) (sNx)) (sSeq (sSet 14 (mCall (F_least_code A) (aCons (rd 3) (aNil)))) (sSeq (sSet 15 (mCall (F_least_code A) (aCons (m2 dAdd (rd 3) (mTup (aCons (rd 13) (aNil)))) (aNil)))) (sSeq (sIf (tOrM (m2b (fun x y => (dEq x y).map (!·)) (mSl (rd 15) (oNo) (oIn (mNeg (con (.int 1))))) (rd 14)) (tNotM (mT (mCall (F__law_same) (aCons (fz (lNew (aCons (mCall (F_is_code) (aCons (rd 15) (aNil))) (aCons (mB1 dLen (mIxN 15 (mNeg (con (.int 1))))) (aNil))))) (aCons (fz (lNew (aCons (con (.bl true)) (aCons (rd 13) (aNil))))) (aNil))))))) (sRet (con (.bl false))) (sNx)) (sIf (tAndM (m2b (dOrd (fun i j => decide (j < i)) fun a b => strLt b a) (mCall (F__law_take) (aCons (rd 1) (aCons (con (.int 4)) (aNil)))) (con (.int 0))) (m2b (dOrd (fun i j => decide (i < j)) strLt) (rd 13) (con (.int 12)))) (sSet 3 (m2 dAdd (rd 3) (mTup (aCons (m2 dAdd (rd 13) (mCall (F__law_take) (aCons (rd 1) (aCons (con (.int 3)) (aNil))))) (aNil))))) (sNx)))))))) (sIf (tOrM (m2N (fun x y => (dEq x y).map (!·)) 8 (fz (lNew (aNil)))) (m2b (fun x y => (dEq x y).map (!·)) (mCall (F_room_left A) (aCons (rd 3) (aNil))) (mTup (aCons (con (.int 0)) (aCons (con (.int 0)) (aNil)))))) (sRet (con (.bl false))) (sNx)))
def cm_law_2 (A : Ad) (T : Doors) : M (List D) := mComp (iSeq (rd 10)) (gN 14) (mYes) (mCall (F__law_share) (aCons (rd 14) (aCons (rd 9) (aNil)))) [14]
def cm_law_3 (A : Ad) (T : Doors) : M (List D) := mComp (iSeq (rd 3)) (gN 7) (mYes) (mCall (F__law_two) (aCons (m2 dSub (rd 9) (rd 7)) (aNil))) [7]
def cm_law_4 (A : Ad) (T : Doors) : M (List D) := mComp (iSeq (rd 3)) (gN 14) (mYes) (m2 dAdd (rd 14) (con (.int 1))) [14]
def lp_law_5 (A : Ad) (T : Doors) : MS := sSeq (sSet 3 (mTup (aCons (m2 dAdd (con (.int 1)) (mCall (F__law_take) (aCons (rd 1) (aCons (con (.int 5)) (aNil))))) (aNil)))) (sSeq (sFor (iRg1 (con (.int 13))) (gN 4) (lp_law_1 A T)) (sSeq (sAsg (gT 2 (gCons' (gN 9) (gCons' (gN 10) (gNil')))) (mTup (aCons (mB1 dMax (lend 3)) (aCons (mCall (F__law_sums) (aCons (rd 3) (aNil))) (aNil))))) (sSeq (sIf (tNotM (mT (mCall (F__law_same) (aCons (fz (lNew (aCons (mCall (F_have_code A) (aCons (rd 3) (aNil))) (aCons (mCall (F_length_sums A) (aCons (rd 3) (aNil))) (aNil))))) (aCons (fz (lNew (aCons (con (.bl true)) (aCons (mB1 dTuple (mLst (cm_law_2 A T))) (aNil))))) (aNil)))))) (sRet (con (.bl false))) (sNx)) (sSeq (sIf (tNotM (mT (mCall (F__law_same) (aCons (fz (lNew (aCons (mCall (F_wasted A) (aCons (rd 3) (aNil))) (aNil)))) (aCons (fz (lNew (aCons (mCall (F__law_share) (aCons (m2 dSub (mIxN 10 (mNeg (con (.int 1)))) (mB1 dSum (mLst (cm_law_3 A T)))) (aCons (rd 9) (aNil)))) (aNil)))) (aNil)))))) (sRet (con (.bl false))) (sNx)) (sSeq (sIf (tNotM (mT (mCall (F__law_same) (aCons (fz (lNew (aCons (mCall (F_room_left A) (aCons (rd 3) (aNil))) (aNil)))) (aCons (fz (lNew (aCons (mCall (F__law_share) (aCons (m2 dSub (mCall (F__law_two) (aCons (rd 9) (aNil))) (mIxN 10 (mNeg (con (.int 1))))) (aCons (rd 9) (aNil)))) (aNil)))) (aNil)))))) (sRet (con (.bl false))) (sNx)) (sSeq (sSet 5 (mCall (F__law_take) (aCons (rd 1) (aCons (mB1 dLen (lend 3)) (aNil))))) (sSeq (sSet 6 (m2 dAdd (m2 dAdd (rd 5) (con (.int 1))) (mCall (F__law_take) (aCons (rd 1) (aCons (m2 dSub (mB1 dLen (lend 3)) (rd 5)) (aNil)))))) (sSeq (sIf (tNotM (mT (mCall (F__law_same) (aCons (fz (lNew (aCons (mCall (F_have_code A) (aCons (mSl (rd 3) (oNo) (oIn (rd 6))) (aNil))) (aCons (mCall (F_have_code A) (aCons (mSl (rd 3) (oIn (rd 5)) (oIn (rd 6))) (aNil))) (aCons (mCall (F_have_code A) (aCons (m1 dBack (rd 3)) (aNil))) (aNil)))))) (aCons (fz (lNew (aCons (con (.bl true)) (aCons (con (.bl true)) (aCons (mB (m2b dIsN (mCall (F__law_bar) (aCons (m1 dBack (rd 3)) (aNil))) (con .non))) (aNil)))))) (aNil)))))) (sRet (con (.bl false))) (sNx)) (sSeq (sIf (tOrM (tNotM (mT (mCall (F__law_same) (aCons (mCall (F_code_lengths A) (aCons (mCall (F_mirrored_code A) (aCons (mCall (F_least_code A) (aCons (rd 3) (aNil))) (aNil))) (aNil))) (aCons (m1 dBack (rd 3)) (aNil)))))) (tNotM (mT (mCall (F_have_code A) (aCons (m1 dBack (rd 3)) (aNil)))))) (sRet (con (.bl false))) (sNx)) (sSeq (sSet 7 (mCall (F__law_take) (aCons (rd 1) (aCons (mB1 dLen (lend 3)) (aNil))))) (sSeq (sIf (tNotM (mT (mCall (F__law_same) (aCons (fz (lNew (aCons (mCall (F_have_code A) (aCons (mB1 dTuple (mLst (cm_law_4 A T))) (aNil))) (aCons (mCall (F_have_code A) (aCons (mCall (F_raised A) (aCons (rd 3) (aNil))) (aNil))) (aCons (mCall (F_have_code A) (aCons (mCall (F__law_put) (aCons (rd 3) (aCons (rd 7) (aCons (m2 dAdd (mIxN 3 (rd 7)) (con (.int 1))) (aNil))))) (aNil))) (aNil)))))) (aCons (fz (lNew (aCons (con (.bl true)) (aCons (con (.bl true)) (aCons (con (.bl true)) (aNil)))))) (aNil)))))) (sRet (con (.bl false))) (sNx)) (sSeq (sAsg (gT 2 (gCons' (gN 11) (gCons' (gN 12) (gNil')))) (mCall (F_lengths_share A) (aCons (rd 3) (aNil)))) (sIf (tOrM (m2b (dOrd (fun i j => decide (j < i)) fun a b => strLt b a) (rd 11) (mCall (F__law_two) (aCons (rd 12) (aNil)))) (m2b (fun x y => (dEq x y).map (!·)) (mB (m2b dEq (mCall (F_left_of_stack A) (aCons (rd 3) (aNil))) (mTup (aCons (con (.int 0)) (aNil))))) (mB (m2b dEq (mTup (aCons (rd 11) (aCons (rd 12) (aNil)))) (mTup (aCons (con (.int 1)) (aCons (con (.int 0)) (aNil)))))))) (sRet (con (.bl false))) (sNx))))))))))))))
def m_law (A : Ad) (T : Doors) : MS := sSeq (sBox 1 (B__law_box) (aCons (mCall (F__law_cells) (aCons (rd 0) (aCons (con (.int 1)) (aNil)))) (aCons (con (.int 0)) (aNil)))) (sSeq (sFor (iRg1 (con (.int 3))) (gN 2) (lp_law_5 A T)) (sRet (con (.bl true))))
end K
end O_k74_

section L_k74_
set_option Elab.async false
set_option linter.all false
set_option maxRecDepth 100000
set_option maxHeartbeats 4000000
namespace K
open PySem PySem.Spec PyProof.Rows L2 Pv
/-! # NEEDS -/
theorem bar_last {ns : List Nat} {j : Nat} (hne : ns ≠ []) (hm : mx ns ≤ 60) (hj : j ≤ 60) (hf : Fit ns) (hn : ¬ Fit (ns ++ [j])) : bar (ns ++ [j]) = some ns.length := by
  have hne' : ns ++ [j] ≠ [] := by simp
  have hM : mx (ns ++ [j]) ≤ 60 := by rw [mx_app]; show max _ (max j 0) ≤ 60; omega
  have hb : bar (ns ++ [j]) ≠ none := fun z => hn ((bar_fit hne' (by omega)).mp z)
  unfold bar at hb ⊢
  generalize hMM : mx (ns ++ [j]) = M at *
  have hle : ∀ n ∈ ns, n ≤ M := fun n h => by rw [← hMM]; exact mx_le (List.mem_append_left _ h)
  have e : sm (ns ++ [j]) = sumsF M 0 ns ++ [gl M 0 (ns ++ [j])] := by
    unfold sm
    rw [hMM]
    generalize (0 : Nat) = h
    clear hb hMM hf hn hne hne' hm hle
    induction ns generalizing h with
    | nil => rfl
    | cons n r ih => rw [List.cons_append, sumsF_cons, ih, sumsF_cons]; rfl
  rw [e, idxs_app, sumsF_len] at hb ⊢
  have z : idxs (fun x => decide (2 ^ M < x)) 0 (sumsF M 0 ns) = [] := by
    rw [idxs_nil]
    intro x hx
    have h1 := sums_le M ns 0 x hx
    have h2 := (fit_gl hle (by omega)).mp hf
    exact decide_eq_false (by omega)
  rw [z, List.nil_append, Nat.zero_add] at hb ⊢
  unfold idxs at hb ⊢
  split at hb
  · next c => rw [if_pos c]; rfl
  · next c => exact absurd rfl hb
theorem filt_ge (k : Nat) (hk : k ≤ 13) : (List.range 13).filter (fun j => decide (k ≤ j)) = (List.range (13 - k)).map (k + ·) := by
  have : ∀ k : Fin 14, (List.range 13).filter (fun j => decide (k.val ≤ j)) = (List.range (13 - k.val)).map (k.val + ·) := by decide
  exact this ⟨k, by omega⟩
theorem filt_ge' (k : Nat) : (List.range 13).filter (fun j => decide (k ≤ j)) = (List.range (13 - k)).map (k + ·) := by
  by_cases h : k ≤ 13
  · exact filt_ge k h
  · rw [show 13 - k = 0 by omega]
    show _ = []
    rw [List.filter_eq_nil_iff]
    intro a ha
    have := List.mem_range.mp ha
    simp only [decide_eq_true_eq]
    omega
theorem filt_none {p : Nat → Bool} {l : List Nat} (h : ∀ j ∈ l, p j = false) : l.filter p = [] := by
  rw [List.filter_eq_nil_iff]
  exact fun a ha => by rw [h a ha]; decide
theorem asg2 (i j : Nat) (x y : D) (env : List SV) (b : Box) : k0_sAsg (gT 2 (gCons' (gN i) (gCons' (gN j) gNil'))) (.ok (.tup [x, y]) ⟨env, b⟩) = .nx ⟨(env.set i (.d x)).set j (.d y), b⟩ := rfl
/-- a row of lengths that the law builds -/
structure ROW (k : Nat) (ns : List Nat) : Prop where
  ne : ns ≠ []
  n : ns.length ≤ k
  l : ∀ n ∈ ns, n ≤ 13
  f : Fit ns
theorem ROW.len {k : Nat} {ns : List Nat} (h : ROW k ns) (g : k ≤ 60) : LEN ns := ⟨h.ne, by have := h.n; omega, fun n hn => by have := h.l n hn; omega⟩
theorem ROW.mx {k : Nat} {ns : List Nat} (h : ROW k ns) : mx ns ≤ 13 := mx_lub h.l
abbrev s74 (d : D) (t : SV) (ns : List Nat) (v2 v4 v5 v6 v7 v8 v9 v10 v11 v12 v13 v14 v15 : SV) (b : Box) : S :=
  ⟨[.d d, t, v2, .d (.tup (ns.map natD)), v4, v5, v6, v7, v8, v9, v10, v11, v12, v13, v14, v15], b⟩
theorem snoc_d {ns : List Nat} {k : Nat} (h : ns.length ≤ 1000) : dAdd (.tup (ns.map natD)) (.tup [.int (k : Int)]) = some (.tup ((ns ++ [k]).map natD)) := by
  rw [catT (by rw [nats_len, List.length_singleton]; omega), List.map_append]
  rfl
section
variable {A : Ad} {T : Doors}
theorem comp0_74 {ns : List Nat} {k : Nat} (h : ROW k ns) (hk : k ≤ 20) (d : D) (v2 v4 v5 v6 v9 v10 v11 v12 v13 v14 v15 : SV) (v7 v8 : SV) (b : Box) (hv : v7.own = false) :
    cm_law_0 A T (s74 d .bx ns v2 v4 v5 v6 v7 v8 v9 v10 v11 v12 v13 v14 v15 b) = .ok (((List.range 13).filter fun j => (bar (ns ++ [j])).isNone).map natD) (s74 d .bx ns v2 v4 v5 v6 v7 v8 v9 v10 v11 v12 v13 v14 v15 b) := by
  have hn := h.n
  unfold cm_law_0
  have it : iRg1 (con (.int 13)) (s74 d .bx ns v2 v4 v5 v6 v7 v8 v9 v10 v11 v12 v13 v14 v15 b) = .ok ((List.range 13).map natD) (s74 d .bx ns v2 v4 v5 v6 v7 v8 v9 v10 v11 v12 v13 v14 v15 b) := rfl
  have e : ((List.range 13).filter fun j => (bar (ns ++ [j])).isNone).map natD = (((List.range 13).map natD).filter fun d => match d with | .int x => (bar (ns ++ [x.toNat])).isNone | _ => false).map id := by
    rw [List.map_id, List.filter_map]
    rfl
  rw [e]
  refine comp_pure _ _ it (by show (!v7.own && true) = true; rw [hv]; rfl) (fun x hx => ?_) (small_line (by rw [nats_len, List.length_range]; omega))
  obtain ⟨j, hj, rfl⟩ := List.mem_map.mp hx
  have hj' := List.mem_range.mp hj
  have hq : (ns ++ [j]).length ≤ 1000 := by rw [List.length_append, List.length_singleton]; omega
  have hmm : mx (ns ++ [j]) ≤ 1000 := by rw [mx_app]; have := h.mx; show max _ (max j 0) ≤ _; omega
  have q := fun b => at_law_bar (ns := ns ++ [j]) b (by simp) hq hmm
  refine ⟨_, rfl, ?_, fun _ => ?_, rfl⟩
  · simp (disch := first | assumption | omega | (simp only [List.length_cons, List.length_nil, List.length_map, List.length_append, List.length_range, List.length_reverse, List.length_replicate] <;> omega)) only [EV0, EV1, EV2, EV3, EV4, EV5, EV6, EV7, EV8, EV9, EV10, DATc, DATd, EVw, ofO_s, List.getD_cons_zero, List.getD_cons_succ, List.set_cons_zero, List.set_cons_succ, Bool.not_true, Bool.not_false, Option.map_some, decide_true, decide_false, snoc_d (ns := ns) (k := j) (by omega), natD_eq, q, isN_opt]
    rfl
  · rfl

theorem lt_intB (i j : Int) : (dOrd (fun i j => decide (i < j)) strLt) (.int i) (.int j) = some (decide (i < j)) := rfl
theorem own_ne (n : Nat) : True := trivial
theorem turn_no {ns : List Nat} {k m : Nat} (oA : A.ok) (hT : T (A.fn "shortest_next") = some (1, F_shortest_next A)) (h : ROW k ns) (hk : k ≤ 20) (hz : firstN ns (List.range 61) = none) (d : D) (v2 v4 v5 v6 v9 v10 v11 v12 v13 v14 v15 v7 v8 : SV) (b : Box) (hv : v7.own = false) :
    lp_law_1 A T (s74 d .bx ns v2 v4 v5 v6 v7 v8 v9 v10 v11 v12 v13 v14 v15 b) = .nx (s74 d .bx ns v2 v4 v5 v6 v7 (.o []) v9 v10 v11 v12 v13 v14 v15 b) := by
  have hl := h.len (by omega)
  have c0 := comp0_74 (A := A) (T := T) h hk d v2 v4 v5 v6 v9 v10 v11 v12 v13 v14 v15 v7 v8 b hv
  obtain ⟨nf, last⟩ := no_next h.ne (by have := h.mx; omega) hz h.f
  rw [filt_none (p := fun j => (bar (ns ++ [j])).isNone) fun j hj => by
    have := List.mem_range.mp hj
    have z : ¬ (bar (ns ++ [j])).isNone = true := fun z => nf j (by omega) ((isNone_fit (by simp) (by rw [mx_app]; have := h.mx; show max _ (max j 0) ≤ _; omega)).mp z)
    exact Bool.eq_false_iff.mpr z] at c0
  have nb : bar ns = none := (bar_fit h.ne (by have := h.mx; omega)).mpr h.f
  have q := at_shortest_next (A := A) b hl
  rw [hz] at q
  have sl := slip_C (T := T) (f := .fn (A.fn "shortest_next")) (g := .lst [.tup (ns.map natD)]) oA ((at_call1 b hT).trans q)
  have r := at_room_left (A := A) b hl (by omega) nb
  rw [last, Nat.sub_self] at r
  have e1 : dEq (.str (Str.ofString "can not")) (.str (Str.ofString "told")) = some false := rfl
  have e2 : dEq (ltD (mx ns) 0) (.tup [.int 0, .int 0]) = some true := by
    unfold ltD
    rw [ltm_zero]
    rfl
  have e3 : dEq (.lst (([] : List Nat).map natD)) (.lst []) = some true := rfl
  unfold lp_law_1
  simp (disch := first | assumption | omega | (simp only [List.length_cons, List.length_nil, List.length_map, List.length_append, List.length_range, List.length_reverse, List.length_replicate] <;> omega)) only [EV0, EV1, EV2, EV3, EV4, EV5, EV6, EV7, EV8, EV9, EV10, DATc, DATd, EVw, ofO_s, List.getD_cons_zero, List.getD_cons_succ, List.set_cons_zero, List.set_cons_succ, Bool.not_true, Bool.not_false, Option.map_some, decide_true, decide_false, c0, sl, e1, e3, r, e2]
  rfl

theorem lwT_ok {ns : List Nat} (b : Box) (h : LEN ns) (f : Fit ns) : F_least_code A [.tup (ns.map natD)] b = .ok (.tup ((lws ns).map wD)) b := by
  rw [at_least_code b h, (bar_fit h.1 (by have := h.q.mx; omega)).mpr f]
  rfl
theorem rg2_nat (k : Nat) : rgD (k : Int) ((13 : Int) - (k : Int)).toNat = ((List.range (13 - k)).map (k + ·)).map natD := by
  unfold rgD
  rw [show ((13 : Int) - (k : Int)).toNat = 13 - k by omega, List.map_map]
  apply List.map_congr_left
  intro i _
  show D.int ((k : Int) + (i : Int)) = .int ((k + i : Nat) : Int)
  congr 1
/-- a turn in which another length may follow, up to the draws -/
theorem turn_some {ns : List Nat} {k j m : Nat} (oA : A.ok) (hT : T (A.fn "shortest_next") = some (1, F_shortest_next A)) (h : ROW k ns) (hk : k ≤ 20) (hz : firstN ns (List.range 61) = some j) (d : D) (v2 v4 v5 v6 v9 v10 v11 v12 v13 v14 v15 v7 v8 : SV) (b : Box) (hv : v7.own = false) (ob : okB b (m + 2)) :
    ∃ ns' v8' v13' v14' v15' b', lp_law_1 A T (s74 d .bx ns v2 v4 v5 v6 v7 v8 v9 v10 v11 v12 v13 v14 v15 b) = .nx (s74 d .bx ns' v2 v4 v5 v6 v7 v8' v9 v10 v11 v12 v13' v14' v15' b') ∧ ROW (k + 1) ns' ∧ okB b' m ∧ v14'.own = false := by
  have hl := h.len (by omega)
  have hmx := h.mx
  have hn := h.n
  have c0 := comp0_74 (A := A) (T := T) h hk d v2 v4 v5 v6 v9 v10 v11 v12 v13 v14 v15 v7 v8 b hv
  obtain ⟨j60, fj, all⟩ := next_facts (by omega) hz
  have fe : (List.range 13).filter (fun i => (bar (ns ++ [i])).isNone) = (List.range 13).filter (fun i => decide (j ≤ i)) := by
    apply List.filter_congr
    intro i hi
    have := List.mem_range.mp hi
    have z := isNone_fit (ns := ns ++ [i]) (by simp) (by rw [mx_app]; show max _ (max i 0) ≤ _; omega)
    by_cases c : j ≤ i
    · rw [decide_eq_true c, z.mpr ((all i (by omega)).mpr c)]
    · rw [decide_eq_false c, Bool.eq_false_iff]
      exact fun y => c ((all i (by omega)).mp (z.mp y))
  rw [fe, filt_ge'] at c0
  generalize hL : (List.range (13 - j)).map (j + ·) = L at c0
  have q := at_shortest_next (A := A) b hl
  rw [hz] at q
  have q' : F_shortest_next A [.tup (ns.map natD)] b = .ok (.int (j : Int)) b := q
  have sl := slip_told (A := A) (T := T) (f := .fn (A.fn "shortest_next")) (g := .lst [.tup (ns.map natD)]) ((at_call1 b hT).trans q)
  have e1 : dEq (.str (Str.ofString "told")) (.str (Str.ofString "told")) = some true := rfl
  have lc := lwT_ok (A := A) b hl h.f
  have hsl : LEN (ns ++ [j]) := ⟨by simp, by rw [List.length_append, List.length_singleton]; omega, fun n hn => by
    rcases List.mem_append.mp hn with z | z
    · have := h.l n z; omega
    · rw [List.mem_singleton.mp z]; exact j60⟩
  have lc2 := lwT_ok (A := A) b hsl fj
  obtain ⟨w, lw, wl⟩ := lws_snoc ns j
  have cd : CODE (lws (ns ++ [j])) := lws_CODE hsl fj
  have cut1 : Pv.cutD ((lws (ns ++ [j])).map wD) none (some (-1)) = (lws ns).map wD := by rw [cut_init, lw, List.map_append]; simp
  have eqo : dEq (.tup ((lws ns).map wD)) (.tup ((lws ns).map wD)) = some true := by rw [eqWT, decide_eq_true rfl]
  have isc : F_is_code [.tup ((lws (ns ++ [j])).map wD)] b = .ok (.bl true) b := by
    rw [at_is_code b cd.wf (by rw [code_dep]; omega), codeOk_wD]
    exact congrArg (fun x => RO.ok (.bl x) b) (by unfold isCode; rw [cd.ch]; cases hh : lws (ns ++ [j]) with
      | nil => exact absurd hh cd.ne
      | cons x r => rfl)
  have lst : atI ((lws (ns ++ [j])).map wD) (-1) = some (.str (wd w)) := by rw [lw, List.map_append]; exact atI_l1
  have lenw : dLen (.str (wd w)) = some (.int (j : Int)) := by rw [lenW (by omega), wl]
  have sm1 : F__law_same [.lst [.bl true, .int (j : Int)], .lst [.bl true, .int (j : Int)]] b = .ok (.bl true) b := at_same b rfl (Nat.le_trans (Nat.le_refl 1) (by omega))
  have rg : mRg2 (rd 13) (con (.int 13)) = mRg2 (rd 13) (con (.int 13)) := rfl
  obtain ⟨t4, b1, d4, l4, o1⟩ := a_take (n := 4) (k := m + 1) (b := b) (by decide) (by decide) ob
  obtain ⟨t3, b2, d3, l3, o2⟩ := a_take (n := 3) (k := m) (b := b1) (by decide) (by decide) o1
  have d4' : F__law_take [.box, .int 4] b = .ok (.int (t4 : Int)) b1 := d4
  have d3' : F__law_take [.box, .int 3] b1 = .ok (.int (t3 : Int)) b2 := d3
  have bars : ∀ i, j = i + 1 → F_length_bar A [.tup ((ns ++ [i]).map natD)] b = .ok (.int (ns.length : Int)) b := fun i hi => by
    have hs2 : LEN (ns ++ [i]) := ⟨by simp, by rw [List.length_append, List.length_singleton]; omega, fun n hn => by
      rcases List.mem_append.mp hn with z | z
      · have := h.l n z; omega
      · rw [List.mem_singleton.mp z]; omega⟩
    rw [at_length_bar b hs2, bar_last h.ne (by omega) (by omega) h.f fun z => by have := (all i (by omega)).mp z; omega]
    rfl
  have sm2 : F__law_same [.int (ns.length : Int), .int (ns.length : Int)] b = .ok (.bl true) b := at_same b rfl (Nat.zero_le _)
  have lens : (ns.map natD).length = ns.length := nats_len ns
  have snj : ∀ i : Nat, dAdd (.tup (ns.map natD)) (.tup [.int (i : Int)]) = some (.tup ((ns ++ [i]).map natD)) := fun i => snoc_d (by omega)
  have eqLL := eqNL L L
  rw [decide_eq_true (show L = L from rfl)] at eqLL
  have eqL0 := eqNL0 L
  have rgj := rg2_nat j
  rw [hL] at rgj
  have jj : dEq (.int (j : Int)) (.int (j : Int)) = some true := by rw [eqI, decide_eq_true rfl]
  have r13 : ∀ c : Bool, decide ((j : Int) < 13) = c → decide (L = []) = !c ∧ (c = true → atI (L.map natD) 0 = some (.int (j : Int))) := fun c hc => by
    cases c with
    | true =>
      have := of_decide_eq_true hc
      obtain ⟨i, hi⟩ : ∃ i, 13 - j = i + 1 := ⟨12 - j, by omega⟩
      rw [hi, List.range_succ_eq_map] at hL
      rw [← hL]
      exact ⟨rfl, fun _ => atI_0⟩
    | false =>
      have := of_decide_eq_false hc
      rw [show 13 - j = 0 by omega] at hL
      rw [← hL]
      exact ⟨rfl, fun z => Bool.noConfusion z⟩
  rcases (by omega : j = 0 ∨ (0 < j ∧ j < 12) ∨ j = 12 ∨ 13 ≤ j) with z | z | z | z <;> rcases (by omega : t4 = 0 ∨ 0 < t4) with y | y
  · obtain ⟨r1, r2⟩ := r13 true (decide_eq_true (by omega))
    have r2 := r2 rfl
    refine ⟨ns, _, _, _, _, b1, by unfold lp_law_1; simp (disch := first | assumption | omega | (simp only [List.length_cons, List.length_nil, List.length_map, List.length_append, List.length_range, List.length_reverse, List.length_replicate] <;> omega)) only [EV0, EV1, EV2, EV3, EV4, EV5, EV6, EV7, EV8, EV9, EV10, DATc, DATd, EVw, ofO_s, List.getD_cons_zero, List.getD_cons_succ, List.set_cons_zero, List.set_cons_succ, Bool.not_true, Bool.not_false, Option.map_some, decide_true, decide_false, c0, sl, e1, q', rgj, decide_eq_true (show (j : Int) < 13 by omega), eqL0, r1, r2, jj, eqLL, decide_eq_false (show ¬ (0 : Int) < (j : Int) by omega), lc, snj j, lc2, cut1, eqo, isc, lst, lenw, sm1, d4', decide_eq_false (show ¬ (0 : Int) < (t4 : Int) by omega)]; rfl, ⟨h.ne, by omega, h.l, h.f⟩, o1.less (by omega), rfl⟩
  · obtain ⟨r1, r2⟩ := r13 true (decide_eq_true (by omega))
    have r2 := r2 rfl
    refine ⟨ns ++ [j + t3], _, _, _, _, b2, by unfold lp_law_1; simp (disch := first | assumption | omega | (simp only [List.length_cons, List.length_nil, List.length_map, List.length_append, List.length_range, List.length_reverse, List.length_replicate] <;> omega)) only [EV0, EV1, EV2, EV3, EV4, EV5, EV6, EV7, EV8, EV9, EV10, DATc, DATd, EVw, ofO_s, List.getD_cons_zero, List.getD_cons_succ, List.set_cons_zero, List.set_cons_succ, Bool.not_true, Bool.not_false, Option.map_some, decide_true, decide_false, c0, sl, e1, q', rgj, decide_eq_true (show (j : Int) < 13 by omega), eqL0, r1, r2, jj, eqLL, decide_eq_false (show ¬ (0 : Int) < (j : Int) by omega), lc, snj j, lc2, cut1, eqo, isc, lst, lenw, sm1, d4', decide_eq_true (show (0 : Int) < (t4 : Int) by omega), decide_eq_true (show (j : Int) < 12 by omega), d3', show (j : Int) + (t3 : Int) = ((j + t3 : Nat) : Int) by omega, snj (j + t3)]; rfl, ⟨by simp, by rw [List.length_append, List.length_singleton]; omega, fun n hn => ?_, fit_next fj (by omega)⟩, o2, rfl⟩
    rcases List.mem_append.mp hn with z | z
    · exact h.l n z
    · rw [List.mem_singleton.mp z]; omega
  · obtain ⟨r1, r2⟩ := r13 true (decide_eq_true (by omega))
    have r2 := r2 rfl
    obtain ⟨i, hi⟩ : ∃ i, j = i + 1 := ⟨j - 1, by omega⟩
    have bi := bars i hi
    have ji : (j : Int) - 1 = (i : Int) := by omega
    refine ⟨ns, _, _, _, _, b1, by unfold lp_law_1; simp (disch := first | assumption | omega | (simp only [List.length_cons, List.length_nil, List.length_map, List.length_append, List.length_range, List.length_reverse, List.length_replicate] <;> omega)) only [EV0, EV1, EV2, EV3, EV4, EV5, EV6, EV7, EV8, EV9, EV10, DATc, DATd, EVw, ofO_s, List.getD_cons_zero, List.getD_cons_succ, List.set_cons_zero, List.set_cons_succ, Bool.not_true, Bool.not_false, Option.map_some, decide_true, decide_false, c0, sl, e1, q', rgj, decide_eq_true (show (j : Int) < 13 by omega), eqL0, r1, r2, jj, eqLL, decide_eq_true (show (0 : Int) < (j : Int) by omega), ji, snj i, bi, lens, sm2, lc, snj j, lc2, cut1, eqo, isc, lst, lenw, sm1, d4', decide_eq_false (show ¬ (0 : Int) < (t4 : Int) by omega)]; rfl, ⟨h.ne, by omega, h.l, h.f⟩, o1.less (by omega), rfl⟩
  · obtain ⟨r1, r2⟩ := r13 true (decide_eq_true (by omega))
    have r2 := r2 rfl
    obtain ⟨i, hi⟩ : ∃ i, j = i + 1 := ⟨j - 1, by omega⟩
    have bi := bars i hi
    have ji : (j : Int) - 1 = (i : Int) := by omega
    refine ⟨ns ++ [j + t3], _, _, _, _, b2, by unfold lp_law_1; simp (disch := first | assumption | omega | (simp only [List.length_cons, List.length_nil, List.length_map, List.length_append, List.length_range, List.length_reverse, List.length_replicate] <;> omega)) only [EV0, EV1, EV2, EV3, EV4, EV5, EV6, EV7, EV8, EV9, EV10, DATc, DATd, EVw, ofO_s, List.getD_cons_zero, List.getD_cons_succ, List.set_cons_zero, List.set_cons_succ, Bool.not_true, Bool.not_false, Option.map_some, decide_true, decide_false, c0, sl, e1, q', rgj, decide_eq_true (show (j : Int) < 13 by omega), eqL0, r1, r2, jj, eqLL, decide_eq_true (show (0 : Int) < (j : Int) by omega), ji, snj i, bi, lens, sm2, lc, snj j, lc2, cut1, eqo, isc, lst, lenw, sm1, d4', decide_eq_true (show (0 : Int) < (t4 : Int) by omega), decide_eq_true (show (j : Int) < 12 by omega), d3', show (j : Int) + (t3 : Int) = ((j + t3 : Nat) : Int) by omega, snj (j + t3)]; rfl, ⟨by simp, by rw [List.length_append, List.length_singleton]; omega, fun n hn => ?_, fit_next fj (by omega)⟩, o2, rfl⟩
    rcases List.mem_append.mp hn with z | z
    · exact h.l n z
    · rw [List.mem_singleton.mp z]; omega
  · obtain ⟨r1, r2⟩ := r13 true (decide_eq_true (by omega))
    have r2 := r2 rfl
    obtain ⟨i, hi⟩ : ∃ i, j = i + 1 := ⟨j - 1, by omega⟩
    have bi := bars i hi
    have ji : (j : Int) - 1 = (i : Int) := by omega
    refine ⟨ns, _, _, _, _, b1, by unfold lp_law_1; simp (disch := first | assumption | omega | (simp only [List.length_cons, List.length_nil, List.length_map, List.length_append, List.length_range, List.length_reverse, List.length_replicate] <;> omega)) only [EV0, EV1, EV2, EV3, EV4, EV5, EV6, EV7, EV8, EV9, EV10, DATc, DATd, EVw, ofO_s, List.getD_cons_zero, List.getD_cons_succ, List.set_cons_zero, List.set_cons_succ, Bool.not_true, Bool.not_false, Option.map_some, decide_true, decide_false, c0, sl, e1, q', rgj, decide_eq_true (show (j : Int) < 13 by omega), eqL0, r1, r2, jj, eqLL, decide_eq_true (show (0 : Int) < (j : Int) by omega), ji, snj i, bi, lens, sm2, lc, snj j, lc2, cut1, eqo, isc, lst, lenw, sm1, d4', decide_eq_false (show ¬ (0 : Int) < (t4 : Int) by omega)]; rfl, ⟨h.ne, by omega, h.l, h.f⟩, o1.less (by omega), rfl⟩
  · obtain ⟨r1, r2⟩ := r13 true (decide_eq_true (by omega))
    have r2 := r2 rfl
    obtain ⟨i, hi⟩ : ∃ i, j = i + 1 := ⟨j - 1, by omega⟩
    have bi := bars i hi
    have ji : (j : Int) - 1 = (i : Int) := by omega
    refine ⟨ns, _, _, _, _, b1, by unfold lp_law_1; simp (disch := first | assumption | omega | (simp only [List.length_cons, List.length_nil, List.length_map, List.length_append, List.length_range, List.length_reverse, List.length_replicate] <;> omega)) only [EV0, EV1, EV2, EV3, EV4, EV5, EV6, EV7, EV8, EV9, EV10, DATc, DATd, EVw, ofO_s, List.getD_cons_zero, List.getD_cons_succ, List.set_cons_zero, List.set_cons_succ, Bool.not_true, Bool.not_false, Option.map_some, decide_true, decide_false, c0, sl, e1, q', rgj, decide_eq_true (show (j : Int) < 13 by omega), eqL0, r1, r2, jj, eqLL, decide_eq_true (show (0 : Int) < (j : Int) by omega), ji, snj i, bi, lens, sm2, lc, snj j, lc2, cut1, eqo, isc, lst, lenw, sm1, d4', decide_eq_true (show (0 : Int) < (t4 : Int) by omega), decide_eq_false (show ¬ (j : Int) < 12 by omega)]; rfl, ⟨h.ne, by omega, h.l, h.f⟩, o1.less (by omega), rfl⟩
  · obtain ⟨r1, r2⟩ := r13 false (decide_eq_false (by omega))
    obtain ⟨i, hi⟩ : ∃ i, j = i + 1 := ⟨j - 1, by omega⟩
    have bi := bars i hi
    have ji : (j : Int) - 1 = (i : Int) := by omega
    refine ⟨ns, _, _, _, _, b1, by unfold lp_law_1; simp (disch := first | assumption | omega | (simp only [List.length_cons, List.length_nil, List.length_map, List.length_append, List.length_range, List.length_reverse, List.length_replicate] <;> omega)) only [EV0, EV1, EV2, EV3, EV4, EV5, EV6, EV7, EV8, EV9, EV10, DATc, DATd, EVw, ofO_s, List.getD_cons_zero, List.getD_cons_succ, List.set_cons_zero, List.set_cons_succ, Bool.not_true, Bool.not_false, Option.map_some, decide_true, decide_false, c0, sl, e1, q', rgj, decide_eq_false (show ¬ (j : Int) < 13 by omega), eqLL, decide_eq_true (show (0 : Int) < (j : Int) by omega), ji, snj i, bi, lens, sm2, lc, snj j, lc2, cut1, eqo, isc, lst, lenw, sm1, d4', decide_eq_false (show ¬ (0 : Int) < (t4 : Int) by omega)]; rfl, ⟨h.ne, by omega, h.l, h.f⟩, o1.less (by omega), rfl⟩
  · obtain ⟨r1, r2⟩ := r13 false (decide_eq_false (by omega))
    obtain ⟨i, hi⟩ : ∃ i, j = i + 1 := ⟨j - 1, by omega⟩
    have bi := bars i hi
    have ji : (j : Int) - 1 = (i : Int) := by omega
    refine ⟨ns, _, _, _, _, b1, by unfold lp_law_1; simp (disch := first | assumption | omega | (simp only [List.length_cons, List.length_nil, List.length_map, List.length_append, List.length_range, List.length_reverse, List.length_replicate] <;> omega)) only [EV0, EV1, EV2, EV3, EV4, EV5, EV6, EV7, EV8, EV9, EV10, DATc, DATd, EVw, ofO_s, List.getD_cons_zero, List.getD_cons_succ, List.set_cons_zero, List.set_cons_succ, Bool.not_true, Bool.not_false, Option.map_some, decide_true, decide_false, c0, sl, e1, q', rgj, decide_eq_false (show ¬ (j : Int) < 13 by omega), eqLL, decide_eq_true (show (0 : Int) < (j : Int) by omega), ji, snj i, bi, lens, sm2, lc, snj j, lc2, cut1, eqo, isc, lst, lenw, sm1, d4', decide_eq_true (show (0 : Int) < (t4 : Int) by omega), decide_eq_false (show ¬ (j : Int) < 12 by omega)]; rfl, ⟨h.ne, by omega, h.l, h.f⟩, o1.less (by omega), rfl⟩

theorem turns (oA : A.ok) (hT : T (A.fn "shortest_next") = some (1, F_shortest_next A)) (d : D) (v2 v5 v6 v7 v9 v10 v11 v12 : SV) (hv : v7.own = false) (m : Nat) :
    ∀ (l : List Nat) (ns : List Nat) (k : Nat) (v4 v8 v13 v14 v15 : SV) (b : Box), ROW k ns → k + l.length ≤ 20 → okB b (m + 2 * l.length) → v14.own = false →
    ∃ ns' v4' v8' v13' v14' v15' b', sForL (gN 4) (lp_law_1 A T) (l.map natD) (s74 d .bx ns v2 v4 v5 v6 v7 v8 v9 v10 v11 v12 v13 v14 v15 b) = .nx (s74 d .bx ns' v2 v4' v5 v6 v7 v8' v9 v10 v11 v12 v13' v14' v15' b') ∧ ROW (k + l.length) ns' ∧ okB b' m ∧ v14'.own = false
  | [], ns, k, v4, v8, v13, v14, v15, b, h, _, o, g => ⟨ns, v4, v8, v13, v14, v15, b, rfl, h, o, g⟩
  | x :: r, ns, k, v4, v8, v13, v14, v15, b, h, hk, o, g => by
    rw [List.length_cons] at hk o ⊢
    have o' : okB b ((m + 2 * r.length) + 2) := o.less (by omega)
    have one : ∃ ns' v8' v13' v14' v15' b', lp_law_1 A T (s74 d .bx ns v2 (.d (natD x)) v5 v6 v7 v8 v9 v10 v11 v12 v13 v14 v15 b) = .nx (s74 d .bx ns' v2 (.d (natD x)) v5 v6 v7 v8' v9 v10 v11 v12 v13' v14' v15' b') ∧ ROW (k + 1) ns' ∧ okB b' (m + 2 * r.length) ∧ v14'.own = false := by
      cases hz : firstN ns (List.range 61) with
      | none => exact ⟨ns, _, _, _, _, b, turn_no (m := m) oA hT h (by omega) hz d _ _ _ _ _ _ _ _ _ _ _ _ _ b hv, ⟨h.ne, by have := h.n; omega, h.l, h.f⟩, o'.less (by omega), g⟩
      | some j => exact turn_some oA hT h (by omega) hz d _ _ _ _ _ _ _ _ _ _ _ _ _ b hv o'
    obtain ⟨ns1, w8, w13, w14, w15, b1, e1, h1, o1, g1⟩ := one
    obtain ⟨ns2, u4, u8, u13, u14, u15, b2, e2, h2, o2, g2⟩ := turns oA hT d v2 v5 v6 v7 v9 v10 v11 v12 hv m r ns1 (k + 1) (.d (natD x)) w8 w13 w14 w15 b1 h1 (by omega) o1 g1
    refine ⟨ns2, u4, u8, u13, u14, u15, b2, ?_, by rw [show k + (r.length + 1) = k + 1 + r.length by omega]; exact h2, o2, g2⟩
    rw [List.map_cons]
    exact Eq.trans (for_cons rfl e1) e2

theorem wf_ltD (M x : Nat) : wf (ltD M x) = true := rfl
theorem wfs_lt (M : Nat) : ∀ l : List Nat, wfs (l.map (ltD M)) = true
  | [] => rfl
  | x :: r => by show (wf (ltD M x) && wfs (r.map (ltD M))) = true; rw [wfs_lt M r]; rfl
theorem dep_lt (M : Nat) : ∀ l : List Nat, depthDs (l.map (ltD M)) ≤ 1
  | [] => Nat.zero_le _
  | x :: r => by
    show max (depthD (ltD M x)) (depthDs (r.map (ltD M))) ≤ 1
    exact Nat.max_le.mpr ⟨Nat.le_refl 1, dep_lt M r⟩
theorem same_t {ds : List D} (b : Box) (h : wfs ds = true) (hl : ds.length ≤ 10000) (g : depthDs ds ≤ 70) : F__law_same [.lst ds, .lst ds] b = .ok (.bl true) b :=
  at_same b (by show (decide (ds.length ≤ 10000) && wfs ds) = true; rw [decide_eq_true hl, h]; rfl) (by show depthDs ds + 1 ≤ 80; omega)
theorem comp2_74 {ns : List Nat} {k : Nat} (h : ROW k ns) (hk : k ≤ 20) (d : D) (v2 v4 v5 v6 v7 v8 v11 v12 v13 v14 v15 : SV) (b : Box) (hv : v14.own = false) :
    cm_law_2 A T (s74 d .bx ns v2 v4 v5 v6 v7 v8 (.d (.int (mx ns : Int))) (.d (.lst ((sm ns).map natD))) v11 v12 v13 v14 v15 b) = .ok ((sm ns).map (ltD (mx ns))) (s74 d .bx ns v2 v4 v5 v6 v7 v8 (.d (.int (mx ns : Int))) (.d (.lst ((sm ns).map natD))) v11 v12 v13 v14 v15 b) := by
  have hmx := h.mx
  have hn := h.n
  unfold cm_law_2
  have it : iSeq (rd 10) (s74 d .bx ns v2 v4 v5 v6 v7 v8 (.d (.int (mx ns : Int))) (.d (.lst ((sm ns).map natD))) v11 v12 v13 v14 v15 b) = .ok ((sm ns).map natD) (s74 d .bx ns v2 v4 v5 v6 v7 v8 (.d (.int (mx ns : Int))) (.d (.lst ((sm ns).map natD))) v11 v12 v13 v14 v15 b) := by simp (disch := first | assumption | omega | (simp only [List.length_cons, List.length_nil, List.length_map, List.length_append, List.length_range, List.length_reverse, List.length_replicate] <;> omega)) only [EV0, EV1, EV2, EV3, EV4, EV5, EV6, EV7, EV8, EV9, EV10, DATc, DATd, EVw, ofO_s, List.getD_cons_zero, List.getD_cons_succ, List.set_cons_zero, List.set_cons_succ, Bool.not_true, Bool.not_false, Option.map_some, decide_true, decide_false]
  have e : (sm ns).map (ltD (mx ns)) = ((sm ns).map natD).map fun d => match d with | .int x => ltD (mx ns) x.toNat | _ => .non := by
    rw [List.map_map]
    rfl
  rw [e]
  refine comp_map _ it (by show (!v14.own && true) = true; rw [hv]; rfl) (fun x hx => ?_) (small_line (by rw [nats_len, sm_len]; omega))
  obtain ⟨j, hj, rfl⟩ := List.mem_map.mp hx
  refine ⟨_, rfl, ?_, rfl⟩
  simp (disch := first | assumption | omega | (simp only [List.length_cons, List.length_nil, List.length_map, List.length_append, List.length_range, List.length_reverse, List.length_replicate] <;> omega)) only [EV0, EV1, EV2, EV3, EV4, EV5, EV6, EV7, EV8, EV9, EV10, DATc, DATd, EVw, ofO_s, List.getD_cons_zero, List.getD_cons_succ, List.set_cons_zero, List.set_cons_succ, Bool.not_true, Bool.not_false, Option.map_some, decide_true, decide_false, natD_eq, at_law_share (a := j) (p := mx ns) b (by omega)]
  rfl
theorem comp3_74 {ns : List Nat} {k : Nat} (h : ROW k ns) (hk : k ≤ 20) (d : D) (v2 v4 v5 v6 v7 v8 v10 v11 v12 v13 v14 v15 : SV) (b : Box) (hv : v7.own = false) :
    cm_law_3 A T (s74 d .bx ns v2 v4 v5 v6 v7 v8 (.d (.int (mx ns : Int))) v10 v11 v12 v13 v14 v15 b) = .ok ((ns.map fun n => 2 ^ (mx ns - n)).map natD) (s74 d .bx ns v2 v4 v5 v6 v7 v8 (.d (.int (mx ns : Int))) v10 v11 v12 v13 v14 v15 b) := by
  have hmx := h.mx
  have hn := h.n
  unfold cm_law_3
  have it : iSeq (rd 3) (s74 d .bx ns v2 v4 v5 v6 v7 v8 (.d (.int (mx ns : Int))) v10 v11 v12 v13 v14 v15 b) = .ok (ns.map natD) (s74 d .bx ns v2 v4 v5 v6 v7 v8 (.d (.int (mx ns : Int))) v10 v11 v12 v13 v14 v15 b) := by simp (disch := first | assumption | omega | (simp only [List.length_cons, List.length_nil, List.length_map, List.length_append, List.length_range, List.length_reverse, List.length_replicate] <;> omega)) only [EV0, EV1, EV2, EV3, EV4, EV5, EV6, EV7, EV8, EV9, EV10, DATc, DATd, EVw, ofO_s, List.getD_cons_zero, List.getD_cons_succ, List.set_cons_zero, List.set_cons_succ, Bool.not_true, Bool.not_false, Option.map_some, decide_true, decide_false]
  have e : (ns.map fun n => 2 ^ (mx ns - n)).map natD = (ns.map natD).map fun d => match d with | .int x => natD (2 ^ (mx ns - x.toNat)) | _ => .non := by
    rw [List.map_map, List.map_map]
    rfl
  rw [e]
  refine comp_map _ it (by show (!v7.own && true) = true; rw [hv]; rfl) (fun x hx => ?_) (small_line (by rw [nats_len]; omega))
  obtain ⟨j, hj, rfl⟩ := List.mem_map.mp hx
  have := mx_le hj
  refine ⟨_, rfl, ?_, rfl⟩
  simp (disch := first | assumption | omega | (simp only [List.length_cons, List.length_nil, List.length_map, List.length_append, List.length_range, List.length_reverse, List.length_replicate] <;> omega)) only [EV0, EV1, EV2, EV3, EV4, EV5, EV6, EV7, EV8, EV9, EV10, DATc, DATd, EVw, ofO_s, List.getD_cons_zero, List.getD_cons_succ, List.set_cons_zero, List.set_cons_succ, Bool.not_true, Bool.not_false, Option.map_some, decide_true, decide_false, natD_eq, show (mx ns : Int) - (j : Int) = ((mx ns - j : Nat) : Int) by omega, at_law_two (n := mx ns - j) b (by omega)]
  rfl
theorem comp4_74 {ns : List Nat} {k : Nat} (h : ROW k ns) (hk : k ≤ 20) (d : D) (v2 v4 v5 v6 v7 v8 v9 v10 v11 v12 v13 v14 v15 : SV) (b : Box) (hv : v14.own = false) :
    cm_law_4 A T (s74 d .bx ns v2 v4 v5 v6 v7 v8 v9 v10 v11 v12 v13 v14 v15 b) = .ok ((ns.map (· + 1)).map natD) (s74 d .bx ns v2 v4 v5 v6 v7 v8 v9 v10 v11 v12 v13 v14 v15 b) := by
  have hn := h.n
  unfold cm_law_4
  have it : iSeq (rd 3) (s74 d .bx ns v2 v4 v5 v6 v7 v8 v9 v10 v11 v12 v13 v14 v15 b) = .ok (ns.map natD) (s74 d .bx ns v2 v4 v5 v6 v7 v8 v9 v10 v11 v12 v13 v14 v15 b) := by simp (disch := first | assumption | omega | (simp only [List.length_cons, List.length_nil, List.length_map, List.length_append, List.length_range, List.length_reverse, List.length_replicate] <;> omega)) only [EV0, EV1, EV2, EV3, EV4, EV5, EV6, EV7, EV8, EV9, EV10, DATc, DATd, EVw, ofO_s, List.getD_cons_zero, List.getD_cons_succ, List.set_cons_zero, List.set_cons_succ, Bool.not_true, Bool.not_false, Option.map_some, decide_true, decide_false]
  have e : (ns.map (· + 1)).map natD = (ns.map natD).map fun d => match d with | .int x => natD (x.toNat + 1) | _ => .non := by
    rw [List.map_map, List.map_map]
    rfl
  rw [e]
  refine comp_map _ it (by show (!v14.own && true) = true; rw [hv]; rfl) (fun x hx => ?_) (small_line (by rw [nats_len]; omega))
  obtain ⟨j, hj, rfl⟩ := List.mem_map.mp hx
  refine ⟨_, rfl, ?_, rfl⟩
  simp (disch := first | assumption | omega | (simp only [List.length_cons, List.length_nil, List.length_map, List.length_append, List.length_range, List.length_reverse, List.length_replicate] <;> omega)) only [EV0, EV1, EV2, EV3, EV4, EV5, EV6, EV7, EV8, EV9, EV10, DATc, DATd, EVw, ofO_s, List.getD_cons_zero, List.getD_cons_succ, List.set_cons_zero, List.set_cons_succ, Bool.not_true, Bool.not_false, Option.map_some, decide_true, decide_false, natD_eq]
  rfl
theorem set_mem {ns : List Nat} {k v n : Nat} (h : n ∈ ns.set k v) : n ∈ ns ∨ n = v := List.mem_or_eq_of_mem_set h
theorem raised_le {ns : List Nat} {m : Nat} (h : ∀ n ∈ ns, n ≤ m) : ∀ n ∈ raisedF ns, n ≤ m + 1 := fun n hn => by
  have g : ∀ {xs ys : List Nat}, Le2 xs ys → ∀ y ∈ ys, True := fun _ _ _ => trivial
  cases ns with
  | nil => cases hn
  | cons x r =>
    rcases List.eq_nil_or_concat r with e | ⟨r', z, e⟩
    · subst e
      have : n ∈ [x] := hn
      rw [List.mem_singleton.mp this]
      have := h x List.mem_cons_self
      omega
    · rw [List.concat_eq_append] at e
      subst e
      rw [raisedF_2] at hn
      rcases List.mem_cons.mp hn with z1 | z1
      · rw [z1]; have := h x List.mem_cons_self; omega
      · rcases List.mem_append.mp z1 with z2 | z2
        · obtain ⟨q, hq, rfl⟩ := List.mem_map.mp z2
          have := h q (List.mem_cons_of_mem _ (List.mem_append_left _ hq)); omega
        · rw [List.mem_singleton.mp z2]; have := h z (List.mem_cons_of_mem _ (List.mem_append_right _ List.mem_cons_self)); omega
theorem raised_len (ns : List Nat) : (raisedF ns).length = ns.length := by
  cases ns with
  | nil => rfl
  | cons x r =>
    rcases List.eq_nil_or_concat r with e | ⟨r', z, e⟩
    · subst e; rfl
    · rw [List.concat_eq_append] at e
      subst e
      rw [raisedF_2]
      simp

theorem len_of {ns xs : List Nat} {k : Nat} (h : ROW k ns) (hk : k ≤ 20) (ne : xs ≠ []) (hl : xs.length ≤ ns.length) (hm : ∀ n ∈ xs, n ≤ 14) : LEN xs := ⟨ne, by have := h.n; omega, fun n hn => by have := hm n hn; omega⟩
theorem have_t {xs : List Nat} (b : Box) (h : LEN xs) (f : Fit xs) : F_have_code A [.tup (xs.map natD)] b = .ok (.bl true) b := by
  rw [at_have_code b h, (isNone_fit h.1 (by have := h.q.mx; omega)).mpr f]
theorem lap_74 (oA : A.ok) (hT : T (A.fn "shortest_next") = some (1, F_shortest_next A)) (d : D) (v2 v3 v4 v5 v6 v7 v8 v9 v10 v11 v12 v13 v14 v15 : SV) (b : Box) (m : Nat) (hv7 : v7.own = false) (hv14 : v14.own = false) (ob : okB b (m + 30)) :
    ∃ v3' v4' v5' v6' v7' v8' v9' v10' v11' v12' v13' v14' v15' b', lp_law_5 A T ⟨[.d d, .bx, v2, v3, v4, v5, v6, v7, v8, v9, v10, v11, v12, v13, v14, v15], b⟩ = .nx ⟨[.d d, .bx, v2, v3', v4', v5', v6', v7', v8', v9', v10', v11', v12', v13', v14', v15'], b'⟩ ∧ okB b' m ∧ v7'.own = false ∧ v14'.own = false := by
  obtain ⟨t5, b0, d5, l5, o5⟩ := a_take (n := 5) (k := m + 29) (b := b) (by decide) (by decide) ob
  have d5' : F__law_take [.box, .int 5] b = .ok (.int (t5 : Int)) b0 := d5
  have r1 : ROW 1 [1 + t5] := ⟨by simp, Nat.le_refl 1, fun n hn => by rw [List.mem_singleton.mp hn]; omega, (fit_gl (M := 1 + t5) (fun n hn => by rw [List.mem_singleton.mp hn]; exact Nat.le_refl _) (by omega)).mpr (by
    show up 0 (2 ^ (1 + t5 - (1 + t5))) + 2 ^ (1 + t5 - (1 + t5)) ≤ 2 ^ (1 + t5)
    rw [Nat.sub_self]
    have := pow_pos2 (1 + t5)
    show 0 + 1 ≤ _
    omega)⟩
  obtain ⟨ns, w4, w8, w13, w14, w15, b1, e1, h, o1, g1⟩ := turns (A := A) (T := T) oA hT d v2 v5 v6 v7 v9 v10 v11 v12 hv7 (m + 3) (List.range 13) [1 + t5] 1 v4 v8 v13 v14 v15 b0 r1 (by rw [List.length_range]; omega) (o5.less (by rw [List.length_range]; omega)) hv14
  rw [List.length_range] at h
  have e1' : sForL (gN 4) (lp_law_1 A T) ((List.range 13).map natD) ⟨[.d d, .bx, v2, .d (.tup [natD (1 + t5)]), v4, v5, v6, v7, v8, v9, v10, v11, v12, v13, v14, v15], b0⟩ = _ := e1
  have first : dAdd (.int 1) (.int (t5 : Int)) = some (natD (1 + t5)) := by
    show some (D.int (1 + (t5 : Int))) = _
    rw [show (1 : Int) + (t5 : Int) = ((1 + t5 : Nat) : Int) by omega]
    rfl
  have rg13 : rgD 0 ((13 : Int)).toNat = (List.range 13).map natD := rfl
  have hl := h.len (by omega)
  have hmx := h.mx
  have hn := h.n
  have hpos : 0 < ns.length := List.length_pos_iff.mpr h.ne
  have lens : (ns.map natD).length = ns.length := nats_len ns
  obtain ⟨ta, b2, da, la, o2⟩ := a_take (n := ns.length) (k := m + 2) (b := b1) hpos (by omega) o1
  obtain ⟨tb, b3, db, lb, o3⟩ := a_take (n := ns.length - ta) (k := m + 1) (b := b2) (by omega) (by omega) o2
  obtain ⟨tk, b4, dk, lk, o4⟩ := a_take (n := ns.length) (k := m) (b := b3) hpos (by omega) o3
  have max1 := maxNT h.ne
  have sums := at_law_sums b1 h.ne (by omega) (by omega)
  have hv := have_t (A := A) b1 hl h.f
  have ls := at_length_sums (A := A) b1 hl
  have c2 := comp2_74 (A := A) (T := T) h (by omega) d v2 w4 v5 v6 v7 w8 v11 v12 w13 w14 w15 b1 g1
  have s1 := same_t (ds := [.bl true, .tup ((sm ns).map (ltD (mx ns)))]) b1 (by
    show (true && ((decide (((sm ns).map (ltD (mx ns))).length ≤ 10000) && wfs ((sm ns).map (ltD (mx ns)))) && true)) = true
    rw [wfs_lt, List.length_map, sm_len, decide_eq_true (by omega)]; rfl) (by show 2 ≤ _; omega) (by
    show max 0 (max (depthDs ((sm ns).map (ltD (mx ns))) + 1) 0) ≤ 70
    have := dep_lt (mx ns) (sm ns)
    omega)
  have nb : bar ns = none := (bar_fit h.ne (by omega)).mpr h.f
  have lsg := lastS_gl h.ne
  have tl : tot (mx ns) ns ≤ lastS ns := by rw [lsg]; have := tot_gl (mx ns) ns 0; omega
  have l2 : lastS ns ≤ 2 ^ mx ns := by rw [lsg]; exact (fit_gl (fun n hn => mx_le hn) (by omega)).mp h.f
  have wa := at_wasted (A := A) b1 hl tl
  have ro := at_room_left (A := A) b1 hl l2 nb
  have lst := sm_last h.ne
  have c3 := comp3_74 (A := A) (T := T) h (by omega) d v2 w4 v5 v6 v7 w8 (.d (.lst ((sm ns).map natD))) v11 v12 w13 w14 w15 b1 hv7
  have sum3 := sumNL (ns.map fun n => 2 ^ (mx ns - n))
  have i3 : (lastS ns : Int) - ((ns.map fun n => 2 ^ (mx ns - n)).sum : Nat) = ((lastS ns - tot (mx ns) ns : Nat) : Int) := by
    show (lastS ns : Int) - (tot (mx ns) ns : Nat) = _
    omega
  have sh3 := at_law_share (a := lastS ns - tot (mx ns) ns) (p := mx ns) b1 (by omega)
  have s2 : ∀ x, F__law_same [.lst [ltD (mx ns) x], .lst [ltD (mx ns) x]] b1 = .ok (.bl true) b1 := fun x => same_t b1 rfl (by show 1 ≤ _; omega) (by show 1 ≤ 70; omega)
  have two1 := at_law_two (n := mx ns) b1 (by omega)
  have i4 : ((2 ^ mx ns : Nat) : Int) - (lastS ns : Int) = ((2 ^ mx ns - lastS ns : Nat) : Int) := by omega
  have sh4 := at_law_share (a := 2 ^ mx ns - lastS ns) (p := mx ns) b1 (by omega)
  have i5 : (ns.length : Int) - (ta : Int) = ((ns.length - ta : Nat) : Int) := by omega
  have i6 : (ta : Int) + 1 + (tb : Int) = ((ta + 1 + tb : Nat) : Int) := by omega
  have m13 : ∀ {n}, n ∈ ns → n ≤ 14 := fun hn => by have := h.l _ hn; omega
  have hA := have_t (A := A) b3 (len_of h (by omega) (xs := ns.take (ta + 1 + tb)) (by
    intro z
    have := congrArg List.length z
    rw [List.length_take, List.length_nil] at this
    omega) (by rw [List.length_take]; omega) fun n hn => m13 (List.mem_of_mem_take hn)) (h.f.take _)
  have hB := have_t (A := A) b3 (len_of h (by omega) (xs := (ns.take (ta + 1 + tb)).drop ta) (by
    intro z
    have := congrArg List.length z
    rw [List.length_drop, List.length_take, List.length_nil] at this
    omega) (by rw [List.length_drop, List.length_take]; omega) fun n hn => m13 (List.mem_of_mem_take (List.mem_of_mem_drop hn))) ((h.f.take _).drop _)
  have lrev : LEN ns.reverse := len_of h (by omega) (by simpa using h.ne) (by rw [List.length_reverse]; exact Nat.le_refl _) fun n hn => m13 (List.mem_reverse.mp hn)
  have hC := have_t (A := A) b3 lrev h.f.rev
  have barr := at_law_bar (ns := ns.reverse) b3 lrev.1 (by rw [List.length_reverse]; omega) (by have := lrev.q.mx; omega)
  have rv : (ns.map natD).reverse = ns.reverse.map natD := List.map_reverse.symm
  have isr : (bar ns.reverse).isNone = true := (isNone_fit lrev.1 (by have := lrev.q.mx; omega)).mpr h.f.rev
  have c1A : Pv.cutD (ns.map natD) none (some ((ta + 1 + tb : Nat) : Int)) = (ns.take (ta + 1 + tb)).map natD := by rw [cut_hi, List.map_take]
  have c1B : Pv.cutD (ns.map natD) (some (ta : Int)) (some ((ta + 1 + tb : Nat) : Int)) = ((ns.take (ta + 1 + tb)).drop ta).map natD := by rw [cut_mid, List.map_drop, List.map_take]
  have s3 : ∀ b, F__law_same [.lst [.bl true, .bl true, .bl true], .lst [.bl true, .bl true, .bl true]] b = .ok (.bl true) b := fun b => same_t b rfl (by show 3 ≤ _; omega) (by show 0 ≤ 70; omega)
  have lc := lwT_ok (A := A) b3 hl h.f
  have cd := lws_CODE hl h.f
  have mi := at_mirrored_code (A := A) b3 cd
  have cl := at_code_lengths (A := A) b3 (mirr_CODE cd)
  rw [mirr_len, lws_len] at cl
  have s4 : F__law_same [.tup (ns.reverse.map natD), .tup (ns.reverse.map natD)] b3 = .ok (.bl true) b3 := at_same b3 (row_wf (by rw [List.length_reverse]; omega)) (by rw [row_dep]; omega)
  have c4 := comp4_74 (A := A) (T := T) h (by omega) d v2 w4 (.d (.int (ta : Int))) (.d (.int ((ta + 1 + tb : Nat) : Int))) (.d (.int (tk : Int))) w8 (.d (.int (mx ns : Int))) (.d (.lst ((sm ns).map natD))) v11 v12 w13 w14 w15 b4 g1
  have hD := have_t (A := A) b4 (len_of h (by omega) (xs := ns.map (· + 1)) (by simpa using h.ne) (by rw [List.length_map]; exact Nat.le_refl _) fun n hn => by
    obtain ⟨q, hq, rfl⟩ := List.mem_map.mp hn
    have := h.l q hq
    show q + 1 ≤ 14
    omega) (h.f.pt (f2_map (fun n => Nat.le_succ n) ns))
  have ra := at_raised (A := A) b4 hl fun n hn => by have := raised_le h.l n hn; omega
  have hE := have_t (A := A) b4 (len_of h (by omega) (xs := raisedF ns) (by
    intro z
    have := congrArg List.length z
    rw [raised_len, List.length_nil] at this
    omega) (by rw [raised_len]; exact Nat.le_refl _) fun n hn => raised_le h.l n hn) (h.f.pt (f2_raised ns))
  have atk : atI (ns.map natD) (tk : Int) = some (.int (ns.getD tk 0 : Nat)) := by
    rw [atI_nat, List.getElem?_map, List.getElem?_eq_getElem lk, List.getD_eq_getElem?_getD, List.getElem?_eq_getElem lk]
    rfl
  have i7 : ((ns.getD tk 0 : Nat) : Int) + 1 = ((ns.getD tk 0 + 1 : Nat) : Int) := by omega
  have pu := at_law_put (ns := ns) (k := tk) (v := ns.getD tk 0 + 1) b4 lk (by omega)
  have gk : ns.getD tk 0 ≤ 13 := by
    rw [List.getD_eq_getElem?_getD, List.getElem?_eq_getElem lk]
    exact h.l _ (List.getElem_mem lk)
  have hF := have_t (A := A) b4 (len_of h (by omega) (xs := ns.set tk (ns.getD tk 0 + 1)) (by
    intro z
    have := congrArg List.length z
    rw [List.length_set, List.length_nil] at this
    omega) (by rw [List.length_set]; exact Nat.le_refl _) fun n hn => by
      rcases set_mem hn with z | z
      · exact m13 z
      · omega) (h.f.pt (f2_set ns tk _ (Nat.le_succ _)))
  have lsh := at_lengths_share (A := A) b4 hl
  have lle : (ltm (tot (mx ns) ns) (mx ns)).1 ≤ 2 ^ (ltm (tot (mx ns) ns) (mx ns)).2 := ltm_le (by omega)
  have lv := ltm_val (mx ns) (tot (mx ns) ns)
  have lw := left_whole h.f (by omega)
  have whole := ltm_whole (mx ns) (tot (mx ns) ns)
  have lft := at_left_of_stack (A := A) b4 hl
  generalize hAP : ltm (tot (mx ns) ns) (mx ns) = ap at *
  obtain ⟨ab, pw⟩ := ap
  have two2 := at_law_two (n := pw) b4 (by have := lv.1; omega)
  have gt2 : decide (((2 ^ pw : Nat) : Int) < (ab : Int)) = false := decide_eq_false (by
    have lle' : ab ≤ 2 ^ pw := lle
    omega)
  generalize hQ : (stk ns 0 []).reverse.map Prod.fst = Q at lw lft
  have eqQ : dEq (.tup (Q.map natD)) (.tup [.int 0]) = some (decide (Q = [0])) := eqNT Q [0]
  have eqP : dEq (.tup [.int (ab : Int), .int (pw : Int)]) (.tup [.int 1, .int 0]) = some (decide ([ab, pw] = [1, 0])) := eqNT [ab, pw] [1, 0]
  have same : decide ([ab, pw] = [1, 0]) = decide (Q = [0]) := by
    have : ([ab, pw] = [1, 0]) ↔ Q = [0] := by
      rw [lw, ← whole]
      simp
    by_cases c : Q = [0]
    · rw [decide_eq_true c, decide_eq_true (this.mpr c)]
    · rw [decide_eq_false c, decide_eq_false fun z => c (this.mp z)]
  rw [same] at eqP
  have eqB : ∀ x : Bool, dEq (.bl x) (.bl x) = some true := fun x => by cases x <;> rfl
  refine ⟨.d (.tup (ns.map natD)), w4, .d (.int (ta : Int)), .d (.int ((ta + 1 + tb : Nat) : Int)), .d (.int (tk : Int)), w8, .d (.int (mx ns : Int)), .d (.lst ((sm ns).map natD)), .d (.int (ab : Int)), .d (.int (pw : Int)), w13, w14, w15, b4, ?_, o4, rfl, g1⟩
  · unfold lp_law_5
    simp (disch := first | assumption | omega | (simp only [List.length_cons, List.length_nil, List.length_map, List.length_append, List.length_range, List.length_reverse, List.length_replicate] <;> omega)) only [EV0, EV1, EV2, EV3, EV4, EV5, EV6, EV7, EV8, EV9, EV10, DATc, DATd, EVw, ofO_s, List.getD_cons_zero, List.getD_cons_succ, List.set_cons_zero, List.set_cons_succ, Bool.not_true, Bool.not_false, Option.map_some, decide_true, decide_false, asg2, d5', first, rg13, e1', max1, sums, hv, ls, c2, s1, wa, lst, c3, sum3, i3, sh3, s2, ro, two1, i4, sh4, lens, da, i5, db, i6, c1A, c1B, hA, hB, hC, rv, barr, isN_opt, isr, s3, lc, mi, cl, s4, dk, c4, hD, ra, hE, atk, i7, pu, hF, lsh, two2, gt2, lft, eqQ, eqP, eqB]

theorem laps_74 (oA : A.ok) (hT : T (A.fn "shortest_next") = some (1, F_shortest_next A)) (d : D) : ∀ (l : List Nat) (v2 v3 v4 v5 v6 v7 v8 v9 v10 v11 v12 v13 v14 v15 : SV) (b : Box), v7.own = false → v14.own = false → okB b (30 * l.length) →
    ∃ s1, sForL (gN 2) (lp_law_5 A T) (l.map natD) ⟨[.d d, .bx, v2, v3, v4, v5, v6, v7, v8, v9, v10, v11, v12, v13, v14, v15], b⟩ = .nx s1
  | [], v2, v3, v4, v5, v6, v7, v8, v9, v10, v11, v12, v13, v14, v15, b, _, _, _ => ⟨_, rfl⟩
  | x :: r, v2, v3, v4, v5, v6, v7, v8, v9, v10, v11, v12, v13, v14, v15, b, h7, h14, ob => by
    rw [List.length_cons] at ob
    obtain ⟨u3, u4, u5, u6, u7, u8, u9, u10, u11, u12, u13, u14, u15, b1, e1, o1, g7, g14⟩ := lap_74 (A := A) (T := T) oA hT d (.d (natD x)) v3 v4 v5 v6 v7 v8 v9 v10 v11 v12 v13 v14 v15 b (30 * r.length) h7 h14 (ob.less (by omega))
    obtain ⟨s1, e2⟩ := laps_74 oA hT d r (.d (natD x)) u3 u4 u5 u6 u7 u8 u9 u10 u11 u12 u13 u14 u15 b1 g7 g14 o1
    exact ⟨s1, Eq.trans (for_cons rfl e1) e2⟩
theorem e_law_k74 (oA : A.ok) (hT : T (A.fn "shortest_next") = some (1, F_shortest_next A)) (ns : List Int) (hl : ns.length ≤ 63) :
    ∃ s1, m_law A T ⟨[.d (.scr ns), .no, .no, .no, .no, .no, .no, .no, .no, .no, .no, .no, .no, .no, .no, .no], (0, 0, 0)⟩ = .rt (.bl true) s1 := by
  obtain ⟨s1, e⟩ := laps_74 (A := A) (T := T) oA hT (.scr ns) (List.range 3) .no .no .no .no .no .no .no .no .no .no .no .no .no .no (boxOf (cells ns)) rfl rfl (show okB (boxOf (cells ns)) 90 from ⟨Int.le_refl 0, by show (0 : Int) + 90 ≤ 100000; omega⟩)
  have bx : sBox 1 B__law_box (aCons (mCall F__law_cells (aCons (rd 0) (aCons (con (.int 1)) aNil))) (aCons (con (.int 0)) aNil)) ⟨[.d (.scr ns), .no, .no, .no, .no, .no, .no, .no, .no, .no, .no, .no, .no, .no, .no, .no], (0, 0, 0)⟩
      = .nx ⟨[.d (.scr ns), .bx, .no, .no, .no, .no, .no, .no, .no, .no, .no, .no, .no, .no, .no, .no], boxOf (cells ns)⟩ := by
    unfold sBox
    have c := at_cells ns (0, 0, 0) hl
    have e : (aCons (mCall F__law_cells (aCons (rd 0) (aCons (con (.int 1)) aNil))) (aCons (con (.int 0)) aNil)) (⟨[.d (.scr ns), .no, .no, .no, .no, .no, .no, .no, .no, .no, .no, .no, .no, .no, .no, .no], (0, 0, 0)⟩ : S) = .ok [.lst [.int (cells ns)], .int 0] ⟨[.d (.scr ns), .no, .no, .no, .no, .no, .no, .no, .no, .no, .no, .no, .no, .no, .no, .no], (0, 0, 0)⟩ := by simp (disch := first | assumption | omega | (simp only [List.length_cons, List.length_nil, List.length_map, List.length_append, List.length_range, List.length_reverse, List.length_replicate] <;> omega)) only [EV0, EV1, EV2, EV3, EV4, EV5, EV6, EV7, EV8, EV9, EV10, DATc, DATd, EVw, ofO_s, List.getD_cons_zero, List.getD_cons_succ, List.set_cons_zero, List.set_cons_succ, Bool.not_true, Bool.not_false, Option.map_some, decide_true, decide_false, c]
    rw [e]
    rfl
  have rg3 : rgD 0 ((3 : Int)).toNat = (List.range 3).map natD := rfl
  refine ⟨s1, ?_⟩
  unfold m_law
  simp (disch := first | assumption | omega | (simp only [List.length_cons, List.length_nil, List.length_map, List.length_append, List.length_range, List.length_reverse, List.length_replicate] <;> omega)) only [EV0, EV1, EV2, EV3, EV4, EV5, EV6, EV7, EV8, EV9, EV10, DATc, DATd, EVw, ofO_s, List.getD_cons_zero, List.getD_cons_succ, List.set_cons_zero, List.set_cons_succ, Bool.not_true, Bool.not_false, Option.map_some, decide_true, decide_false, bx, rg3, e]
end
end K
end L_k74_

section D_k74_
set_option Elab.async false
set_option linter.all false
set_option maxRecDepth 100000
set_option maxHeartbeats 4000000
namespace K
open PySem PySem.Spec PyProof.Rows L2 Pv
def topS (i : Nat) : Stmt := PySem.Challenge.pw_orderedcodes_k74_main_rows_of_lengths_st.main.body.getD i (.Pass ⟨0, 0, 0, 0⟩)
structure Blt (mg : Str → Option Value) : Prop where
  b_ValueError : mg "ValueError" = none
  b_abs : mg "abs" = none
  b_all : mg "all" = none
  b_any : mg "any" = none
  b_bool : mg "bool" = none
  b_enumerate : mg "enumerate" = none
  b_int : mg "int" = none
  b_isinstance : mg "isinstance" = none
  b_len : mg "len" = none
  b_list : mg "list" = none
  b_max : mg "max" = none
  b_min : mg "min" = none
  b_range : mg "range" = none
  b_sorted : mg "sorted" = none
  b_str : mg "str" = none
  b_sum : mg "sum" = none
  b_tuple : mg "tuple" = none
  b_zip : mg "zip" = none
  g_MOST_LETTERS : ∃ t, mg "MOST_LETTERS" = some (.int 60 t)
  g_MOST_LENGTH : ∃ t, mg "MOST_LENGTH" = some (.int 60 t)
structure Exc (K : PySem.W.Frag) (mg : Str → Option Value) (A : Ad) : Prop where
  B : Cls0 K mg "BadText" A.B
  C : ClsE K mg "CanNot" A.C
  M : ClsE K mg "TooMany" A.M
  U : ClsE K mg "Unfit" A.U
structure Dr (mg : Str → Option Value) (A : Ad) : Prop where
  f_shortest_next : mg "shortest_next" = some (.ref (A.fn "shortest_next"))
abbrev st_is_number : Stmt := topS 6
theorem sc_is_number : FnScope ["thing"] ["thing"] (defScope st_is_number) := ⟨rfl, rfl, rfl, by decide +kernel, rfl, by decide +kernel, by decide +kernel⟩
theorem d_is_number {P : Program} {w : World} {K : PySem.W.Frag} {mg : Str → Option Value} {base : Heap} {k : Nat} (bl : Blt mg)  (cdv : Value) (Ar : Around) (outer : List Env) (s : Shared) (H : Hp) (E : XK) (f : Addr) (B : Bd (cxOf (L2.CX P w) P w K mg base ["thing"] "is_number" (defScope st_is_number) f cdv Ar outer s H E) (fun c d _ H => E c d H) k) :
    PSs (cxOf (L2.CX P w) P w K mg base ["thing"] "is_number" (defScope st_is_number) f cdv Ar outer s H E) (defBody st_is_number) (tS K (fun c d _ H => E c d H) (m_is_number )) :=
  have hr := B.hr
  have hu := Room.units B.hr
  have hu5 := room65 B.hr
  have nd := sc_is_number.nd
  s_one (s_ret (q_and (q_isi rfl bl.b_isinstance (q_lendN 0) rfl bl.b_int (by decide +kernel) (by decide)) (q_one (q_not (q_isi rfl bl.b_isinstance (q_lendN 0) rfl bl.b_bool (by decide +kernel) (by decide))))))

abbrev st_is_within : Stmt := topS 7
theorem sc_is_within : FnScope ["thing", "least", "most"] ["thing", "least", "most"] (defScope st_is_within) := ⟨rfl, rfl, rfl, by decide +kernel, rfl, by decide +kernel, by decide +kernel⟩
theorem d_is_within {P : Program} {w : World} {K : PySem.W.Frag} {mg : Str → Option Value} {base : Heap} {k : Nat} (bl : Blt mg) (h_is_number : Has P w K mg base "is_number" 1 k (F_is_number)) (cdv : Value) (Ar : Around) (outer : List Env) (s : Shared) (H : Hp) (E : XK) (f : Addr) (B : Bd (cxOf (L2.CX P w) P w K mg base ["thing", "least", "most"] "is_within" (defScope st_is_within) f cdv Ar outer s H E) (fun c d _ H => E c d H) k) :
    PSs (cxOf (L2.CX P w) P w K mg base ["thing", "least", "most"] "is_within" (defScope st_is_within) f cdv Ar outer s H E) (defBody st_is_within) (tS K (fun c d _ H => E c d H) (m_is_within )) :=
  have hr := B.hr
  have hu := Room.units B.hr
  have hu5 := room65 B.hr
  have nd := sc_is_within.nd
  s_one (s_ret (q_and (q_callH h_is_number hr B.tk rfl (a_cons (q_rd 0) (a_nil)) (aCons_len aNil_len)) (q_one (q_chain op_leA (ord_ok _ _) op_leA (ord_ok _ _) (q_rd 1) (q_rd 0) (q_rd 2)))))

abbrev st_tupled : Stmt := topS 8
theorem sc_tupled : FnScope ["value", "own"] ["value"] (defScope st_tupled) := ⟨rfl, rfl, rfl, by decide +kernel, rfl, by decide +kernel, by decide +kernel⟩
theorem d_tupled {P : Program} {w : World} {K : PySem.W.Frag} {mg : Str → Option Value} {base : Heap} {k : Nat} {rec : Fn} (bl : Blt mg) (h_tupled : Has P w K mg base "tupled" 1 k (rec)) (cdv : Value) (Ar : Around) (outer : List Env) (s : Shared) (H : Hp) (E : XK) (f : Addr) (B : Bd (cxOf (L2.CX P w) P w K mg base ["value", "own"] "tupled" (defScope st_tupled) f cdv Ar outer s H E) (fun c d _ H => E c d H) k) :
    PSs (cxOf (L2.CX P w) P w K mg base ["value", "own"] "tupled" (defScope st_tupled) f cdv Ar outer s H E) (defBody st_tupled) (tS K (fun c d _ H => E c d H) (m_tupled rec)) :=
  have hr := B.hr
  have hu := Room.units B.hr
  have hu5 := room65 B.hr
  have nd := sc_tupled.nd
  s_one (s_ret (q_if (t_val (q_isi2 rfl bl.b_isinstance (q_lendN 0) rfl bl.b_list (by decide +kernel) (by decide) rfl bl.b_tuple (by decide +kernel) (by decide))) (q_tuple rfl bl.b_tuple (q_lendF (f_comp (own := [("own", 1)]) rfl nd (i_seq (q_rd 0)) (blkOk_by (N := ["value", "own"]) (sc := defScope st_tupled) (by decide +kernel)) (by decide) (fun _ _ _ _ _ => g_name (i := 1) nd rfl (.inl rfl)) (fun _ _ _ _ _ => ts_nil) (fun _ _ _ _ _ => q_callH h_tupled hr takes_none5 rfl (a_cons (q_rd 1) (a_nil)) (aCons_len aNil_len))))) (q_rd 0)))

abbrev st_power_of_two : Stmt := topS 9
theorem sc_power_of_two : FnScope ["many", "found", "turn"] ["many"] (defScope st_power_of_two) := ⟨rfl, rfl, rfl, by decide +kernel, rfl, by decide +kernel, by decide +kernel⟩
theorem d_power_of_two {P : Program} {w : World} {K : PySem.W.Frag} {mg : Str → Option Value} {base : Heap} {k : Nat} (bl : Blt mg)  (cdv : Value) (Ar : Around) (outer : List Env) (s : Shared) (H : Hp) (E : XK) (f : Addr) (B : Bd (cxOf (L2.CX P w) P w K mg base ["many", "found", "turn"] "power_of_two" (defScope st_power_of_two) f cdv Ar outer s H E) (fun c d _ H => E c d H) k) :
    PSs (cxOf (L2.CX P w) P w K mg base ["many", "found", "turn"] "power_of_two" (defScope st_power_of_two) f cdv Ar outer s H E) (defBody st_power_of_two) (tS K (fun c d _ H => E c d H) (m_power_of_two )) :=
  have hr := B.hr
  have hu := Room.units B.hr
  have hu5 := room65 B.hr
  have nd := sc_power_of_two.nd
  s_cons (s_set (i := 1) nd rfl (.inl rfl) (q_int))
 (s_cons (s_for B.po rfl (i_rg1 rfl bl.b_range (q_rd 0)) (g_name (i := 2) nd rfl (.inl rfl))
 (s_one (s_set (i := 1) nd rfl (.inl rfl) (q_mul (q_rd 1) (q_int)))))
 (s_one (s_ret (q_rd 1))))

abbrev st_least_terms : Stmt := topS 10
theorem sc_least_terms : FnScope ["above", "power"] ["above", "power"] (defScope st_least_terms) := ⟨rfl, rfl, rfl, by decide +kernel, rfl, by decide +kernel, by decide +kernel⟩
theorem d_least_terms {P : Program} {w : World} {K : PySem.W.Frag} {mg : Str → Option Value} {base : Heap} {k : Nat} (bl : Blt mg)  (cdv : Value) (Ar : Around) (outer : List Env) (s : Shared) (H : Hp) (E : XK) (f : Addr) (B : Bd (cxOf (L2.CX P w) P w K mg base ["above", "power"] "least_terms" (defScope st_least_terms) f cdv Ar outer s H E) (fun c d _ H => E c d H) k) :
    PSs (cxOf (L2.CX P w) P w K mg base ["above", "power"] "least_terms" (defScope st_least_terms) f cdv Ar outer s H E) (defBody st_least_terms) (tS K (fun c d _ H => E c d H) (m_least_terms )) :=
  have hr := B.hr
  have hu := Room.units B.hr
  have hu5 := room65 B.hr
  have nd := sc_least_terms.nd
  s_cons (s_while 200 B.po (PW.pt (t_and (t_cmp op_gtA (ord_ok _ _) (nobehind _ (by decide) (by decide)) (q_rd 1) (q_int)) (t_and1 (t_cmp (op_eqA hu) eqA_ok (nobehind _ (by decide) (by decide)) (q_mod (q_rd 0) (q_int)) (q_int)))))
 (s_one (s_parV (i := 0) (j := 1) rfl nd rfl rfl (by decide) rfl rfl (v_val (q_div (q_rd 0) (q_int))) (v_val (q_sub (q_rd 1) (q_int))))))
 (s_one (s_ret (q_tup (a_cons (q_rd 0) (a_cons (q_rd 1) (a_nil))))))

abbrev st_is_word_in : Stmt := topS 14
theorem sc_is_word_in : FnScope ["thing", "sign"] ["thing"] (defScope st_is_word_in) := ⟨rfl, rfl, rfl, by decide +kernel, rfl, by decide +kernel, by decide +kernel⟩
theorem d_is_word_in {P : Program} {w : World} {K : PySem.W.Frag} {mg : Str → Option Value} {base : Heap} {k : Nat} (bl : Blt mg)  (cdv : Value) (Ar : Around) (outer : List Env) (s : Shared) (H : Hp) (E : XK) (f : Addr) (B : Bd (cxOf (L2.CX P w) P w K mg base ["thing", "sign"] "is_word_in" (defScope st_is_word_in) f cdv Ar outer s H E) (fun c d _ H => E c d H) k) :
    PSs (cxOf (L2.CX P w) P w K mg base ["thing", "sign"] "is_word_in" (defScope st_is_word_in) f cdv Ar outer s H E) (defBody st_is_word_in) (tS K (fun c d _ H => E c d H) (m_is_word_in )) :=
  have hr := B.hr
  have hu := Room.units B.hr
  have hu5 := room65 B.hr
  have nd := sc_is_word_in.nd
  s_one (s_ret (q_and (q_isi rfl bl.b_isinstance (q_lendN 0) rfl bl.b_str (by decide +kernel) (by decide)) (q_one (q_all rfl rfl bl.b_all (q_lendF (f_comp (own := [("sign", 1)]) rfl nd (i_seq (q_rd 0)) (blkOk_by (N := ["thing", "sign"]) (sc := defScope st_is_word_in) (by decide +kernel)) (by decide) (fun _ _ _ _ _ => g_name (i := 1) nd rfl (.inl rfl)) (fun _ _ _ _ _ => ts_nil) (fun _ _ _ _ _ => q_cmp (op_inA hu5) (inA_ok false) rfl (q_rd 1) (q_tup (a_cons (q_str) (a_cons (q_str) (a_nil)))))))))))

abbrev st_does_begin : Stmt := topS 15
theorem sc_does_begin : FnScope ["one", "other"] ["one", "other"] (defScope st_does_begin) := ⟨rfl, rfl, rfl, by decide +kernel, rfl, by decide +kernel, by decide +kernel⟩
theorem d_does_begin {P : Program} {w : World} {K : PySem.W.Frag} {mg : Str → Option Value} {base : Heap} {k : Nat} (bl : Blt mg)  (cdv : Value) (Ar : Around) (outer : List Env) (s : Shared) (H : Hp) (E : XK) (f : Addr) (B : Bd (cxOf (L2.CX P w) P w K mg base ["one", "other"] "does_begin" (defScope st_does_begin) f cdv Ar outer s H E) (fun c d _ H => E c d H) k) :
    PSs (cxOf (L2.CX P w) P w K mg base ["one", "other"] "does_begin" (defScope st_does_begin) f cdv Ar outer s H E) (defBody st_does_begin) (tS K (fun c d _ H => E c d H) (m_does_begin )) :=
  have hr := B.hr
  have hu := Room.units B.hr
  have hu5 := room65 B.hr
  have nd := sc_does_begin.nd
  s_one (s_ret (q_cmp (op_eqA hu) eqA_ok (nobehind _ (by decide) (by decide)) (q_sl (q_rd 1) (o_no) (o_in (q_len rfl bl.b_len (q_lendN 0)))) (q_rd 0)))

abbrev st_is_code_in : Stmt := topS 16
theorem sc_is_code_in : FnScope ["thing", "one", "other", "own"] ["thing"] (defScope st_is_code_in) := ⟨rfl, rfl, rfl, by decide +kernel, rfl, by decide +kernel, by decide +kernel⟩
theorem d_is_code_in {P : Program} {w : World} {K : PySem.W.Frag} {mg : Str → Option Value} {base : Heap} {k : Nat} (bl : Blt mg) (h_does_begin : Has P w K mg base "does_begin" 2 k (F_does_begin)) (h_is_word_in : Has P w K mg base "is_word_in" 1 k (F_is_word_in)) (cdv : Value) (Ar : Around) (outer : List Env) (s : Shared) (H : Hp) (E : XK) (f : Addr) (B : Bd (cxOf (L2.CX P w) P w K mg base ["thing", "one", "other", "own"] "is_code_in" (defScope st_is_code_in) f cdv Ar outer s H E) (fun c d _ H => E c d H) k) :
    PSs (cxOf (L2.CX P w) P w K mg base ["thing", "one", "other", "own"] "is_code_in" (defScope st_is_code_in) f cdv Ar outer s H E) (defBody st_is_code_in) (tS K (fun c d _ H => E c d H) (m_is_code_in )) :=
  have hr := B.hr
  have hu := Room.units B.hr
  have hu5 := room65 B.hr
  have nd := sc_is_code_in.nd
  s_cons (s_if (PW.pt (t_or (t_not (t_val (q_isi rfl bl.b_isinstance (q_lendN 0) rfl bl.b_tuple (by decide +kernel) (by decide)))) (t_or (t_cmp (op_eqA hu) eqA_ok (nobehind _ (by decide) (by decide)) (q_rd 0) (q_tup (a_nil))) (t_or1 (t_not (t_val (q_all rfl rfl bl.b_all (q_lendF (f_comp (own := [("own", 3)]) rfl nd (i_seq (q_rd 0)) (blkOk_by (N := ["thing", "one", "other", "own"]) (sc := defScope st_is_code_in) (by decide +kernel)) (by decide) (fun _ _ _ _ _ => g_name (i := 3) nd rfl (.inl rfl)) (fun _ _ _ _ _ => ts_nil) (fun _ _ _ _ _ => q_callH h_is_word_in hr takes_none5 rfl (a_cons (q_rd 3) (a_nil)) (aCons_len aNil_len))))))))))) (s_one (s_ret (q_bl))) (s_nil))
 (s_one (s_ret (q_all rfl rfl bl.b_all (q_lendF (f_comp (own := [("one", 1), ("other", 2)]) rfl nd (i_zp rfl bl.b_zip (q_rd 0) (q_sl (q_rd 0) (o_in (q_int)) (o_no))) (blkOk_by (N := ["thing", "one", "other", "own"]) (sc := defScope st_is_code_in) (by decide +kernel)) (by decide) (fun _ _ _ _ _ => g_tup rfl (g_cons (g_name (i := 1) nd rfl (.inl rfl)) (g_cons (g_name (i := 2) nd rfl (.inl rfl)) (g_nil)))) (fun _ _ _ _ _ => ts_nil) (fun _ _ _ _ _ => q_and (q_cmp op_ltA (ord_ok _ _) (nobehind _ (by decide) (by decide)) (q_rd 1) (q_rd 2)) (q_one (q_not (q_callH h_does_begin hr takes_none5 rfl (a_cons (q_rd 1) (a_cons (q_rd 2) (a_nil))) (aCons_len (aCons_len aNil_len)))))))))))

abbrev st_sure_code : Stmt := topS 17
theorem sc_sure_code : FnScope ["value", "own", "word"] ["value"] (defScope st_sure_code) := ⟨rfl, rfl, rfl, by decide +kernel, rfl, by decide +kernel, by decide +kernel⟩
theorem d_sure_code {P : Program} {w : World} {K : PySem.W.Frag} {mg : Str → Option Value} {base : Heap} {k : Nat} {A : Ad} (bl : Blt mg) (ex : Exc K mg A) (dr : Dr mg A) (mt : Mt K A.mt) (h_is_code_in : Has P w K mg base "is_code_in" 1 k (F_is_code_in)) (h_tupled : Has P w K mg base "tupled" 1 k (F_tupled)) (cdv : Value) (Ar : Around) (outer : List Env) (s : Shared) (H : Hp) (E : XK) (f : Addr) (B : Bd (cxOf (L2.CX P w) P w K mg base ["value", "own", "word"] "sure_code" (defScope st_sure_code) f cdv Ar outer s H E) (fun c d _ H => E c d H) k) :
    PSs (cxOf (L2.CX P w) P w K mg base ["value", "own", "word"] "sure_code" (defScope st_sure_code) f cdv Ar outer s H E) (defBody st_sure_code) (tS K (fun c d _ H => E c d H) (m_sure_code A)) :=
  have hr := B.hr
  have hu := Room.units B.hr
  have hu5 := room65 B.hr
  have nd := sc_sure_code.nd
  s_cons (s_set (i := 1) nd rfl (.inl rfl) (q_callH h_tupled hr B.tk rfl (a_cons (q_rd 0) (a_nil)) (aCons_len aNil_len)))
 (s_cons (s_if (PW.pt (t_or (t_not (t_val (q_callH h_is_code_in hr B.tk rfl (a_cons (q_rd 1) (a_nil)) (aCons_len aNil_len)))) (t_or (t_cmp op_gtA (ord_ok _ _) (nobehind _ (by decide) (by decide)) (q_len rfl bl.b_len (q_lendN 1)) (q_gintE rfl bl.g_MOST_LETTERS)) (t_or1 (t_cmp op_gtA (ord_ok _ _) (nobehind _ (by decide) (by decide)) (q_max rfl rfl bl.b_max (q_lendF (f_comp (own := [("word", 2)]) rfl nd (i_seq (q_rd 1)) (blkOk_by (N := ["value", "own", "word"]) (sc := defScope st_sure_code) (by decide +kernel)) (by decide) (fun _ _ _ _ _ => g_name (i := 2) nd rfl (.inl rfl)) (fun _ _ _ _ _ => ts_nil) (fun _ _ _ _ _ => q_len rfl bl.b_len (q_lendN 2))))) (q_gintE rfl bl.g_MOST_LENGTH)))))) (s_one (s_raise0 rfl B.tk ex.U rfl)) (s_nil))
 (s_one (s_ret (q_rd 1))))

abbrev st_are_lengths : Stmt := topS 18
theorem sc_are_lengths : FnScope ["thing", "own"] ["thing"] (defScope st_are_lengths) := ⟨rfl, rfl, rfl, by decide +kernel, rfl, by decide +kernel, by decide +kernel⟩
theorem d_are_lengths {P : Program} {w : World} {K : PySem.W.Frag} {mg : Str → Option Value} {base : Heap} {k : Nat} (bl : Blt mg) (h_is_within : Has P w K mg base "is_within" 3 k (F_is_within)) (cdv : Value) (Ar : Around) (outer : List Env) (s : Shared) (H : Hp) (E : XK) (f : Addr) (B : Bd (cxOf (L2.CX P w) P w K mg base ["thing", "own"] "are_lengths" (defScope st_are_lengths) f cdv Ar outer s H E) (fun c d _ H => E c d H) k) :
    PSs (cxOf (L2.CX P w) P w K mg base ["thing", "own"] "are_lengths" (defScope st_are_lengths) f cdv Ar outer s H E) (defBody st_are_lengths) (tS K (fun c d _ H => E c d H) (m_are_lengths )) :=
  have hr := B.hr
  have hu := Room.units B.hr
  have hu5 := room65 B.hr
  have nd := sc_are_lengths.nd
  s_cons (s_if (PW.pt (t_or (t_not (t_val (q_isi rfl bl.b_isinstance (q_lendN 0) rfl bl.b_tuple (by decide +kernel) (by decide)))) (t_or1 (t_not (t_chain op_leA (ord_ok _ _) op_leA (ord_ok _ _) (q_int) (q_len rfl bl.b_len (q_lendN 0)) (q_gintE rfl bl.g_MOST_LETTERS)))))) (s_one (s_ret (q_bl))) (s_nil))
 (s_one (s_ret (q_all rfl rfl bl.b_all (q_lendF (f_comp (own := [("own", 1)]) rfl nd (i_seq (q_rd 0)) (blkOk_by (N := ["thing", "own"]) (sc := defScope st_are_lengths) (by decide +kernel)) (by decide) (fun _ _ _ _ _ => g_name (i := 1) nd rfl (.inl rfl)) (fun _ _ _ _ _ => ts_nil) (fun _ _ _ _ _ => q_callH h_is_within hr takes_none5 rfl (a_cons (q_rd 1) (a_cons (q_int) (a_cons (q_gintE rfl bl.g_MOST_LENGTH) (a_nil)))) (aCons_len (aCons_len (aCons_len aNil_len)))))))))

abbrev st_sure_lengths : Stmt := topS 19
theorem sc_sure_lengths : FnScope ["value", "own"] ["value"] (defScope st_sure_lengths) := ⟨rfl, rfl, rfl, by decide +kernel, rfl, by decide +kernel, by decide +kernel⟩
theorem d_sure_lengths {P : Program} {w : World} {K : PySem.W.Frag} {mg : Str → Option Value} {base : Heap} {k : Nat} {A : Ad} (bl : Blt mg) (ex : Exc K mg A) (dr : Dr mg A) (mt : Mt K A.mt) (h_are_lengths : Has P w K mg base "are_lengths" 1 k (F_are_lengths)) (h_tupled : Has P w K mg base "tupled" 1 k (F_tupled)) (cdv : Value) (Ar : Around) (outer : List Env) (s : Shared) (H : Hp) (E : XK) (f : Addr) (B : Bd (cxOf (L2.CX P w) P w K mg base ["value", "own"] "sure_lengths" (defScope st_sure_lengths) f cdv Ar outer s H E) (fun c d _ H => E c d H) k) :
    PSs (cxOf (L2.CX P w) P w K mg base ["value", "own"] "sure_lengths" (defScope st_sure_lengths) f cdv Ar outer s H E) (defBody st_sure_lengths) (tS K (fun c d _ H => E c d H) (m_sure_lengths A)) :=
  have hr := B.hr
  have hu := Room.units B.hr
  have hu5 := room65 B.hr
  have nd := sc_sure_lengths.nd
  s_cons (s_set (i := 1) nd rfl (.inl rfl) (q_callH h_tupled hr B.tk rfl (a_cons (q_rd 0) (a_nil)) (aCons_len aNil_len)))
 (s_cons (s_if (t_not (t_val (q_callH h_are_lengths hr B.tk rfl (a_cons (q_rd 1) (a_nil)) (aCons_len aNil_len)))) (s_one (s_raise0 rfl B.tk ex.U rfl)) (s_nil))
 (s_one (s_ret (q_rd 1))))

abbrev st_share_in : Stmt := topS 20
theorem sc_share_in : FnScope ["lengths", "most", "own"] ["lengths"] (defScope st_share_in) := ⟨rfl, rfl, rfl, by decide +kernel, rfl, by decide +kernel, by decide +kernel⟩
theorem d_share_in {P : Program} {w : World} {K : PySem.W.Frag} {mg : Str → Option Value} {base : Heap} {k : Nat} (bl : Blt mg) (h_least_terms : Has P w K mg base "least_terms" 2 k (F_least_terms)) (h_power_of_two : Has P w K mg base "power_of_two" 1 k (F_power_of_two)) (cdv : Value) (Ar : Around) (outer : List Env) (s : Shared) (H : Hp) (E : XK) (f : Addr) (B : Bd (cxOf (L2.CX P w) P w K mg base ["lengths", "most", "own"] "share_in" (defScope st_share_in) f cdv Ar outer s H E) (fun c d _ H => E c d H) k) :
    PSs (cxOf (L2.CX P w) P w K mg base ["lengths", "most", "own"] "share_in" (defScope st_share_in) f cdv Ar outer s H E) (defBody st_share_in) (tS K (fun c d _ H => E c d H) (m_share_in )) :=
  have hr := B.hr
  have hu := Room.units B.hr
  have hu5 := room65 B.hr
  have nd := sc_share_in.nd
  s_cons (s_set (i := 1) nd rfl (.inr rfl) (q_max rfl rfl bl.b_max (q_lendN 0)))
 (s_one (s_ret (q_callH h_least_terms hr B.tk rfl (a_cons (q_sum rfl rfl bl.b_sum (q_lendF (f_comp (own := [("own", 2)]) rfl nd (i_seq (q_rd 0)) (blkOk_by (N := ["lengths", "most", "own"]) (sc := defScope st_share_in) (by decide +kernel)) (by decide) (fun _ _ _ _ _ => g_name (i := 2) nd rfl (.inl rfl)) (fun _ _ _ _ _ => ts_nil) (fun _ _ _ _ _ => q_callH h_power_of_two hr takes_none5 rfl (a_cons (q_sub (q_rd 1) (q_rd 2)) (a_nil)) (aCons_len aNil_len))))) (a_cons (q_rd 1) (a_nil))) (aCons_len (aCons_len aNil_len)))))

abbrev st_word_of : Stmt := topS 21
theorem sc_word_of : FnScope ["number", "length", "found", "turn"] ["number", "length"] (defScope st_word_of) := ⟨rfl, rfl, rfl, by decide +kernel, rfl, by decide +kernel, by decide +kernel⟩
theorem d_word_of {P : Program} {w : World} {K : PySem.W.Frag} {mg : Str → Option Value} {base : Heap} {k : Nat} (bl : Blt mg)  (cdv : Value) (Ar : Around) (outer : List Env) (s : Shared) (H : Hp) (E : XK) (f : Addr) (B : Bd (cxOf (L2.CX P w) P w K mg base ["number", "length", "found", "turn"] "word_of" (defScope st_word_of) f cdv Ar outer s H E) (fun c d _ H => E c d H) k) :
    PSs (cxOf (L2.CX P w) P w K mg base ["number", "length", "found", "turn"] "word_of" (defScope st_word_of) f cdv Ar outer s H E) (defBody st_word_of) (tS K (fun c d _ H => E c d H) (m_word_of )) :=
  have hr := B.hr
  have hu := Room.units B.hr
  have hu5 := room65 B.hr
  have nd := sc_word_of.nd
  s_cons (s_set (i := 2) nd rfl (.inl rfl) (q_str))
 (s_cons (s_for B.po rfl (i_rg1 rfl bl.b_range (q_rd 1)) (g_name (i := 3) nd rfl (.inl rfl))
 (s_cons (s_set (i := 2) nd rfl (.inl rfl) (q_add (q_tstr rfl bl.b_str (q_lend (q_mod (q_rd 0) (q_int)))) (q_rd 2)))
 (s_one (s_set (i := 0) nd rfl (.inl rfl) (q_div (q_rd 0) (q_int))))))
 (s_one (s_ret (q_rd 2))))

abbrev st_is_code : Stmt := topS 22
theorem sc_is_code : FnScope ["thing"] ["thing"] (defScope st_is_code) := ⟨rfl, rfl, rfl, by decide +kernel, rfl, by decide +kernel, by decide +kernel⟩
theorem d_is_code {P : Program} {w : World} {K : PySem.W.Frag} {mg : Str → Option Value} {base : Heap} {k : Nat} (bl : Blt mg) (h_is_code_in : Has P w K mg base "is_code_in" 1 k (F_is_code_in)) (cdv : Value) (Ar : Around) (outer : List Env) (s : Shared) (H : Hp) (E : XK) (f : Addr) (B : Bd (cxOf (L2.CX P w) P w K mg base ["thing"] "is_code" (defScope st_is_code) f cdv Ar outer s H E) (fun c d _ H => E c d H) k) :
    PSs (cxOf (L2.CX P w) P w K mg base ["thing"] "is_code" (defScope st_is_code) f cdv Ar outer s H E) (defBody st_is_code) (tS K (fun c d _ H => E c d H) (m_is_code )) :=
  have hr := B.hr
  have hu := Room.units B.hr
  have hu5 := room65 B.hr
  have nd := sc_is_code.nd
  s_one (s_ret (q_callH h_is_code_in hr B.tk rfl (a_cons (q_rd 0) (a_nil)) (aCons_len aNil_len)))

abbrev st_code_lengths : Stmt := topS 23
theorem sc_code_lengths : FnScope ["code", "word"] ["code"] (defScope st_code_lengths) := ⟨rfl, rfl, rfl, by decide +kernel, rfl, by decide +kernel, by decide +kernel⟩
theorem d_code_lengths {P : Program} {w : World} {K : PySem.W.Frag} {mg : Str → Option Value} {base : Heap} {k : Nat} {A : Ad} (bl : Blt mg) (ex : Exc K mg A) (dr : Dr mg A) (mt : Mt K A.mt) (h_sure_code : Has P w K mg base "sure_code" 1 k (F_sure_code A)) (cdv : Value) (Ar : Around) (outer : List Env) (s : Shared) (H : Hp) (E : XK) (f : Addr) (B : Bd (cxOf (L2.CX P w) P w K mg base ["code", "word"] "code_lengths" (defScope st_code_lengths) f cdv Ar outer s H E) (fun c d _ H => E c d H) k) :
    PSs (cxOf (L2.CX P w) P w K mg base ["code", "word"] "code_lengths" (defScope st_code_lengths) f cdv Ar outer s H E) (defBody st_code_lengths) (tS K (fun c d _ H => E c d H) (m_code_lengths A)) :=
  have hr := B.hr
  have hu := Room.units B.hr
  have hu5 := room65 B.hr
  have nd := sc_code_lengths.nd
  s_one (s_ret (q_tuple rfl bl.b_tuple (q_lendF (f_comp (own := [("word", 1)]) rfl nd (i_seq (q_callH h_sure_code hr B.tk rfl (a_cons (q_rd 0) (a_nil)) (aCons_len aNil_len))) (blkOk_by (N := ["code", "word"]) (sc := defScope st_code_lengths) (by decide +kernel)) (by decide) (fun _ _ _ _ _ => g_name (i := 1) nd rfl (.inl rfl)) (fun _ _ _ _ _ => ts_nil) (fun _ _ _ _ _ => q_len rfl bl.b_len (q_lendN 1))))))

abbrev st_lengths_share : Stmt := topS 24
theorem sc_lengths_share : FnScope ["lengths"] ["lengths"] (defScope st_lengths_share) := ⟨rfl, rfl, rfl, by decide +kernel, rfl, by decide +kernel, by decide +kernel⟩
theorem d_lengths_share {P : Program} {w : World} {K : PySem.W.Frag} {mg : Str → Option Value} {base : Heap} {k : Nat} {A : Ad} (bl : Blt mg) (ex : Exc K mg A) (dr : Dr mg A) (mt : Mt K A.mt) (h_share_in : Has P w K mg base "share_in" 1 k (F_share_in)) (h_sure_lengths : Has P w K mg base "sure_lengths" 1 k (F_sure_lengths A)) (cdv : Value) (Ar : Around) (outer : List Env) (s : Shared) (H : Hp) (E : XK) (f : Addr) (B : Bd (cxOf (L2.CX P w) P w K mg base ["lengths"] "lengths_share" (defScope st_lengths_share) f cdv Ar outer s H E) (fun c d _ H => E c d H) k) :
    PSs (cxOf (L2.CX P w) P w K mg base ["lengths"] "lengths_share" (defScope st_lengths_share) f cdv Ar outer s H E) (defBody st_lengths_share) (tS K (fun c d _ H => E c d H) (m_lengths_share A)) :=
  have hr := B.hr
  have hu := Room.units B.hr
  have hu5 := room65 B.hr
  have nd := sc_lengths_share.nd
  s_one (s_ret (q_callH h_share_in hr B.tk rfl (a_cons (q_callH h_sure_lengths hr B.tk rfl (a_cons (q_rd 0) (a_nil)) (aCons_len aNil_len)) (a_nil)) (aCons_len aNil_len)))

abbrev st_sums_in : Stmt := topS 26
theorem sc_sums_in : FnScope ["lengths", "own", "most", "here", "found", "step"] ["lengths"] (defScope st_sums_in) := ⟨rfl, rfl, rfl, by decide +kernel, rfl, by decide +kernel, by decide +kernel⟩
theorem d_sums_in {P : Program} {w : World} {K : PySem.W.Frag} {mg : Str → Option Value} {base : Heap} {k : Nat} (bl : Blt mg) (h_power_of_two : Has P w K mg base "power_of_two" 1 k (F_power_of_two)) (cdv : Value) (Ar : Around) (outer : List Env) (s : Shared) (H : Hp) (E : XK) (f : Addr) (B : Bd (cxOf (L2.CX P w) P w K mg base ["lengths", "own", "most", "here", "found", "step"] "sums_in" (defScope st_sums_in) f cdv Ar outer s H E) (fun c d _ H => E c d H) k) :
    PSs (cxOf (L2.CX P w) P w K mg base ["lengths", "own", "most", "here", "found", "step"] "sums_in" (defScope st_sums_in) f cdv Ar outer s H E) (defBody st_sums_in) (tS K (fun c d _ H => E c d H) (m_sums_in )) :=
  have hr := B.hr
  have hu := Room.units B.hr
  have hu5 := room65 B.hr
  have nd := sc_sums_in.nd
  s_cons (s_par3V (i := 2) (j := 3) (l := 4) rfl nd rfl rfl rfl (by decide) (by decide) (by decide) rfl rfl rfl (v_val (q_max rfl rfl bl.b_max (q_lendN 0))) (v_val (q_int)) (v_new (f_lst (a_nil))))
 (s_cons (s_for B.po rfl (i_seq (q_rd 0)) (g_name (i := 1) nd rfl (.inl rfl))
 (s_cons (s_set (i := 5) nd rfl (.inl rfl) (q_callH h_power_of_two hr B.tk rfl (a_cons (q_sub (q_rd 2) (q_rd 1)) (a_nil)) (aCons_len aNil_len)))
 (s_cons (s_set (i := 3) nd rfl (.inl rfl) (q_add (q_mul (q_div (q_sub (q_add (q_rd 3) (q_rd 5)) (q_int)) (q_rd 5)) (q_rd 5)) (q_rd 5)))
 (s_one (s_expr (q_append 4 (q_rd 3)))))))
 (s_one (s_ret (q_rd 4))))

abbrev st_bar_in : Stmt := topS 27
theorem sc_bar_in : FnScope ["lengths", "whole", "falls", "place", "own"] ["lengths"] (defScope st_bar_in) := ⟨rfl, rfl, rfl, by decide +kernel, rfl, by decide +kernel, by decide +kernel⟩
theorem d_bar_in {P : Program} {w : World} {K : PySem.W.Frag} {mg : Str → Option Value} {base : Heap} {k : Nat} (bl : Blt mg) (h_power_of_two : Has P w K mg base "power_of_two" 1 k (F_power_of_two)) (h_sums_in : Has P w K mg base "sums_in" 1 k (F_sums_in)) (cdv : Value) (Ar : Around) (outer : List Env) (s : Shared) (H : Hp) (E : XK) (f : Addr) (B : Bd (cxOf (L2.CX P w) P w K mg base ["lengths", "whole", "falls", "place", "own"] "bar_in" (defScope st_bar_in) f cdv Ar outer s H E) (fun c d _ H => E c d H) k) :
    PSs (cxOf (L2.CX P w) P w K mg base ["lengths", "whole", "falls", "place", "own"] "bar_in" (defScope st_bar_in) f cdv Ar outer s H E) (defBody st_bar_in) (tS K (fun c d _ H => E c d H) (m_bar_in )) :=
  have hr := B.hr
  have hu := Room.units B.hr
  have hu5 := room65 B.hr
  have nd := sc_bar_in.nd
  s_cons (s_set (i := 1) nd rfl (.inr rfl) (q_callH h_power_of_two hr B.tk rfl (a_cons (q_max rfl rfl bl.b_max (q_lendN 0)) (a_nil)) (aCons_len aNil_len)))
 (s_cons (s_setLc (i := 2) (own := [("place", 3), ("own", 4)]) rfl nd rfl rfl (sw_true rfl rfl rfl (by decide +kernel)) (i_en rfl bl.b_enumerate (q_callH h_sums_in hr B.tk rfl (a_cons (q_rd 0) (a_nil)) (aCons_len aNil_len))) (blkOk_by (N := ["lengths", "whole", "falls", "place", "own"]) (sc := defScope st_bar_in) (by decide +kernel)) (by decide) (fun _ _ _ _ _ => g_tup rfl (g_cons (g_name (i := 3) nd rfl (.inl rfl)) (g_cons (g_name (i := 4) nd rfl (.inl rfl)) (g_nil)))) (fun _ _ _ _ _ => ts_one (t_cmp op_gtA (ord_ok _ _) (nobehind _ (by decide) (by decide)) (q_rd 4) (q_rd 1))) (fun _ _ _ _ _ => q_rd 3))
 (s_one (s_ret (q_if (t_cmpN 2 (op_neA hu) neL_ok (nobehind _ (by decide) (by decide)) (q_fz (f_lst (a_nil)))) (q_ixN 2 (q_int)) (q_non)))))

abbrev st_words_by : Stmt := topS 28
theorem sc_words_by : FnScope ["lengths", "most", "rows", "own", "its"] ["lengths"] (defScope st_words_by) := ⟨rfl, rfl, rfl, by decide +kernel, rfl, by decide +kernel, by decide +kernel⟩
theorem d_words_by {P : Program} {w : World} {K : PySem.W.Frag} {mg : Str → Option Value} {base : Heap} {k : Nat} (bl : Blt mg) (h_power_of_two : Has P w K mg base "power_of_two" 1 k (F_power_of_two)) (h_sums_in : Has P w K mg base "sums_in" 1 k (F_sums_in)) (h_word_of : Has P w K mg base "word_of" 2 k (F_word_of)) (cdv : Value) (Ar : Around) (outer : List Env) (s : Shared) (H : Hp) (E : XK) (f : Addr) (B : Bd (cxOf (L2.CX P w) P w K mg base ["lengths", "most", "rows", "own", "its"] "words_by" (defScope st_words_by) f cdv Ar outer s H E) (fun c d _ H => E c d H) k) :
    PSs (cxOf (L2.CX P w) P w K mg base ["lengths", "most", "rows", "own", "its"] "words_by" (defScope st_words_by) f cdv Ar outer s H E) (defBody st_words_by) (tS K (fun c d _ H => E c d H) (m_words_by )) :=
  have hr := B.hr
  have hu := Room.units B.hr
  have hu5 := room65 B.hr
  have nd := sc_words_by.nd
  s_cons (s_set (i := 1) nd rfl (.inr rfl) (q_max rfl rfl bl.b_max (q_lendN 0)))
 (s_cons (s_setF (i := 2) nd rfl (.inl rfl) (f_lzp rfl rfl bl.b_list rfl bl.b_zip (q_callH h_sums_in hr B.tk rfl (a_cons (q_rd 0) (a_nil)) (aCons_len aNil_len)) (q_rd 0)))
 (s_one (s_ret (q_tuple rfl bl.b_tuple (q_lendF (f_comp (own := [("own", 3), ("its", 4)]) rfl nd (i_seq (q_rd 2)) (blkOk_by (N := ["lengths", "most", "rows", "own", "its"]) (sc := defScope st_words_by) (by decide +kernel)) (by decide) (fun _ _ _ _ _ => g_tup rfl (g_cons (g_name (i := 3) nd rfl (.inl rfl)) (g_cons (g_name (i := 4) nd rfl (.inl rfl)) (g_nil)))) (fun _ _ _ _ _ => ts_nil) (fun _ _ _ _ _ => q_callH h_word_of hr takes_none5 rfl (a_cons (q_sub (q_div (q_rd 3) (q_callH h_power_of_two hr takes_none5 rfl (a_cons (q_sub (q_rd 1) (q_rd 4)) (a_nil)) (aCons_len aNil_len))) (q_int)) (a_cons (q_rd 4) (a_nil))) (aCons_len (aCons_len aNil_len)))))))))

abbrev st_wasted_in : Stmt := topS 29
theorem sc_wasted_in : FnScope ["lengths", "most", "own"] ["lengths"] (defScope st_wasted_in) := ⟨rfl, rfl, rfl, by decide +kernel, rfl, by decide +kernel, by decide +kernel⟩
theorem d_wasted_in {P : Program} {w : World} {K : PySem.W.Frag} {mg : Str → Option Value} {base : Heap} {k : Nat} (bl : Blt mg) (h_power_of_two : Has P w K mg base "power_of_two" 1 k (F_power_of_two)) (h_sums_in : Has P w K mg base "sums_in" 1 k (F_sums_in)) (cdv : Value) (Ar : Around) (outer : List Env) (s : Shared) (H : Hp) (E : XK) (f : Addr) (B : Bd (cxOf (L2.CX P w) P w K mg base ["lengths", "most", "own"] "wasted_in" (defScope st_wasted_in) f cdv Ar outer s H E) (fun c d _ H => E c d H) k) :
    PSs (cxOf (L2.CX P w) P w K mg base ["lengths", "most", "own"] "wasted_in" (defScope st_wasted_in) f cdv Ar outer s H E) (defBody st_wasted_in) (tS K (fun c d _ H => E c d H) (m_wasted_in )) :=
  have hr := B.hr
  have hu := Room.units B.hr
  have hu5 := room65 B.hr
  have nd := sc_wasted_in.nd
  s_cons (s_set (i := 1) nd rfl (.inr rfl) (q_max rfl rfl bl.b_max (q_lendN 0)))
 (s_one (s_ret (q_sub (q_ix (q_callH h_sums_in hr B.tk rfl (a_cons (q_rd 0) (a_nil)) (aCons_len aNil_len)) (q_neg (q_int))) (q_sum rfl rfl bl.b_sum (q_lendF (f_comp (own := [("own", 2)]) rfl nd (i_seq (q_rd 0)) (blkOk_by (N := ["lengths", "most", "own"]) (sc := defScope st_wasted_in) (by decide +kernel)) (by decide) (fun _ _ _ _ _ => g_name (i := 2) nd rfl (.inl rfl)) (fun _ _ _ _ _ => ts_nil) (fun _ _ _ _ _ => q_callH h_power_of_two hr takes_none5 rfl (a_cons (q_sub (q_rd 1) (q_rd 2)) (a_nil)) (aCons_len aNil_len))))))))

abbrev st_have_code : Stmt := topS 30
theorem sc_have_code : FnScope ["lengths"] ["lengths"] (defScope st_have_code) := ⟨rfl, rfl, rfl, by decide +kernel, rfl, by decide +kernel, by decide +kernel⟩
theorem d_have_code {P : Program} {w : World} {K : PySem.W.Frag} {mg : Str → Option Value} {base : Heap} {k : Nat} {A : Ad} (bl : Blt mg) (ex : Exc K mg A) (dr : Dr mg A) (mt : Mt K A.mt) (h_bar_in : Has P w K mg base "bar_in" 1 k (F_bar_in)) (h_sure_lengths : Has P w K mg base "sure_lengths" 1 k (F_sure_lengths A)) (cdv : Value) (Ar : Around) (outer : List Env) (s : Shared) (H : Hp) (E : XK) (f : Addr) (B : Bd (cxOf (L2.CX P w) P w K mg base ["lengths"] "have_code" (defScope st_have_code) f cdv Ar outer s H E) (fun c d _ H => E c d H) k) :
    PSs (cxOf (L2.CX P w) P w K mg base ["lengths"] "have_code" (defScope st_have_code) f cdv Ar outer s H E) (defBody st_have_code) (tS K (fun c d _ H => E c d H) (m_have_code A)) :=
  have hr := B.hr
  have hu := Room.units B.hr
  have hu5 := room65 B.hr
  have nd := sc_have_code.nd
  s_one (s_ret (q_cmp op_isN isN_okB (nobehind _ (by decide) (by decide)) (q_callH h_bar_in hr B.tk rfl (a_cons (q_callH h_sure_lengths hr B.tk rfl (a_cons (q_rd 0) (a_nil)) (aCons_len aNil_len)) (a_nil)) (aCons_len aNil_len)) (q_non)))

abbrev st_length_sums : Stmt := topS 31
theorem sc_length_sums : FnScope ["lengths", "own", "its"] ["lengths"] (defScope st_length_sums) := ⟨rfl, rfl, rfl, by decide +kernel, rfl, by decide +kernel, by decide +kernel⟩
theorem d_length_sums {P : Program} {w : World} {K : PySem.W.Frag} {mg : Str → Option Value} {base : Heap} {k : Nat} {A : Ad} (bl : Blt mg) (ex : Exc K mg A) (dr : Dr mg A) (mt : Mt K A.mt) (h_least_terms : Has P w K mg base "least_terms" 2 k (F_least_terms)) (h_sums_in : Has P w K mg base "sums_in" 1 k (F_sums_in)) (h_sure_lengths : Has P w K mg base "sure_lengths" 1 k (F_sure_lengths A)) (cdv : Value) (Ar : Around) (outer : List Env) (s : Shared) (H : Hp) (E : XK) (f : Addr) (B : Bd (cxOf (L2.CX P w) P w K mg base ["lengths", "own", "its"] "length_sums" (defScope st_length_sums) f cdv Ar outer s H E) (fun c d _ H => E c d H) k) :
    PSs (cxOf (L2.CX P w) P w K mg base ["lengths", "own", "its"] "length_sums" (defScope st_length_sums) f cdv Ar outer s H E) (defBody st_length_sums) (tS K (fun c d _ H => E c d H) (m_length_sums A)) :=
  have hr := B.hr
  have hu := Room.units B.hr
  have hu5 := room65 B.hr
  have nd := sc_length_sums.nd
  s_cons (s_set (i := 1) nd rfl (.inr rfl) (q_callH h_sure_lengths hr B.tk rfl (a_cons (q_rd 0) (a_nil)) (aCons_len aNil_len)))
 (s_one (s_ret (q_tuple rfl bl.b_tuple (q_lendF (f_comp (own := [("its", 2)]) rfl nd (i_seq (q_callH h_sums_in hr B.tk rfl (a_cons (q_rd 1) (a_nil)) (aCons_len aNil_len))) (blkOk_by (N := ["lengths", "own", "its"]) (sc := defScope st_length_sums) (by decide +kernel)) (by decide) (fun _ _ _ _ _ => g_name (i := 2) nd rfl (.inl rfl)) (fun _ _ _ _ _ => ts_nil) (fun _ _ _ _ _ => q_callH h_least_terms hr takes_none5 rfl (a_cons (q_rd 2) (a_cons (q_max rfl rfl bl.b_max (q_lendN 1)) (a_nil))) (aCons_len (aCons_len aNil_len))))))))

abbrev st_length_bar : Stmt := topS 32
theorem sc_length_bar : FnScope ["lengths", "found"] ["lengths"] (defScope st_length_bar) := ⟨rfl, rfl, rfl, by decide +kernel, rfl, by decide +kernel, by decide +kernel⟩
theorem d_length_bar {P : Program} {w : World} {K : PySem.W.Frag} {mg : Str → Option Value} {base : Heap} {k : Nat} {A : Ad} (bl : Blt mg) (ex : Exc K mg A) (dr : Dr mg A) (mt : Mt K A.mt) (h_bar_in : Has P w K mg base "bar_in" 1 k (F_bar_in)) (h_sure_lengths : Has P w K mg base "sure_lengths" 1 k (F_sure_lengths A)) (cdv : Value) (Ar : Around) (outer : List Env) (s : Shared) (H : Hp) (E : XK) (f : Addr) (B : Bd (cxOf (L2.CX P w) P w K mg base ["lengths", "found"] "length_bar" (defScope st_length_bar) f cdv Ar outer s H E) (fun c d _ H => E c d H) k) :
    PSs (cxOf (L2.CX P w) P w K mg base ["lengths", "found"] "length_bar" (defScope st_length_bar) f cdv Ar outer s H E) (defBody st_length_bar) (tS K (fun c d _ H => E c d H) (m_length_bar A)) :=
  have hr := B.hr
  have hu := Room.units B.hr
  have hu5 := room65 B.hr
  have nd := sc_length_bar.nd
  s_cons (s_set (i := 1) nd rfl (.inl rfl) (q_callH h_bar_in hr B.tk rfl (a_cons (q_callH h_sure_lengths hr B.tk rfl (a_cons (q_rd 0) (a_nil)) (aCons_len aNil_len)) (a_nil)) (aCons_len aNil_len)))
 (s_cons (s_if (t_cmp op_isN isN_okB (nobehind _ (by decide) (by decide)) (q_rd 1) (q_non)) (s_one (s_raise0 rfl B.tk ex.C rfl)) (s_nil))
 (s_one (s_ret (q_rd 1))))

abbrev st_least_code : Stmt := topS 33
theorem sc_least_code : FnScope ["lengths", "own"] ["lengths"] (defScope st_least_code) := ⟨rfl, rfl, rfl, by decide +kernel, rfl, by decide +kernel, by decide +kernel⟩
theorem d_least_code {P : Program} {w : World} {K : PySem.W.Frag} {mg : Str → Option Value} {base : Heap} {k : Nat} {A : Ad} (bl : Blt mg) (ex : Exc K mg A) (dr : Dr mg A) (mt : Mt K A.mt) (h_bar_in : Has P w K mg base "bar_in" 1 k (F_bar_in)) (h_sure_lengths : Has P w K mg base "sure_lengths" 1 k (F_sure_lengths A)) (h_words_by : Has P w K mg base "words_by" 1 k (F_words_by)) (cdv : Value) (Ar : Around) (outer : List Env) (s : Shared) (H : Hp) (E : XK) (f : Addr) (B : Bd (cxOf (L2.CX P w) P w K mg base ["lengths", "own"] "least_code" (defScope st_least_code) f cdv Ar outer s H E) (fun c d _ H => E c d H) k) :
    PSs (cxOf (L2.CX P w) P w K mg base ["lengths", "own"] "least_code" (defScope st_least_code) f cdv Ar outer s H E) (defBody st_least_code) (tS K (fun c d _ H => E c d H) (m_least_code A)) :=
  have hr := B.hr
  have hu := Room.units B.hr
  have hu5 := room65 B.hr
  have nd := sc_least_code.nd
  s_cons (s_set (i := 1) nd rfl (.inl rfl) (q_callH h_sure_lengths hr B.tk rfl (a_cons (q_rd 0) (a_nil)) (aCons_len aNil_len)))
 (s_cons (s_if (t_cmp op_notN notN_okB (nobehind _ (by decide) (by decide)) (q_callH h_bar_in hr B.tk rfl (a_cons (q_rd 1) (a_nil)) (aCons_len aNil_len)) (q_non)) (s_one (s_raise0 rfl B.tk ex.C rfl)) (s_nil))
 (s_one (s_ret (q_callH h_words_by hr B.tk rfl (a_cons (q_rd 1) (a_nil)) (aCons_len aNil_len)))))

abbrev st_wasted : Stmt := topS 34
theorem sc_wasted : FnScope ["lengths", "own"] ["lengths"] (defScope st_wasted) := ⟨rfl, rfl, rfl, by decide +kernel, rfl, by decide +kernel, by decide +kernel⟩
theorem d_wasted {P : Program} {w : World} {K : PySem.W.Frag} {mg : Str → Option Value} {base : Heap} {k : Nat} {A : Ad} (bl : Blt mg) (ex : Exc K mg A) (dr : Dr mg A) (mt : Mt K A.mt) (h_least_terms : Has P w K mg base "least_terms" 2 k (F_least_terms)) (h_sure_lengths : Has P w K mg base "sure_lengths" 1 k (F_sure_lengths A)) (h_wasted_in : Has P w K mg base "wasted_in" 1 k (F_wasted_in)) (cdv : Value) (Ar : Around) (outer : List Env) (s : Shared) (H : Hp) (E : XK) (f : Addr) (B : Bd (cxOf (L2.CX P w) P w K mg base ["lengths", "own"] "wasted" (defScope st_wasted) f cdv Ar outer s H E) (fun c d _ H => E c d H) k) :
    PSs (cxOf (L2.CX P w) P w K mg base ["lengths", "own"] "wasted" (defScope st_wasted) f cdv Ar outer s H E) (defBody st_wasted) (tS K (fun c d _ H => E c d H) (m_wasted A)) :=
  have hr := B.hr
  have hu := Room.units B.hr
  have hu5 := room65 B.hr
  have nd := sc_wasted.nd
  s_cons (s_set (i := 1) nd rfl (.inl rfl) (q_callH h_sure_lengths hr B.tk rfl (a_cons (q_rd 0) (a_nil)) (aCons_len aNil_len)))
 (s_one (s_ret (q_callH h_least_terms hr B.tk rfl (a_cons (q_callH h_wasted_in hr B.tk rfl (a_cons (q_rd 1) (a_nil)) (aCons_len aNil_len)) (a_cons (q_max rfl rfl bl.b_max (q_lendN 1)) (a_nil))) (aCons_len (aCons_len aNil_len)))))

abbrev st_room_left : Stmt := topS 35
theorem sc_room_left : FnScope ["lengths", "own"] ["lengths"] (defScope st_room_left) := ⟨rfl, rfl, rfl, by decide +kernel, rfl, by decide +kernel, by decide +kernel⟩
theorem d_room_left {P : Program} {w : World} {K : PySem.W.Frag} {mg : Str → Option Value} {base : Heap} {k : Nat} {A : Ad} (bl : Blt mg) (ex : Exc K mg A) (dr : Dr mg A) (mt : Mt K A.mt) (h_bar_in : Has P w K mg base "bar_in" 1 k (F_bar_in)) (h_least_terms : Has P w K mg base "least_terms" 2 k (F_least_terms)) (h_power_of_two : Has P w K mg base "power_of_two" 1 k (F_power_of_two)) (h_sums_in : Has P w K mg base "sums_in" 1 k (F_sums_in)) (h_sure_lengths : Has P w K mg base "sure_lengths" 1 k (F_sure_lengths A)) (cdv : Value) (Ar : Around) (outer : List Env) (s : Shared) (H : Hp) (E : XK) (f : Addr) (B : Bd (cxOf (L2.CX P w) P w K mg base ["lengths", "own"] "room_left" (defScope st_room_left) f cdv Ar outer s H E) (fun c d _ H => E c d H) k) :
    PSs (cxOf (L2.CX P w) P w K mg base ["lengths", "own"] "room_left" (defScope st_room_left) f cdv Ar outer s H E) (defBody st_room_left) (tS K (fun c d _ H => E c d H) (m_room_left A)) :=
  have hr := B.hr
  have hu := Room.units B.hr
  have hu5 := room65 B.hr
  have nd := sc_room_left.nd
  s_cons (s_set (i := 1) nd rfl (.inl rfl) (q_callH h_sure_lengths hr B.tk rfl (a_cons (q_rd 0) (a_nil)) (aCons_len aNil_len)))
 (s_cons (s_if (t_cmp op_notN notN_okB (nobehind _ (by decide) (by decide)) (q_callH h_bar_in hr B.tk rfl (a_cons (q_rd 1) (a_nil)) (aCons_len aNil_len)) (q_non)) (s_one (s_raise0 rfl B.tk ex.C rfl)) (s_nil))
 (s_one (s_ret (q_callH h_least_terms hr B.tk rfl (a_cons (q_sub (q_callH h_power_of_two hr B.tk rfl (a_cons (q_max rfl rfl bl.b_max (q_lendN 1)) (a_nil)) (aCons_len aNil_len)) (q_ix (q_callH h_sums_in hr B.tk rfl (a_cons (q_rd 1) (a_nil)) (aCons_len aNil_len)) (q_neg (q_int)))) (a_cons (q_max rfl rfl bl.b_max (q_lendN 1)) (a_nil))) (aCons_len (aCons_len aNil_len))))))

abbrev st_shortest_next : Stmt := topS 36
theorem sc_shortest_next : FnScope ["lengths", "own", "more"] ["lengths"] (defScope st_shortest_next) := ⟨rfl, rfl, rfl, by decide +kernel, rfl, by decide +kernel, by decide +kernel⟩
theorem d_shortest_next {P : Program} {w : World} {K : PySem.W.Frag} {mg : Str → Option Value} {base : Heap} {k : Nat} {A : Ad} (bl : Blt mg) (ex : Exc K mg A) (dr : Dr mg A) (mt : Mt K A.mt) (h_bar_in : Has P w K mg base "bar_in" 1 k (F_bar_in)) (h_sure_lengths : Has P w K mg base "sure_lengths" 1 k (F_sure_lengths A)) (cdv : Value) (Ar : Around) (outer : List Env) (s : Shared) (H : Hp) (E : XK) (f : Addr) (B : Bd (cxOf (L2.CX P w) P w K mg base ["lengths", "own", "more"] "shortest_next" (defScope st_shortest_next) f cdv Ar outer s H E) (fun c d _ H => E c d H) k) :
    PSs (cxOf (L2.CX P w) P w K mg base ["lengths", "own", "more"] "shortest_next" (defScope st_shortest_next) f cdv Ar outer s H E) (defBody st_shortest_next) (tS K (fun c d _ H => E c d H) (m_shortest_next A)) :=
  have hr := B.hr
  have hu := Room.units B.hr
  have hu5 := room65 B.hr
  have nd := sc_shortest_next.nd
  s_cons (s_set (i := 1) nd rfl (.inl rfl) (q_callH h_sure_lengths hr B.tk rfl (a_cons (q_rd 0) (a_nil)) (aCons_len aNil_len)))
 (s_cons (s_for B.po rfl (i_rg1 rfl bl.b_range (q_int)) (g_name (i := 2) nd rfl (.inl rfl))
 (s_one (s_if (t_cmp op_isN isN_okB (nobehind _ (by decide) (by decide)) (q_callH h_bar_in hr B.tk rfl (a_cons (q_add (q_rd 1) (q_tup (a_cons (q_rd 2) (a_nil)))) (a_nil)) (aCons_len aNil_len)) (q_non)) (s_one (s_ret (q_rd 2))) (s_nil))))
 (s_one (s_raise0 rfl B.tk ex.C rfl)))

abbrev st_stacked : Stmt := topS 38
theorem sc_stacked : FnScope ["lengths", "found", "place", "own", "right", "left"] ["lengths"] (defScope st_stacked) := ⟨rfl, rfl, rfl, by decide +kernel, rfl, by decide +kernel, by decide +kernel⟩
theorem d_stacked {P : Program} {w : World} {K : PySem.W.Frag} {mg : Str → Option Value} {base : Heap} {k : Nat} (bl : Blt mg)  (cdv : Value) (Ar : Around) (outer : List Env) (s : Shared) (H : Hp) (E : XK) (f : Addr) (B : Bd (cxOf (L2.CX P w) P w K mg base ["lengths", "found", "place", "own", "right", "left"] "stacked" (defScope st_stacked) f cdv Ar outer s H E) (fun c d _ H => E c d H) k) :
    PSs (cxOf (L2.CX P w) P w K mg base ["lengths", "found", "place", "own", "right", "left"] "stacked" (defScope st_stacked) f cdv Ar outer s H E) (defBody st_stacked) (tS K (fun c d _ H => E c d H) (m_stacked )) :=
  have hr := B.hr
  have hu := Room.units B.hr
  have hu5 := room65 B.hr
  have nd := sc_stacked.nd
  s_cons (s_setF (i := 1) nd rfl (.inl rfl) (f_lst (a_nil)))
 (s_cons (s_for B.po rfl (i_en rfl bl.b_enumerate (q_rd 0)) (g_tup rfl (g_cons (g_name (i := 2) nd rfl (.inl rfl)) (g_cons (g_name (i := 3) nd rfl (.inl rfl)) (g_nil))))
 (s_cons (s_expr (q_append 1 (q_tup (a_cons (q_rd 3) (a_cons (q_rd 2) (a_nil))))))
 (s_one (s_while 200 B.po (PW.pt (t_and (t_cmp op_gtA (ord_ok _ _) (nobehind _ (by decide) (by decide)) (q_len rfl bl.b_len (q_lendN 1)) (q_int)) (t_and (t_cmp (op_eqA hu) eqA_ok (nobehind _ (by decide) (by decide)) (q_ix (q_ixN 1 (q_neg (q_int))) (q_int)) (q_ix (q_ixN 1 (q_neg (q_int))) (q_int))) (t_and1 (t_cmp op_gtA (ord_ok _ _) (nobehind _ (by decide) (by decide)) (q_ix (q_ixN 1 (q_neg (q_int))) (q_int)) (q_int))))))
 (s_cons (s_set (i := 4) nd rfl (.inl rfl) (q_pop 1))
 (s_cons (s_set (i := 5) nd rfl (.inl rfl) (q_pop 1))
 (s_one (s_expr (q_append 1 (q_tup (a_cons (q_sub (q_ixN 5 (q_int)) (q_int)) (a_cons (q_tup (a_cons (q_ixN 5 (q_int)) (a_cons (q_ixN 4 (q_int)) (a_nil)))) (a_nil)))))))))))))
 (s_one (s_ret (q_rd 1))))

abbrev st_left_of_stack : Stmt := topS 39
theorem sc_left_of_stack : FnScope ["lengths", "own", "tree"] ["lengths"] (defScope st_left_of_stack) := ⟨rfl, rfl, rfl, by decide +kernel, rfl, by decide +kernel, by decide +kernel⟩
theorem d_left_of_stack {P : Program} {w : World} {K : PySem.W.Frag} {mg : Str → Option Value} {base : Heap} {k : Nat} {A : Ad} (bl : Blt mg) (ex : Exc K mg A) (dr : Dr mg A) (mt : Mt K A.mt) (h_stacked : Has P w K mg base "stacked" 1 k (F_stacked)) (h_sure_lengths : Has P w K mg base "sure_lengths" 1 k (F_sure_lengths A)) (cdv : Value) (Ar : Around) (outer : List Env) (s : Shared) (H : Hp) (E : XK) (f : Addr) (B : Bd (cxOf (L2.CX P w) P w K mg base ["lengths", "own", "tree"] "left_of_stack" (defScope st_left_of_stack) f cdv Ar outer s H E) (fun c d _ H => E c d H) k) :
    PSs (cxOf (L2.CX P w) P w K mg base ["lengths", "own", "tree"] "left_of_stack" (defScope st_left_of_stack) f cdv Ar outer s H E) (defBody st_left_of_stack) (tS K (fun c d _ H => E c d H) (m_left_of_stack A)) :=
  have hr := B.hr
  have hu := Room.units B.hr
  have hu5 := room65 B.hr
  have nd := sc_left_of_stack.nd
  s_one (s_ret (q_tuple rfl bl.b_tuple (q_lendF (f_comp (own := [("own", 1), ("tree", 2)]) rfl nd (i_seq (q_callH h_stacked hr B.tk rfl (a_cons (q_callH h_sure_lengths hr B.tk rfl (a_cons (q_rd 0) (a_nil)) (aCons_len aNil_len)) (a_nil)) (aCons_len aNil_len))) (blkOk_by (N := ["lengths", "own", "tree"]) (sc := defScope st_left_of_stack) (by decide +kernel)) (by decide) (fun _ _ _ _ _ => g_tup rfl (g_cons (g_name (i := 1) nd rfl (.inl rfl)) (g_cons (g_name (i := 2) nd rfl (.inl rfl)) (g_nil)))) (fun _ _ _ _ _ => ts_nil) (fun _ _ _ _ _ => q_rd 1)))))

abbrev st_other_word : Stmt := topS 41
theorem sc_other_word : FnScope ["word", "sign"] ["word"] (defScope st_other_word) := ⟨rfl, rfl, rfl, by decide +kernel, rfl, by decide +kernel, by decide +kernel⟩
theorem d_other_word {P : Program} {w : World} {K : PySem.W.Frag} {mg : Str → Option Value} {base : Heap} {k : Nat} (bl : Blt mg)  (cdv : Value) (Ar : Around) (outer : List Env) (s : Shared) (H : Hp) (E : XK) (f : Addr) (B : Bd (cxOf (L2.CX P w) P w K mg base ["word", "sign"] "other_word" (defScope st_other_word) f cdv Ar outer s H E) (fun c d _ H => E c d H) k) :
    PSs (cxOf (L2.CX P w) P w K mg base ["word", "sign"] "other_word" (defScope st_other_word) f cdv Ar outer s H E) (defBody st_other_word) (tS K (fun c d _ H => E c d H) (m_other_word )) :=
  have hr := B.hr
  have hu := Room.units B.hr
  have hu5 := room65 B.hr
  have nd := sc_other_word.nd
  s_one (s_ret (q_join (q_str) (q_lendF (f_comp (own := [("sign", 1)]) rfl nd (i_seq (q_rd 0)) (blkOk_by (N := ["word", "sign"]) (sc := defScope st_other_word) (by decide +kernel)) (by decide) (fun _ _ _ _ _ => g_name (i := 1) nd rfl (.inl rfl)) (fun _ _ _ _ _ => ts_nil) (fun _ _ _ _ _ => q_if (t_cmp (op_eqA hu) eqA_ok (nobehind _ (by decide) (by decide)) (q_rd 1) (q_str)) (q_str) (q_str))))))

abbrev st_mirrored_in : Stmt := topS 42
theorem sc_mirrored_in : FnScope ["code", "word"] ["code"] (defScope st_mirrored_in) := ⟨rfl, rfl, rfl, by decide +kernel, rfl, by decide +kernel, by decide +kernel⟩
theorem d_mirrored_in {P : Program} {w : World} {K : PySem.W.Frag} {mg : Str → Option Value} {base : Heap} {k : Nat} (bl : Blt mg) (h_other_word : Has P w K mg base "other_word" 1 k (F_other_word)) (cdv : Value) (Ar : Around) (outer : List Env) (s : Shared) (H : Hp) (E : XK) (f : Addr) (B : Bd (cxOf (L2.CX P w) P w K mg base ["code", "word"] "mirrored_in" (defScope st_mirrored_in) f cdv Ar outer s H E) (fun c d _ H => E c d H) k) :
    PSs (cxOf (L2.CX P w) P w K mg base ["code", "word"] "mirrored_in" (defScope st_mirrored_in) f cdv Ar outer s H E) (defBody st_mirrored_in) (tS K (fun c d _ H => E c d H) (m_mirrored_in )) :=
  have hr := B.hr
  have hu := Room.units B.hr
  have hu5 := room65 B.hr
  have nd := sc_mirrored_in.nd
  s_one (s_ret (q_tuple rfl bl.b_tuple (q_lendF (f_comp (own := [("word", 1)]) rfl nd (i_seq (q_back (q_rd 0))) (blkOk_by (N := ["code", "word"]) (sc := defScope st_mirrored_in) (by decide +kernel)) (by decide) (fun _ _ _ _ _ => g_name (i := 1) nd rfl (.inl rfl)) (fun _ _ _ _ _ => ts_nil) (fun _ _ _ _ _ => q_callH h_other_word hr takes_none5 rfl (a_cons (q_rd 1) (a_nil)) (aCons_len aNil_len))))))

abbrev st_mirrored_code : Stmt := topS 43
theorem sc_mirrored_code : FnScope ["code"] ["code"] (defScope st_mirrored_code) := ⟨rfl, rfl, rfl, by decide +kernel, rfl, by decide +kernel, by decide +kernel⟩
theorem d_mirrored_code {P : Program} {w : World} {K : PySem.W.Frag} {mg : Str → Option Value} {base : Heap} {k : Nat} {A : Ad} (bl : Blt mg) (ex : Exc K mg A) (dr : Dr mg A) (mt : Mt K A.mt) (h_mirrored_in : Has P w K mg base "mirrored_in" 1 k (F_mirrored_in)) (h_sure_code : Has P w K mg base "sure_code" 1 k (F_sure_code A)) (cdv : Value) (Ar : Around) (outer : List Env) (s : Shared) (H : Hp) (E : XK) (f : Addr) (B : Bd (cxOf (L2.CX P w) P w K mg base ["code"] "mirrored_code" (defScope st_mirrored_code) f cdv Ar outer s H E) (fun c d _ H => E c d H) k) :
    PSs (cxOf (L2.CX P w) P w K mg base ["code"] "mirrored_code" (defScope st_mirrored_code) f cdv Ar outer s H E) (defBody st_mirrored_code) (tS K (fun c d _ H => E c d H) (m_mirrored_code A)) :=
  have hr := B.hr
  have hu := Room.units B.hr
  have hu5 := room65 B.hr
  have nd := sc_mirrored_code.nd
  s_one (s_ret (q_callH h_mirrored_in hr B.tk rfl (a_cons (q_callH h_sure_code hr B.tk rfl (a_cons (q_rd 0) (a_nil)) (aCons_len aNil_len)) (a_nil)) (aCons_len aNil_len)))

abbrev st_raised_in : Stmt := topS 45
theorem sc_raised_in : FnScope ["lengths", "own"] ["lengths"] (defScope st_raised_in) := ⟨rfl, rfl, rfl, by decide +kernel, rfl, by decide +kernel, by decide +kernel⟩
theorem d_raised_in {P : Program} {w : World} {K : PySem.W.Frag} {mg : Str → Option Value} {base : Heap} {k : Nat} (bl : Blt mg)  (cdv : Value) (Ar : Around) (outer : List Env) (s : Shared) (H : Hp) (E : XK) (f : Addr) (B : Bd (cxOf (L2.CX P w) P w K mg base ["lengths", "own"] "raised_in" (defScope st_raised_in) f cdv Ar outer s H E) (fun c d _ H => E c d H) k) :
    PSs (cxOf (L2.CX P w) P w K mg base ["lengths", "own"] "raised_in" (defScope st_raised_in) f cdv Ar outer s H E) (defBody st_raised_in) (tS K (fun c d _ H => E c d H) (m_raised_in )) :=
  have hr := B.hr
  have hu := Room.units B.hr
  have hu5 := room65 B.hr
  have nd := sc_raised_in.nd
  s_one (s_ret (q_add (q_add (q_sl (q_rd 0) (o_no) (o_in (q_int))) (q_tuple rfl bl.b_tuple (q_lendF (f_comp (own := [("own", 1)]) rfl nd (i_seq (q_sl (q_rd 0) (o_in (q_int)) (o_in (q_neg (q_int))))) (blkOk_by (N := ["lengths", "own"]) (sc := defScope st_raised_in) (by decide +kernel)) (by decide) (fun _ _ _ _ _ => g_name (i := 1) nd rfl (.inl rfl)) (fun _ _ _ _ _ => ts_nil) (fun _ _ _ _ _ => q_add (q_rd 1) (q_int)))))) (q_if (t_cmp op_gtA (ord_ok _ _) (nobehind _ (by decide) (by decide)) (q_len rfl bl.b_len (q_lendN 0)) (q_int)) (q_sl (q_rd 0) (o_in (q_neg (q_int))) (o_no)) (q_tup (a_nil)))))

abbrev st_raised : Stmt := topS 46
theorem sc_raised : FnScope ["lengths", "found"] ["lengths"] (defScope st_raised) := ⟨rfl, rfl, rfl, by decide +kernel, rfl, by decide +kernel, by decide +kernel⟩
theorem d_raised {P : Program} {w : World} {K : PySem.W.Frag} {mg : Str → Option Value} {base : Heap} {k : Nat} {A : Ad} (bl : Blt mg) (ex : Exc K mg A) (dr : Dr mg A) (mt : Mt K A.mt) (h_raised_in : Has P w K mg base "raised_in" 1 k (F_raised_in)) (h_sure_lengths : Has P w K mg base "sure_lengths" 1 k (F_sure_lengths A)) (cdv : Value) (Ar : Around) (outer : List Env) (s : Shared) (H : Hp) (E : XK) (f : Addr) (B : Bd (cxOf (L2.CX P w) P w K mg base ["lengths", "found"] "raised" (defScope st_raised) f cdv Ar outer s H E) (fun c d _ H => E c d H) k) :
    PSs (cxOf (L2.CX P w) P w K mg base ["lengths", "found"] "raised" (defScope st_raised) f cdv Ar outer s H E) (defBody st_raised) (tS K (fun c d _ H => E c d H) (m_raised A)) :=
  have hr := B.hr
  have hu := Room.units B.hr
  have hu5 := room65 B.hr
  have nd := sc_raised.nd
  s_cons (s_set (i := 1) nd rfl (.inl rfl) (q_callH h_raised_in hr B.tk rfl (a_cons (q_callH h_sure_lengths hr B.tk rfl (a_cons (q_rd 0) (a_nil)) (aCons_len aNil_len)) (a_nil)) (aCons_len aNil_len)))
 (s_cons (s_if (t_cmp op_gtA (ord_ok _ _) (nobehind _ (by decide) (by decide)) (q_max rfl rfl bl.b_max (q_lendN 1)) (q_gintE rfl bl.g_MOST_LENGTH)) (s_one (s_raise0 rfl B.tk ex.C rfl)) (s_nil))
 (s_one (s_ret (q_rd 1))))

abbrev st__law_box : Stmt := topS 48
theorem sc__law_box : FnScope ["script", "k", "bit_so"] ["script", "k"] (defScope st__law_box) := ⟨rfl, rfl, rfl, by decide +kernel, rfl, by decide +kernel, by decide +kernel⟩
theorem d__law_box {P : Program} {w : World} {K : PySem.W.Frag} {mg : Str → Option Value} {base : Heap} {k : Nat} (bl : Blt mg)  (cdv : Value) (Ar : Around) (outer : List Env) (s : Shared) (H : Hp) (E : XK) (f : Addr) (B : Bd (cxOf (L2.CX P w) P w K mg base ["script", "k", "bit_so"] "_law_box" (defScope st__law_box) f cdv Ar outer s H E) (fun c d _ H => E c d H) k) :
    PSs (cxOf (L2.CX P w) P w K mg base ["script", "k", "bit_so"] "_law_box" (defScope st__law_box) f cdv Ar outer s H E) (defBody st__law_box) (tR K (fun c d _ H => E c d H) (m__law_box )) :=
  have hr := B.hr
  have hu := Room.units B.hr
  have hu5 := room65 B.hr
  have nd := sc__law_box.nd
  r_cons (s_set (i := 2) nd rfl (.inl rfl) (q_if (t_cmp op_ltA (ord_ok _ _) (nobehind _ (by decide) (by decide)) (q_rd 1) (q_len rfl bl.b_len (q_lendN 0))) (q_ixN 0 (q_rd 1)) (q_int)))
 (r_one (s_retF (f_lst (a_cons (q_mul (q_abs rfl bl.b_abs (q_lendN 2)) (q_intS rfl bl.b_int (q_lend (q_cmp op_geA (ord_ok _ _) (nobehind _ (by decide) (by decide)) (q_abs rfl bl.b_abs (q_lendN 2)) (q_pow (q_int) (q_int)))))) (a_cons (q_add (q_add (q_mod (q_intS rfl bl.b_int (q_lendN 2)) (q_int)) (q_mul (q_int) (q_rd 1))) (q_int)) (a_cons (q_int) (a_nil)))))))

abbrev st__law_take : Stmt := topS 49
theorem sc__law_take : FnScope ["tin", "below_so", "once_so", "wide_so", "twice_so", "drawn_so"] ["tin", "below_so"] (defScope st__law_take) := ⟨rfl, rfl, rfl, by decide +kernel, rfl, by decide +kernel, by decide +kernel⟩
theorem d__law_take {P : Program} {w : World} {K : PySem.W.Frag} {mg : Str → Option Value} {base : Heap} {k : Nat} (bl : Blt mg)  (cdv : Value) (Ar : Around) (outer : List Env) (s : Shared) (H : Hp) (E : XK) (f : Addr) (B : Bd (cxOf (L2.CX P w) P w K mg base ["tin", "below_so", "once_so", "wide_so", "twice_so", "drawn_so"] "_law_take" (defScope st__law_take) f cdv Ar outer s H E) (fun c d _ H => E c d H) k) :
    PSs (cxOf (L2.CX P w) P w K mg base ["tin", "below_so", "once_so", "wide_so", "twice_so", "drawn_so"] "_law_take" (defScope st__law_take) f cdv Ar outer s H E) (defBody st__law_take) (tS K (fun c d _ H => E c d H) (m__law_take )) :=
  have hr := B.hr
  have hu := Room.units B.hr
  have hu5 := room65 B.hr
  have nd := sc__law_take.nd
  s_cons (s_if (t_cmp op_gtA (ord_ok _ _) (nobehind _ (by decide) (by decide)) (q_ixN 0 (q_int)) (q_int)) (s_cons (s_set (i := 5) nd rfl (.inl rfl) (q_mod (q_intS rfl bl.b_int (q_lend (q_ixN 0 (q_int)))) (q_rd 1)))
 (s_cons (s_putIx 0 (q_div (q_ixN 0 (q_int)) (q_rd 1)) (q_int))
 (s_one (s_ret (q_rd 5))))) (s_nil))
 (s_cons (s_putIx 0 (q_add (q_ixN 0 (q_int)) (q_int)) (q_int))
 (s_cons (s_set (i := 2) nd rfl (.inl rfl) (q_mod (q_intS rfl bl.b_int (q_lend (q_mul (q_add (q_ixN 0 (q_int)) (q_mul (q_int) (q_ixN 0 (q_int)))) (q_add (q_int) (q_ixN 0 (q_int)))))) (q_int)))
 (s_cons (s_set (i := 3) nd rfl (.inl rfl) (q_add (q_mod (q_intS rfl bl.b_int (q_lendN 2)) (q_int)) (q_int)))
 (s_cons (s_set (i := 4) nd rfl (.inl rfl) (q_mod (q_intS rfl bl.b_int (q_lend (q_mul (q_add (q_add (q_rd 2) (q_ixN 0 (q_int))) (q_div (q_ixN 0 (q_int)) (q_int))) (q_rd 3)))) (q_int)))
 (s_one (s_ret (q_mod (q_intS rfl bl.b_int (q_lend (q_div (q_mod (q_intS rfl bl.b_int (q_lend (q_add (q_mul (q_rd 4) (q_int)) (q_rd 2)))) (q_int)) (q_int)))) (q_rd 1))))))))

abbrev st__law_cells : Stmt := topS 50
theorem sc__law_cells : FnScope ["script", "most_so", "cells_so", "k", "bit_so", "at_so"] ["script", "most_so"] (defScope st__law_cells) := ⟨rfl, rfl, rfl, by decide +kernel, rfl, by decide +kernel, by decide +kernel⟩
theorem d__law_cells {P : Program} {w : World} {K : PySem.W.Frag} {mg : Str → Option Value} {base : Heap} {k : Nat} (bl : Blt mg)  (cdv : Value) (Ar : Around) (outer : List Env) (s : Shared) (H : Hp) (E : XK) (f : Addr) (B : Bd (cxOf (L2.CX P w) P w K mg base ["script", "most_so", "cells_so", "k", "bit_so", "at_so"] "_law_cells" (defScope st__law_cells) f cdv Ar outer s H E) (fun c d _ H => E c d H) k) :
    PSs (cxOf (L2.CX P w) P w K mg base ["script", "most_so", "cells_so", "k", "bit_so", "at_so"] "_law_cells" (defScope st__law_cells) f cdv Ar outer s H E) (defBody st__law_cells) (tS K (fun c d _ H => E c d H) (m__law_cells )) :=
  have hr := B.hr
  have hu := Room.units B.hr
  have hu5 := room65 B.hr
  have nd := sc__law_cells.nd
  s_cons (s_setF (i := 2) nd rfl (.inl rfl) (f_or (f_list rfl bl.b_list (q_lend (q_sl (q_rd 0) (o_no) (o_in (q_rd 1))))) (f_lst (a_cons (q_int) (a_nil)))))
 (s_cons (s_for B.po rfl (i_en rfl bl.b_enumerate (q_sl (q_rd 0) (o_in (q_rd 1)) (o_in (q_int)))) (g_tup rfl (g_cons (g_name (i := 3) nd rfl (.inl rfl)) (g_cons (g_name (i := 4) nd rfl (.inl rfl)) (g_nil))))
 (s_cons (s_set (i := 5) nd rfl (.inl rfl) (q_mod (q_intS rfl bl.b_int (q_lendN 3)) (q_rd 1)))
 (s_one (s_putIx 2 (q_add (q_ixN 2 (q_rd 5)) (q_mul (q_rd 4) (q_add (q_rd 3) (q_int)))) (q_rd 5)))))
 (s_one (s_ret (q_rd 2))))

abbrev st__law_same : Stmt := topS 51
theorem sc__law_same : FnScope ["got", "due", "mine", "its"] ["got", "due"] (defScope st__law_same) := ⟨rfl, rfl, rfl, by decide +kernel, rfl, by decide +kernel, by decide +kernel⟩
theorem d__law_same {P : Program} {w : World} {K : PySem.W.Frag} {mg : Str → Option Value} {base : Heap} {k : Nat} {rec : Fn} (bl : Blt mg) (h__law_same : Has P w K mg base "_law_same" 2 k (rec)) (cdv : Value) (Ar : Around) (outer : List Env) (s : Shared) (H : Hp) (E : XK) (f : Addr) (B : Bd (cxOf (L2.CX P w) P w K mg base ["got", "due", "mine", "its"] "_law_same" (defScope st__law_same) f cdv Ar outer s H E) (fun c d _ H => E c d H) k) :
    PSs (cxOf (L2.CX P w) P w K mg base ["got", "due", "mine", "its"] "_law_same" (defScope st__law_same) f cdv Ar outer s H E) (defBody st__law_same) (tS K (fun c d _ H => E c d H) (m__law_same rec)) :=
  have hr := B.hr
  have hu := Room.units B.hr
  have hu5 := room65 B.hr
  have nd := sc__law_same.nd
  s_cons (s_if (t_val (q_isi2 rfl bl.b_isinstance (q_lendN 1) rfl bl.b_list (by decide +kernel) (by decide) rfl bl.b_tuple (by decide +kernel) (by decide))) (s_cons (s_if (PW.pt (t_or (t_cmp (op_neA hu) neA_ok (nobehind _ (by decide) (by decide)) (q_isi rfl bl.b_isinstance (q_lendN 0) rfl bl.b_list (by decide +kernel) (by decide)) (q_isi rfl bl.b_isinstance (q_lendN 1) rfl bl.b_list (by decide +kernel) (by decide))) (t_or1 (t_cmp (op_neA hu) neA_ok (nobehind _ (by decide) (by decide)) (q_isi rfl bl.b_isinstance (q_lendN 0) rfl bl.b_tuple (by decide +kernel) (by decide)) (q_isi rfl bl.b_isinstance (q_lendN 1) rfl bl.b_tuple (by decide +kernel) (by decide)))))) (s_one (s_ret (q_bl))) (s_nil))
 (s_one (s_ret (q_and (q_cmp (op_eqA hu) eqA_ok (nobehind _ (by decide) (by decide)) (q_len rfl bl.b_len (q_lendN 0)) (q_len rfl bl.b_len (q_lendN 1))) (q_one (q_all rfl rfl bl.b_all (q_lendF (f_comp (own := [("mine", 2), ("its", 3)]) rfl nd (i_zp rfl bl.b_zip (q_rd 0) (q_rd 1)) (blkOk_by (N := ["got", "due", "mine", "its"]) (sc := defScope st__law_same) (by decide +kernel)) (by decide) (fun _ _ _ _ _ => g_tup rfl (g_cons (g_name (i := 2) nd rfl (.inl rfl)) (g_cons (g_name (i := 3) nd rfl (.inl rfl)) (g_nil)))) (fun _ _ _ _ _ => ts_nil) (fun _ _ _ _ _ => q_callH h__law_same hr takes_none5 rfl (a_cons (q_rd 2) (a_cons (q_rd 3) (a_nil))) (aCons_len (aCons_len aNil_len))))))))))) (s_nil))
 (s_cons (s_if (t_cmp op_isN isN_okB (nobehind _ (by decide) (by decide)) (q_rd 1) (q_non)) (s_one (s_ret (q_cmp op_isN isN_okB (nobehind _ (by decide) (by decide)) (q_rd 0) (q_non)))) (s_nil))
 (s_cons (s_if (t_val (q_isi2 rfl bl.b_isinstance (q_lendN 1) rfl bl.b_bool (by decide +kernel) (by decide) rfl bl.b_str (by decide +kernel) (by decide))) (s_one (s_ret (q_and (q_cmp (op_eqA hu) eqA_ok (nobehind _ (by decide) (by decide)) (q_isi rfl bl.b_isinstance (q_lendN 0) rfl bl.b_bool (by decide +kernel) (by decide)) (q_isi rfl bl.b_isinstance (q_lendN 1) rfl bl.b_bool (by decide +kernel) (by decide))) (q_and (q_cmp (op_eqA hu) eqA_ok (nobehind _ (by decide) (by decide)) (q_isi rfl bl.b_isinstance (q_lendN 0) rfl bl.b_str (by decide +kernel) (by decide)) (q_isi rfl bl.b_isinstance (q_lendN 1) rfl bl.b_str (by decide +kernel) (by decide))) (q_one (q_cmp (op_eqA hu) eqA_ok (nobehind _ (by decide) (by decide)) (q_rd 0) (q_rd 1))))))) (s_nil))
 (s_one (s_ret (q_and (q_isi rfl bl.b_isinstance (q_lendN 0) rfl bl.b_int (by decide +kernel) (by decide)) (q_and (q_not (q_isi rfl bl.b_isinstance (q_lendN 0) rfl bl.b_bool (by decide +kernel) (by decide))) (q_one (q_cmp (op_eqA hu) eqA_ok (nobehind _ (by decide) (by decide)) (q_rd 0) (q_rd 1)))))))))

abbrev st__law_put : Stmt := topS 52
theorem sc__law_put : FnScope ["row_so", "at_so", "bit_so"] ["row_so", "at_so", "bit_so"] (defScope st__law_put) := ⟨rfl, rfl, rfl, by decide +kernel, rfl, by decide +kernel, by decide +kernel⟩
theorem d__law_put {P : Program} {w : World} {K : PySem.W.Frag} {mg : Str → Option Value} {base : Heap} {k : Nat} (bl : Blt mg)  (cdv : Value) (Ar : Around) (outer : List Env) (s : Shared) (H : Hp) (E : XK) (f : Addr) (B : Bd (cxOf (L2.CX P w) P w K mg base ["row_so", "at_so", "bit_so"] "_law_put" (defScope st__law_put) f cdv Ar outer s H E) (fun c d _ H => E c d H) k) :
    PSs (cxOf (L2.CX P w) P w K mg base ["row_so", "at_so", "bit_so"] "_law_put" (defScope st__law_put) f cdv Ar outer s H E) (defBody st__law_put) (tS K (fun c d _ H => E c d H) (m__law_put )) :=
  have hr := B.hr
  have hu := Room.units B.hr
  have hu5 := room65 B.hr
  have nd := sc__law_put.nd
  s_one (s_ret (q_add (q_add (q_sl (q_rd 0) (o_no) (o_in (q_rd 1))) (q_tup (a_cons (q_rd 2) (a_nil)))) (q_sl (q_rd 0) (o_in (q_add (q_rd 1) (q_int))) (o_no))))

abbrev st__law_call : Stmt := topS 53
theorem sc__law_call : FnScope ["door_so", "goods_so"] ["door_so", "goods_so"] (defScope st__law_call) := ⟨rfl, rfl, rfl, by decide +kernel, rfl, by decide +kernel, by decide +kernel⟩
theorem d__law_call {P : Program} {w : World} {K : PySem.W.Frag} {mg : Str → Option Value} {base : Heap} {k : Nat} {T : Doors} (bl : Blt mg) (hT : ∀ a n F, T a = some (n, F) → HasA P w K mg base a n k F)  (cdv : Value) (Ar : Around) (outer : List Env) (s : Shared) (H : Hp) (E : XK) (f : Addr) (B : Bd (cxOf (L2.CX P w) P w K mg base ["door_so", "goods_so"] "_law_call" (defScope st__law_call) f cdv Ar outer s H E) (fun c d _ H => E c d H) k) :
    PSs (cxOf (L2.CX P w) P w K mg base ["door_so", "goods_so"] "_law_call" (defScope st__law_call) f cdv Ar outer s H E) (defBody st__law_call) (tS K (fun c d _ H => E c d H) (m__law_call T)) :=
  have hr := B.hr
  have hu := Room.units B.hr
  have hu5 := room65 B.hr
  have nd := sc__law_call.nd
  s_cons (s_if (t_cmp (op_eqA hu) eqA_ok (nobehind _ (by decide) (by decide)) (q_len rfl bl.b_len (q_lendN 1)) (q_int)) (s_one (s_ret (q_callL 0 hT hr B.tk (a_cons (q_ixN 1 (q_int)) (a_nil)) (aCons_len aNil_len)))) (s_nil))
 (s_cons (s_if (t_cmp (op_eqA hu) eqA_ok (nobehind _ (by decide) (by decide)) (q_len rfl bl.b_len (q_lendN 1)) (q_int)) (s_one (s_ret (q_callL 0 hT hr B.tk (a_cons (q_ixN 1 (q_int)) (a_cons (q_ixN 1 (q_int)) (a_nil))) (aCons_len (aCons_len aNil_len))))) (s_nil))
 (s_cons (s_if (t_cmp (op_eqA hu) eqA_ok (nobehind _ (by decide) (by decide)) (q_len rfl bl.b_len (q_lendN 1)) (q_int)) (s_one (s_ret (q_callL 0 hT hr B.tk (a_cons (q_ixN 1 (q_int)) (a_cons (q_ixN 1 (q_int)) (a_cons (q_ixN 1 (q_int)) (a_nil)))) (aCons_len (aCons_len (aCons_len aNil_len)))))) (s_nil))
 (s_cons (s_if (t_cmp (op_eqA hu) eqA_ok (nobehind _ (by decide) (by decide)) (q_len rfl bl.b_len (q_lendN 1)) (q_int)) (s_one (s_ret (q_callL 0 hT hr B.tk (a_cons (q_ixN 1 (q_int)) (a_cons (q_ixN 1 (q_int)) (a_cons (q_ixN 1 (q_int)) (a_cons (q_ixN 1 (q_int)) (a_nil))))) (aCons_len (aCons_len (aCons_len (aCons_len aNil_len))))))) (s_nil))
 (s_one (s_ret (q_callL 0 hT hr B.tk (a_cons (q_ixN 1 (q_int)) (a_cons (q_ixN 1 (q_int)) (a_cons (q_ixN 1 (q_int)) (a_cons (q_ixN 1 (q_int)) (a_cons (q_ixN 1 (q_int)) (a_nil)))))) (aCons_len (aCons_len (aCons_len (aCons_len (aCons_len aNil_len)))))))))))

abbrev st__law_slip : Stmt := topS 54
theorem sc__law_slip : FnScope ["door_so", "goods_so", "slip_so", "slip_c", "slip_m", "slip_b"] ["door_so", "goods_so"] (defScope st__law_slip) := ⟨rfl, rfl, rfl, by decide +kernel, rfl, by decide +kernel, by decide +kernel⟩
theorem d__law_slip {P : Program} {w : World} {K : PySem.W.Frag} {mg : Str → Option Value} {base : Heap} {k : Nat} {A : Ad} {T : Doors} (bl : Blt mg) (ex : Exc K mg A) (dr : Dr mg A) (mt : Mt K A.mt) (hT : ∀ a n F, T a = some (n, F) → HasA P w K mg base a n k F) (h__law_call : Has P w K mg base "_law_call" 2 k (F__law_call T)) (cdv : Value) (Ar : Around) (outer : List Env) (s : Shared) (H : Hp) (E : XK) (f : Addr) (B : Bd (cxOf (L2.CX P w) P w K mg base ["door_so", "goods_so", "slip_so", "slip_c", "slip_m", "slip_b"] "_law_slip" (defScope st__law_slip) f cdv Ar outer s H E) (fun c d _ H => E c d H) k) :
    PSs (cxOf (L2.CX P w) P w K mg base ["door_so", "goods_so", "slip_so", "slip_c", "slip_m", "slip_b"] "_law_slip" (defScope st__law_slip) f cdv Ar outer s H E) (defBody st__law_slip) (tS K (fun c d _ H => E c d H) (m__law_slip A T)) :=
  have hr := B.hr
  have hu := Room.units B.hr
  have hu5 := room65 B.hr
  have nd := sc__law_slip.nd
  s_cons (s_try [(.ref A.U, 2, some (Str.ofString "unfit")), (.ref A.C, 3, some (Str.ofString "can not")), (.ref A.M, 4, some (Str.ofString "many")), (.ref A.B, 5, none)] mt rfl rfl nd B.tk (fun W pn xe tk po => have B := Bd.tr B tk po; s_one (s_expr (q_callH h__law_call hr B.tk rfl (a_cons (q_rd 0) (a_cons (q_rd 1) (a_nil))) (aCons_len (aCons_len aNil_len))))) (hd_ret mt rfl rfl (names_own rfl ex.U.mg) rfl bl.b_isinstance rfl bl.b_ValueError (hd_ret mt rfl rfl (names_own rfl ex.C.mg) rfl bl.b_isinstance rfl bl.b_ValueError (hd_ret mt rfl rfl (names_own rfl ex.M.mg) rfl bl.b_isinstance rfl bl.b_ValueError (hd_no rfl rfl (names_own rfl ex.B.mg) .nil)))))
 (s_one (s_ret (q_str)))

abbrev st__law_two : Stmt := topS 55
theorem sc__law_two : FnScope ["many_so", "found", "turn"] ["many_so"] (defScope st__law_two) := ⟨rfl, rfl, rfl, by decide +kernel, rfl, by decide +kernel, by decide +kernel⟩
theorem d__law_two {P : Program} {w : World} {K : PySem.W.Frag} {mg : Str → Option Value} {base : Heap} {k : Nat} (bl : Blt mg)  (cdv : Value) (Ar : Around) (outer : List Env) (s : Shared) (H : Hp) (E : XK) (f : Addr) (B : Bd (cxOf (L2.CX P w) P w K mg base ["many_so", "found", "turn"] "_law_two" (defScope st__law_two) f cdv Ar outer s H E) (fun c d _ H => E c d H) k) :
    PSs (cxOf (L2.CX P w) P w K mg base ["many_so", "found", "turn"] "_law_two" (defScope st__law_two) f cdv Ar outer s H E) (defBody st__law_two) (tS K (fun c d _ H => E c d H) (m__law_two )) :=
  have hr := B.hr
  have hu := Room.units B.hr
  have hu5 := room65 B.hr
  have nd := sc__law_two.nd
  s_cons (s_set (i := 1) nd rfl (.inl rfl) (q_int))
 (s_cons (s_for B.po rfl (i_rg1 rfl bl.b_range (q_rd 0)) (g_name (i := 2) nd rfl (.inl rfl))
 (s_one (s_set (i := 1) nd rfl (.inl rfl) (q_add (q_rd 1) (q_rd 1)))))
 (s_one (s_ret (q_rd 1))))

abbrev st__law_share : Stmt := topS 56
theorem sc__law_share : FnScope ["above_so", "power_so", "turn"] ["above_so", "power_so"] (defScope st__law_share) := ⟨rfl, rfl, rfl, by decide +kernel, rfl, by decide +kernel, by decide +kernel⟩
theorem d__law_share {P : Program} {w : World} {K : PySem.W.Frag} {mg : Str → Option Value} {base : Heap} {k : Nat} (bl : Blt mg)  (cdv : Value) (Ar : Around) (outer : List Env) (s : Shared) (H : Hp) (E : XK) (f : Addr) (B : Bd (cxOf (L2.CX P w) P w K mg base ["above_so", "power_so", "turn"] "_law_share" (defScope st__law_share) f cdv Ar outer s H E) (fun c d _ H => E c d H) k) :
    PSs (cxOf (L2.CX P w) P w K mg base ["above_so", "power_so", "turn"] "_law_share" (defScope st__law_share) f cdv Ar outer s H E) (defBody st__law_share) (tS K (fun c d _ H => E c d H) (m__law_share )) :=
  have hr := B.hr
  have hu := Room.units B.hr
  have hu5 := room65 B.hr
  have nd := sc__law_share.nd
  s_cons (s_for B.po rfl (i_rg1 rfl bl.b_range (q_rd 1)) (g_name (i := 2) nd rfl (.inl rfl))
 (s_one (s_if (PW.pt (t_and (t_cmp op_gtA (ord_ok _ _) (nobehind _ (by decide) (by decide)) (q_rd 1) (q_int)) (t_and1 (t_cmp (op_eqA hu) eqA_ok (nobehind _ (by decide) (by decide)) (q_mod (q_rd 0) (q_int)) (q_int))))) (s_one (s_parV (i := 0) (j := 1) rfl nd rfl rfl (by decide) rfl rfl (v_val (q_div (q_rd 0) (q_int))) (v_val (q_sub (q_rd 1) (q_int))))) (s_nil))))
 (s_one (s_ret (q_tup (a_cons (q_rd 0) (a_cons (q_rd 1) (a_nil))))))

abbrev st__law_sums : Stmt := topS 57
theorem sc__law_sums : FnScope ["lengths_so", "own", "most_so", "here", "found", "bit_so"] ["lengths_so"] (defScope st__law_sums) := ⟨rfl, rfl, rfl, by decide +kernel, rfl, by decide +kernel, by decide +kernel⟩
theorem d__law_sums {P : Program} {w : World} {K : PySem.W.Frag} {mg : Str → Option Value} {base : Heap} {k : Nat} (bl : Blt mg) (h__law_two : Has P w K mg base "_law_two" 1 k (F__law_two)) (cdv : Value) (Ar : Around) (outer : List Env) (s : Shared) (H : Hp) (E : XK) (f : Addr) (B : Bd (cxOf (L2.CX P w) P w K mg base ["lengths_so", "own", "most_so", "here", "found", "bit_so"] "_law_sums" (defScope st__law_sums) f cdv Ar outer s H E) (fun c d _ H => E c d H) k) :
    PSs (cxOf (L2.CX P w) P w K mg base ["lengths_so", "own", "most_so", "here", "found", "bit_so"] "_law_sums" (defScope st__law_sums) f cdv Ar outer s H E) (defBody st__law_sums) (tS K (fun c d _ H => E c d H) (m__law_sums )) :=
  have hr := B.hr
  have hu := Room.units B.hr
  have hu5 := room65 B.hr
  have nd := sc__law_sums.nd
  s_cons (s_par3V (i := 2) (j := 3) (l := 4) rfl nd rfl rfl rfl (by decide) (by decide) (by decide) rfl rfl rfl (v_val (q_max rfl rfl bl.b_max (q_lendN 0))) (v_val (q_int)) (v_new (f_lst (a_nil))))
 (s_cons (s_for B.po rfl (i_seq (q_rd 0)) (g_name (i := 1) nd rfl (.inl rfl))
 (s_cons (s_set (i := 5) nd rfl (.inl rfl) (q_callH h__law_two hr B.tk rfl (a_cons (q_sub (q_rd 2) (q_rd 1)) (a_nil)) (aCons_len aNil_len)))
 (s_cons (s_set (i := 3) nd rfl (.inl rfl) (q_add (q_add (q_rd 3) (q_mod (q_sub (q_int) (q_rd 3)) (q_rd 5))) (q_rd 5)))
 (s_one (s_expr (q_append 4 (q_rd 3)))))))
 (s_one (s_ret (q_rd 4))))

abbrev st__law_bar : Stmt := topS 58
theorem sc__law_bar : FnScope ["lengths_so", "falls_so", "k", "own"] ["lengths_so"] (defScope st__law_bar) := ⟨rfl, rfl, rfl, by decide +kernel, rfl, by decide +kernel, by decide +kernel⟩
theorem d__law_bar {P : Program} {w : World} {K : PySem.W.Frag} {mg : Str → Option Value} {base : Heap} {k : Nat} (bl : Blt mg) (h__law_sums : Has P w K mg base "_law_sums" 1 k (F__law_sums)) (h__law_two : Has P w K mg base "_law_two" 1 k (F__law_two)) (cdv : Value) (Ar : Around) (outer : List Env) (s : Shared) (H : Hp) (E : XK) (f : Addr) (B : Bd (cxOf (L2.CX P w) P w K mg base ["lengths_so", "falls_so", "k", "own"] "_law_bar" (defScope st__law_bar) f cdv Ar outer s H E) (fun c d _ H => E c d H) k) :
    PSs (cxOf (L2.CX P w) P w K mg base ["lengths_so", "falls_so", "k", "own"] "_law_bar" (defScope st__law_bar) f cdv Ar outer s H E) (defBody st__law_bar) (tS K (fun c d _ H => E c d H) (m__law_bar )) :=
  have hr := B.hr
  have hu := Room.units B.hr
  have hu5 := room65 B.hr
  have nd := sc__law_bar.nd
  s_cons (s_setLc (i := 1) (own := [("k", 2), ("own", 3)]) rfl nd rfl rfl (sw_true rfl rfl rfl (by decide +kernel)) (i_en rfl bl.b_enumerate (q_callH h__law_sums hr B.tk rfl (a_cons (q_rd 0) (a_nil)) (aCons_len aNil_len))) (blkOk_by (N := ["lengths_so", "falls_so", "k", "own"]) (sc := defScope st__law_bar) (by decide +kernel)) (by decide) (fun _ _ _ _ _ => g_tup rfl (g_cons (g_name (i := 2) nd rfl (.inl rfl)) (g_cons (g_name (i := 3) nd rfl (.inl rfl)) (g_nil)))) (fun _ _ _ _ _ => ts_one (t_cmp op_gtA (ord_ok _ _) (nobehind _ (by decide) (by decide)) (q_rd 3) (q_callH h__law_two hr takes_none5 rfl (a_cons (q_max rfl rfl bl.b_max (q_lendN 0)) (a_nil)) (aCons_len aNil_len)))) (fun _ _ _ _ _ => q_rd 2))
 (s_one (s_ret (q_if (t_cmpN 1 (op_neA hu) neL_ok (nobehind _ (by decide) (by decide)) (q_fz (f_lst (a_nil)))) (q_ixN 1 (q_int)) (q_non))))

abbrev st_law : Stmt := topS 59
theorem sc_law : FnScope ["script", "tin", "lap", "row_so", "turn", "a", "b", "k", "nexts_so", "most_so", "sums_so", "above_so", "power_so", "low_so", "own", "more_so"] ["script"] (defScope st_law) := ⟨rfl, rfl, rfl, by decide +kernel, rfl, by decide +kernel, by decide +kernel⟩
theorem d_law {P : Program} {w : World} {K : PySem.W.Frag} {mg : Str → Option Value} {base : Heap} {k : Nat} {A : Ad} {T : Doors} (bl : Blt mg) (ex : Exc K mg A) (dr : Dr mg A) (mt : Mt K A.mt) (hT : ∀ a n F, T a = some (n, F) → HasA P w K mg base a n k F) (h__law_bar : Has P w K mg base "_law_bar" 1 k (F__law_bar)) (h__law_cells : Has P w K mg base "_law_cells" 2 k (F__law_cells)) (h__law_put : Has P w K mg base "_law_put" 3 k (F__law_put)) (h__law_same : Has P w K mg base "_law_same" 2 k (F__law_same)) (h__law_share : Has P w K mg base "_law_share" 2 k (F__law_share)) (h__law_slip : Has P w K mg base "_law_slip" 2 k (F__law_slip A T)) (h__law_sums : Has P w K mg base "_law_sums" 1 k (F__law_sums)) (h__law_take : Has P w K mg base "_law_take" 2 k (F__law_take)) (h__law_two : Has P w K mg base "_law_two" 1 k (F__law_two)) (h_code_lengths : Has P w K mg base "code_lengths" 1 k (F_code_lengths A)) (h_have_code : Has P w K mg base "have_code" 1 k (F_have_code A)) (h_is_code : Has P w K mg base "is_code" 1 k (F_is_code)) (h_least_code : Has P w K mg base "least_code" 1 k (F_least_code A)) (h_left_of_stack : Has P w K mg base "left_of_stack" 1 k (F_left_of_stack A)) (h_length_bar : Has P w K mg base "length_bar" 1 k (F_length_bar A)) (h_length_sums : Has P w K mg base "length_sums" 1 k (F_length_sums A)) (h_lengths_share : Has P w K mg base "lengths_share" 1 k (F_lengths_share A)) (h_mirrored_code : Has P w K mg base "mirrored_code" 1 k (F_mirrored_code A)) (h_raised : Has P w K mg base "raised" 1 k (F_raised A)) (h_room_left : Has P w K mg base "room_left" 1 k (F_room_left A)) (h_shortest_next : Has P w K mg base "shortest_next" 1 k (F_shortest_next A)) (h_wasted : Has P w K mg base "wasted" 1 k (F_wasted A)) (h__law_box : HasB P w K mg base "_law_box" 2 k (B__law_box)) (cdv : Value) (Ar : Around) (outer : List Env) (s : Shared) (H : Hp) (E : XK) (f : Addr) (B : Bd (cxOf (L2.CX P w) P w K mg base ["script", "tin", "lap", "row_so", "turn", "a", "b", "k", "nexts_so", "most_so", "sums_so", "above_so", "power_so", "low_so", "own", "more_so"] "law" (defScope st_law) f cdv Ar outer s H E) (fun c d _ H => E c d H) k) :
    PSs (cxOf (L2.CX P w) P w K mg base ["script", "tin", "lap", "row_so", "turn", "a", "b", "k", "nexts_so", "most_so", "sums_so", "above_so", "power_so", "low_so", "own", "more_so"] "law" (defScope st_law) f cdv Ar outer s H E) (defBody st_law) (tB K (fun c d _ H => E c d H) (m_law A T)) :=
  have hr := B.hr
  have hu := Room.units B.hr
  have hu5 := room65 B.hr
  have nd := sc_law.nd
  box_cons (i := 1) h__law_box hr B.tk rfl (a_cons (q_callH h__law_cells hr B.tk rfl (a_cons (q_rd 0) (a_cons (q_int) (a_nil))) (aCons_len (aCons_len aNil_len))) (a_cons (q_int) (a_nil))) (aCons_len (aCons_len aNil_len)) nd rfl (.inl rfl)
 (s_cons (s_for B.po rfl (i_rg1 rfl bl.b_range (q_int)) (g_name (i := 2) nd rfl (.inl rfl))
 (s_cons (s_set (i := 3) nd rfl (.inr rfl) (q_tup (a_cons (q_add (q_int) (q_callH h__law_take hr B.tk rfl (a_cons (q_rd 1) (a_cons (q_int) (a_nil))) (aCons_len (aCons_len aNil_len)))) (a_nil))))
 (s_cons (s_for B.po rfl (i_rg1 rfl bl.b_range (q_int)) (g_name (i := 4) nd rfl (.inl rfl))
 (s_cons (s_setLc (i := 8) (own := [("k", 7)]) rfl nd rfl rfl (sw_true rfl rfl rfl (by decide +kernel)) (i_rg1 rfl bl.b_range (q_int)) (blkOk_by (N := ["script", "tin", "lap", "row_so", "turn", "a", "b", "k", "nexts_so", "most_so", "sums_so", "above_so", "power_so", "low_so", "own", "more_so"]) (sc := defScope st_law) (by decide +kernel)) (by decide) (fun _ _ _ _ _ => g_name (i := 7) nd rfl (.inl rfl)) (fun _ _ _ _ _ => ts_one (t_cmp op_isN isN_okB (nobehind _ (by decide) (by decide)) (q_callH h__law_bar hr takes_none5 rfl (a_cons (q_add (q_rd 3) (q_tup (a_cons (q_rd 7) (a_nil)))) (a_nil)) (aCons_len aNil_len)) (q_non))) (fun _ _ _ _ _ => q_rd 7))
 (s_one (s_if (t_cmp (op_eqA hu) eqA_ok (nobehind _ (by decide) (by decide)) (q_callH h__law_slip hr B.tk rfl (a_cons (q_gfn rfl dr.f_shortest_next) (a_cons (q_fz (f_lst (a_cons (q_rd 3) (a_nil)))) (a_nil))) (aCons_len (aCons_len aNil_len))) (q_str)) (s_cons (s_set (i := 13) nd rfl (.inl rfl) (q_callH h_shortest_next hr B.tk rfl (a_cons (q_rd 3) (a_nil)) (aCons_len aNil_len)))
 (s_cons (s_if (PW.pt (t_or (PW.pt (t_and (t_cmp op_ltA (ord_ok _ _) (nobehind _ (by decide) (by decide)) (q_rd 13) (q_int)) (t_and1 (PW.pt (t_or (t_cmpN 8 (op_eqA hu) eqL_ok (nobehind _ (by decide) (by decide)) (q_fz (f_lst (a_nil)))) (t_or1 (t_cmp (op_neA hu) neA_ok (nobehind _ (by decide) (by decide)) (q_ixN 8 (q_int)) (q_rd 13)))))))) (t_or1 (t_cmp (op_neA hu) neA_ok (nobehind _ (by decide) (by decide)) (q_rd 8) (q_fz (f_rg2 rfl rfl bl.b_list rfl bl.b_range (q_rd 13) (q_int))))))) (s_one (s_ret (q_bl))) (s_nil))
 (s_cons (s_if (PW.pt (t_and (t_cmp op_gtA (ord_ok _ _) (nobehind _ (by decide) (by decide)) (q_rd 13) (q_int)) (t_and1 (t_not (t_val (q_callH h__law_same hr B.tk rfl (a_cons (q_callH h_length_bar hr B.tk rfl (a_cons (q_add (q_rd 3) (q_tup (a_cons (q_sub (q_rd 13) (q_int)) (a_nil)))) (a_nil)) (aCons_len aNil_len)) (a_cons (q_len rfl bl.b_len (q_lendN 3)) (a_nil))) (aCons_len (aCons_len aNil_len)))))))) (s_one (s_ret (q_bl))) (s_nil))
 (s_cons (s_set (i := 14) nd rfl (.inl rfl) (q_callH h_least_code hr B.tk rfl (a_cons (q_rd 3) (a_nil)) (aCons_len aNil_len)))
 (s_cons (s_set (i := 15) nd rfl (.inl rfl) (q_callH h_least_code hr B.tk rfl (a_cons (q_add (q_rd 3) (q_tup (a_cons (q_rd 13) (a_nil)))) (a_nil)) (aCons_len aNil_len)))
 (s_cons (s_if (PW.pt (t_or (t_cmp (op_neA hu) neA_ok (nobehind _ (by decide) (by decide)) (q_sl (q_rd 15) (o_no) (o_in (q_neg (q_int)))) (q_rd 14)) (t_or1 (t_not (t_val (q_callH h__law_same hr B.tk rfl (a_cons (q_fz (f_lst (a_cons (q_callH h_is_code hr B.tk rfl (a_cons (q_rd 15) (a_nil)) (aCons_len aNil_len)) (a_cons (q_len rfl bl.b_len (q_lend (q_ixN 15 (q_neg (q_int))))) (a_nil))))) (a_cons (q_fz (f_lst (a_cons (q_bl) (a_cons (q_rd 13) (a_nil))))) (a_nil))) (aCons_len (aCons_len aNil_len)))))))) (s_one (s_ret (q_bl))) (s_nil))
 (s_one (s_if (PW.pt (t_and (t_cmp op_gtA (ord_ok _ _) (nobehind _ (by decide) (by decide)) (q_callH h__law_take hr B.tk rfl (a_cons (q_rd 1) (a_cons (q_int) (a_nil))) (aCons_len (aCons_len aNil_len))) (q_int)) (t_and1 (t_cmp op_ltA (ord_ok _ _) (nobehind _ (by decide) (by decide)) (q_rd 13) (q_int))))) (s_one (s_set (i := 3) nd rfl (.inr rfl) (q_add (q_rd 3) (q_tup (a_cons (q_add (q_rd 13) (q_callH h__law_take hr B.tk rfl (a_cons (q_rd 1) (a_cons (q_int) (a_nil))) (aCons_len (aCons_len aNil_len)))) (a_nil)))))) (s_nil))))))))) (s_one (s_if (PW.pt (t_or (t_cmpN 8 (op_neA hu) neL_ok (nobehind _ (by decide) (by decide)) (q_fz (f_lst (a_nil)))) (t_or1 (t_cmp (op_neA hu) neA_ok (nobehind _ (by decide) (by decide)) (q_callH h_room_left hr B.tk rfl (a_cons (q_rd 3) (a_nil)) (aCons_len aNil_len)) (q_tup (a_cons (q_int) (a_cons (q_int) (a_nil)))))))) (s_one (s_ret (q_bl))) (s_nil)))))))
 (s_cons (s_asg (q_tup (a_cons (q_max rfl rfl bl.b_max (q_lendN 3)) (a_cons (q_callH h__law_sums hr B.tk rfl (a_cons (q_rd 3) (a_nil)) (aCons_len aNil_len)) (a_nil)))) (g_tup rfl (g_cons (g_name (i := 9) nd rfl (.inr rfl)) (g_cons (g_name (i := 10) nd rfl (.inl rfl)) (g_nil)))))
 (s_cons (s_if (t_not (t_val (q_callH h__law_same hr B.tk rfl (a_cons (q_fz (f_lst (a_cons (q_callH h_have_code hr B.tk rfl (a_cons (q_rd 3) (a_nil)) (aCons_len aNil_len)) (a_cons (q_callH h_length_sums hr B.tk rfl (a_cons (q_rd 3) (a_nil)) (aCons_len aNil_len)) (a_nil))))) (a_cons (q_fz (f_lst (a_cons (q_bl) (a_cons (q_tuple rfl bl.b_tuple (q_lendF (f_comp (own := [("own", 14)]) rfl nd (i_seq (q_rd 10)) (blkOk_by (N := ["script", "tin", "lap", "row_so", "turn", "a", "b", "k", "nexts_so", "most_so", "sums_so", "above_so", "power_so", "low_so", "own", "more_so"]) (sc := defScope st_law) (by decide +kernel)) (by decide) (fun _ _ _ _ _ => g_name (i := 14) nd rfl (.inl rfl)) (fun _ _ _ _ _ => ts_nil) (fun _ _ _ _ _ => q_callH h__law_share hr takes_none5 rfl (a_cons (q_rd 14) (a_cons (q_rd 9) (a_nil))) (aCons_len (aCons_len aNil_len)))))) (a_nil))))) (a_nil))) (aCons_len (aCons_len aNil_len))))) (s_one (s_ret (q_bl))) (s_nil))
 (s_cons (s_if (t_not (t_val (q_callH h__law_same hr B.tk rfl (a_cons (q_fz (f_lst (a_cons (q_callH h_wasted hr B.tk rfl (a_cons (q_rd 3) (a_nil)) (aCons_len aNil_len)) (a_nil)))) (a_cons (q_fz (f_lst (a_cons (q_callH h__law_share hr B.tk rfl (a_cons (q_sub (q_ixN 10 (q_neg (q_int))) (q_sum rfl rfl bl.b_sum (q_lendF (f_comp (own := [("k", 7)]) rfl nd (i_seq (q_rd 3)) (blkOk_by (N := ["script", "tin", "lap", "row_so", "turn", "a", "b", "k", "nexts_so", "most_so", "sums_so", "above_so", "power_so", "low_so", "own", "more_so"]) (sc := defScope st_law) (by decide +kernel)) (by decide) (fun _ _ _ _ _ => g_name (i := 7) nd rfl (.inl rfl)) (fun _ _ _ _ _ => ts_nil) (fun _ _ _ _ _ => q_callH h__law_two hr takes_none5 rfl (a_cons (q_sub (q_rd 9) (q_rd 7)) (a_nil)) (aCons_len aNil_len)))))) (a_cons (q_rd 9) (a_nil))) (aCons_len (aCons_len aNil_len))) (a_nil)))) (a_nil))) (aCons_len (aCons_len aNil_len))))) (s_one (s_ret (q_bl))) (s_nil))
 (s_cons (s_if (t_not (t_val (q_callH h__law_same hr B.tk rfl (a_cons (q_fz (f_lst (a_cons (q_callH h_room_left hr B.tk rfl (a_cons (q_rd 3) (a_nil)) (aCons_len aNil_len)) (a_nil)))) (a_cons (q_fz (f_lst (a_cons (q_callH h__law_share hr B.tk rfl (a_cons (q_sub (q_callH h__law_two hr B.tk rfl (a_cons (q_rd 9) (a_nil)) (aCons_len aNil_len)) (q_ixN 10 (q_neg (q_int)))) (a_cons (q_rd 9) (a_nil))) (aCons_len (aCons_len aNil_len))) (a_nil)))) (a_nil))) (aCons_len (aCons_len aNil_len))))) (s_one (s_ret (q_bl))) (s_nil))
 (s_cons (s_set (i := 5) nd rfl (.inl rfl) (q_callH h__law_take hr B.tk rfl (a_cons (q_rd 1) (a_cons (q_len rfl bl.b_len (q_lendN 3)) (a_nil))) (aCons_len (aCons_len aNil_len))))
 (s_cons (s_set (i := 6) nd rfl (.inl rfl) (q_add (q_add (q_rd 5) (q_int)) (q_callH h__law_take hr B.tk rfl (a_cons (q_rd 1) (a_cons (q_sub (q_len rfl bl.b_len (q_lendN 3)) (q_rd 5)) (a_nil))) (aCons_len (aCons_len aNil_len)))))
 (s_cons (s_if (t_not (t_val (q_callH h__law_same hr B.tk rfl (a_cons (q_fz (f_lst (a_cons (q_callH h_have_code hr B.tk rfl (a_cons (q_sl (q_rd 3) (o_no) (o_in (q_rd 6))) (a_nil)) (aCons_len aNil_len)) (a_cons (q_callH h_have_code hr B.tk rfl (a_cons (q_sl (q_rd 3) (o_in (q_rd 5)) (o_in (q_rd 6))) (a_nil)) (aCons_len aNil_len)) (a_cons (q_callH h_have_code hr B.tk rfl (a_cons (q_back (q_rd 3)) (a_nil)) (aCons_len aNil_len)) (a_nil)))))) (a_cons (q_fz (f_lst (a_cons (q_bl) (a_cons (q_bl) (a_cons (q_cmp op_isN isN_okB (nobehind _ (by decide) (by decide)) (q_callH h__law_bar hr B.tk rfl (a_cons (q_back (q_rd 3)) (a_nil)) (aCons_len aNil_len)) (q_non)) (a_nil)))))) (a_nil))) (aCons_len (aCons_len aNil_len))))) (s_one (s_ret (q_bl))) (s_nil))
 (s_cons (s_if (PW.pt (t_or (t_not (t_val (q_callH h__law_same hr B.tk rfl (a_cons (q_callH h_code_lengths hr B.tk rfl (a_cons (q_callH h_mirrored_code hr B.tk rfl (a_cons (q_callH h_least_code hr B.tk rfl (a_cons (q_rd 3) (a_nil)) (aCons_len aNil_len)) (a_nil)) (aCons_len aNil_len)) (a_nil)) (aCons_len aNil_len)) (a_cons (q_back (q_rd 3)) (a_nil))) (aCons_len (aCons_len aNil_len))))) (t_or1 (t_not (t_val (q_callH h_have_code hr B.tk rfl (a_cons (q_back (q_rd 3)) (a_nil)) (aCons_len aNil_len))))))) (s_one (s_ret (q_bl))) (s_nil))
 (s_cons (s_set (i := 7) nd rfl (.inl rfl) (q_callH h__law_take hr B.tk rfl (a_cons (q_rd 1) (a_cons (q_len rfl bl.b_len (q_lendN 3)) (a_nil))) (aCons_len (aCons_len aNil_len))))
 (s_cons (s_if (t_not (t_val (q_callH h__law_same hr B.tk rfl (a_cons (q_fz (f_lst (a_cons (q_callH h_have_code hr B.tk rfl (a_cons (q_tuple rfl bl.b_tuple (q_lendF (f_comp (own := [("own", 14)]) rfl nd (i_seq (q_rd 3)) (blkOk_by (N := ["script", "tin", "lap", "row_so", "turn", "a", "b", "k", "nexts_so", "most_so", "sums_so", "above_so", "power_so", "low_so", "own", "more_so"]) (sc := defScope st_law) (by decide +kernel)) (by decide) (fun _ _ _ _ _ => g_name (i := 14) nd rfl (.inl rfl)) (fun _ _ _ _ _ => ts_nil) (fun _ _ _ _ _ => q_add (q_rd 14) (q_int))))) (a_nil)) (aCons_len aNil_len)) (a_cons (q_callH h_have_code hr B.tk rfl (a_cons (q_callH h_raised hr B.tk rfl (a_cons (q_rd 3) (a_nil)) (aCons_len aNil_len)) (a_nil)) (aCons_len aNil_len)) (a_cons (q_callH h_have_code hr B.tk rfl (a_cons (q_callH h__law_put hr B.tk rfl (a_cons (q_rd 3) (a_cons (q_rd 7) (a_cons (q_add (q_ixN 3 (q_rd 7)) (q_int)) (a_nil)))) (aCons_len (aCons_len (aCons_len aNil_len)))) (a_nil)) (aCons_len aNil_len)) (a_nil)))))) (a_cons (q_fz (f_lst (a_cons (q_bl) (a_cons (q_bl) (a_cons (q_bl) (a_nil)))))) (a_nil))) (aCons_len (aCons_len aNil_len))))) (s_one (s_ret (q_bl))) (s_nil))
 (s_cons (s_asg (q_callH h_lengths_share hr B.tk rfl (a_cons (q_rd 3) (a_nil)) (aCons_len aNil_len)) (g_tup rfl (g_cons (g_name (i := 11) nd rfl (.inl rfl)) (g_cons (g_name (i := 12) nd rfl (.inl rfl)) (g_nil)))))
 (s_one (s_if (PW.pt (t_or (t_cmp op_gtA (ord_ok _ _) (nobehind _ (by decide) (by decide)) (q_rd 11) (q_callH h__law_two hr B.tk rfl (a_cons (q_rd 12) (a_nil)) (aCons_len aNil_len))) (t_or1 (t_cmp (op_neA hu) neA_ok (nobehind _ (by decide) (by decide)) (q_cmp (op_eqA hu) eqA_ok (nobehind _ (by decide) (by decide)) (q_callH h_left_of_stack hr B.tk rfl (a_cons (q_rd 3) (a_nil)) (aCons_len aNil_len)) (q_tup (a_cons (q_int) (a_nil)))) (q_cmp (op_eqA hu) eqA_ok (nobehind _ (by decide) (by decide)) (q_tup (a_cons (q_rd 11) (a_cons (q_rd 12) (a_nil)))) (q_tup (a_cons (q_int) (a_cons (q_int) (a_nil))))))))) (s_one (s_ret (q_bl))) (s_nil)))))))))))))))))
 (s_one (s_ret (q_bl))))

structure Df (K : PySem.W.Frag) (mg : Str → Option Value) : Prop where
  is_number : DefAt K mg "is_number" st_is_number ["thing"]
  is_within : DefAt K mg "is_within" st_is_within ["thing", "least", "most"]
  tupled : DefAt K mg "tupled" st_tupled ["value"]
  power_of_two : DefAt K mg "power_of_two" st_power_of_two ["many"]
  least_terms : DefAt K mg "least_terms" st_least_terms ["above", "power"]
  is_word_in : DefAt K mg "is_word_in" st_is_word_in ["thing"]
  does_begin : DefAt K mg "does_begin" st_does_begin ["one", "other"]
  is_code_in : DefAt K mg "is_code_in" st_is_code_in ["thing"]
  sure_code : DefAt K mg "sure_code" st_sure_code ["value"]
  are_lengths : DefAt K mg "are_lengths" st_are_lengths ["thing"]
  sure_lengths : DefAt K mg "sure_lengths" st_sure_lengths ["value"]
  share_in : DefAt K mg "share_in" st_share_in ["lengths"]
  word_of : DefAt K mg "word_of" st_word_of ["number", "length"]
  is_code : DefAt K mg "is_code" st_is_code ["thing"]
  code_lengths : DefAt K mg "code_lengths" st_code_lengths ["code"]
  lengths_share : DefAt K mg "lengths_share" st_lengths_share ["lengths"]
  sums_in : DefAt K mg "sums_in" st_sums_in ["lengths"]
  bar_in : DefAt K mg "bar_in" st_bar_in ["lengths"]
  words_by : DefAt K mg "words_by" st_words_by ["lengths"]
  wasted_in : DefAt K mg "wasted_in" st_wasted_in ["lengths"]
  have_code : DefAt K mg "have_code" st_have_code ["lengths"]
  length_sums : DefAt K mg "length_sums" st_length_sums ["lengths"]
  length_bar : DefAt K mg "length_bar" st_length_bar ["lengths"]
  least_code : DefAt K mg "least_code" st_least_code ["lengths"]
  wasted : DefAt K mg "wasted" st_wasted ["lengths"]
  room_left : DefAt K mg "room_left" st_room_left ["lengths"]
  shortest_next : DefAt K mg "shortest_next" st_shortest_next ["lengths"]
  stacked : DefAt K mg "stacked" st_stacked ["lengths"]
  left_of_stack : DefAt K mg "left_of_stack" st_left_of_stack ["lengths"]
  other_word : DefAt K mg "other_word" st_other_word ["word"]
  mirrored_in : DefAt K mg "mirrored_in" st_mirrored_in ["code"]
  mirrored_code : DefAt K mg "mirrored_code" st_mirrored_code ["code"]
  raised_in : DefAt K mg "raised_in" st_raised_in ["lengths"]
  raised : DefAt K mg "raised" st_raised ["lengths"]
  _law_box : DefAt K mg "_law_box" st__law_box ["script", "k"]
  _law_take : DefAt K mg "_law_take" st__law_take ["tin", "below_so"]
  _law_cells : DefAt K mg "_law_cells" st__law_cells ["script", "most_so"]
  _law_same : DefAt K mg "_law_same" st__law_same ["got", "due"]
  _law_put : DefAt K mg "_law_put" st__law_put ["row_so", "at_so", "bit_so"]
  _law_call : DefAt K mg "_law_call" st__law_call ["door_so", "goods_so"]
  _law_slip : DefAt K mg "_law_slip" st__law_slip ["door_so", "goods_so"]
  _law_two : DefAt K mg "_law_two" st__law_two ["many_so"]
  _law_share : DefAt K mg "_law_share" st__law_share ["above_so", "power_so"]
  _law_sums : DefAt K mg "_law_sums" st__law_sums ["lengths_so"]
  _law_bar : DefAt K mg "_law_bar" st__law_bar ["lengths_so"]
  law : DefAt K mg "law" st_law ["script"]
section
variable {P : Program} {w : World} {K : PySem.W.Frag} {mg : Str → Option Value} {base : Heap} {A : Ad} {T : Doors}
theorem h_is_number (D : Df K mg) (bl : Blt mg) : Has P w K mg base "is_number" 1 1 F_is_number :=
  has_of (k := 0) D.is_number sc_is_number rfl fun ds b e g => ⟨m_is_number, fun cdv Ar outer s H E f B => d_is_number bl  cdv Ar outer s H E f B, rfl⟩
theorem h_is_within (D : Df K mg) (bl : Blt mg) : Has P w K mg base "is_within" 3 2 F_is_within :=
  has_of (k := 1) D.is_within sc_is_within rfl fun ds b e g => ⟨m_is_within, fun cdv Ar outer s H E f B => d_is_within bl ((h_is_number D bl).up (by omega)) cdv Ar outer s H E f B, rfl⟩
theorem hr_tupled (D : Df K mg) (bl : Blt mg) : ∀ n, Has P w K mg base "tupled" 1 (n + 1) (FR_tupled n)
  | 0 => has_of (k := 0) D.tupled sc_tupled rfl fun ds b e g => absurd rfl g
  | n + 1 => (has_of (k := n + 1) D.tupled sc_tupled rfl fun ds b e g => ⟨m_tupled (FR_tupled n), fun cdv Ar outer s H E f B => d_tupled bl (hr_tupled D bl n) cdv Ar outer s H E f B, rfl⟩).up (by omega)
theorem h_tupled (D : Df K mg) (bl : Blt mg) : Has P w K mg base "tupled" 1 86 F_tupled := hr_tupled D bl 85
theorem h_power_of_two (D : Df K mg) (bl : Blt mg) : Has P w K mg base "power_of_two" 1 1 F_power_of_two :=
  has_of (k := 0) D.power_of_two sc_power_of_two rfl fun ds b e g => ⟨m_power_of_two, fun cdv Ar outer s H E f B => d_power_of_two bl  cdv Ar outer s H E f B, rfl⟩
theorem h_least_terms (D : Df K mg) (bl : Blt mg) : Has P w K mg base "least_terms" 2 1 F_least_terms :=
  has_of (k := 0) D.least_terms sc_least_terms rfl fun ds b e g => ⟨m_least_terms, fun cdv Ar outer s H E f B => d_least_terms bl  cdv Ar outer s H E f B, rfl⟩
theorem h_is_word_in (D : Df K mg) (bl : Blt mg) : Has P w K mg base "is_word_in" 1 1 F_is_word_in :=
  has_of (k := 0) D.is_word_in sc_is_word_in rfl fun ds b e g => ⟨m_is_word_in, fun cdv Ar outer s H E f B => d_is_word_in bl  cdv Ar outer s H E f B, rfl⟩
theorem h_does_begin (D : Df K mg) (bl : Blt mg) : Has P w K mg base "does_begin" 2 1 F_does_begin :=
  has_of (k := 0) D.does_begin sc_does_begin rfl fun ds b e g => ⟨m_does_begin, fun cdv Ar outer s H E f B => d_does_begin bl  cdv Ar outer s H E f B, rfl⟩
theorem h_is_code_in (D : Df K mg) (bl : Blt mg) : Has P w K mg base "is_code_in" 1 2 F_is_code_in :=
  has_of (k := 1) D.is_code_in sc_is_code_in rfl fun ds b e g => ⟨m_is_code_in, fun cdv Ar outer s H E f B => d_is_code_in bl ((h_does_begin D bl).up (by omega)) ((h_is_word_in D bl).up (by omega)) cdv Ar outer s H E f B, rfl⟩
theorem h_sure_code (D : Df K mg) (bl : Blt mg) (ex : Exc K mg A) (dr : Dr mg A) (mt : Mt K A.mt) : Has P w K mg base "sure_code" 1 87 (F_sure_code A) :=
  has_of (k := 86) D.sure_code sc_sure_code rfl fun ds b e g => ⟨m_sure_code A, fun cdv Ar outer s H E f B => d_sure_code bl ex dr mt ((h_is_code_in D bl).up (by omega)) ((h_tupled D bl).up (by omega)) cdv Ar outer s H E f B, rfl⟩
theorem h_are_lengths (D : Df K mg) (bl : Blt mg) : Has P w K mg base "are_lengths" 1 3 F_are_lengths :=
  has_of (k := 2) D.are_lengths sc_are_lengths rfl fun ds b e g => ⟨m_are_lengths, fun cdv Ar outer s H E f B => d_are_lengths bl ((h_is_within D bl).up (by omega)) cdv Ar outer s H E f B, rfl⟩
theorem h_sure_lengths (D : Df K mg) (bl : Blt mg) (ex : Exc K mg A) (dr : Dr mg A) (mt : Mt K A.mt) : Has P w K mg base "sure_lengths" 1 87 (F_sure_lengths A) :=
  has_of (k := 86) D.sure_lengths sc_sure_lengths rfl fun ds b e g => ⟨m_sure_lengths A, fun cdv Ar outer s H E f B => d_sure_lengths bl ex dr mt ((h_are_lengths D bl).up (by omega)) ((h_tupled D bl).up (by omega)) cdv Ar outer s H E f B, rfl⟩
theorem h_share_in (D : Df K mg) (bl : Blt mg) : Has P w K mg base "share_in" 1 2 F_share_in :=
  has_of (k := 1) D.share_in sc_share_in rfl fun ds b e g => ⟨m_share_in, fun cdv Ar outer s H E f B => d_share_in bl ((h_least_terms D bl).up (by omega)) ((h_power_of_two D bl).up (by omega)) cdv Ar outer s H E f B, rfl⟩
theorem h_word_of (D : Df K mg) (bl : Blt mg) : Has P w K mg base "word_of" 2 1 F_word_of :=
  has_of (k := 0) D.word_of sc_word_of rfl fun ds b e g => ⟨m_word_of, fun cdv Ar outer s H E f B => d_word_of bl  cdv Ar outer s H E f B, rfl⟩
theorem h_is_code (D : Df K mg) (bl : Blt mg) : Has P w K mg base "is_code" 1 3 F_is_code :=
  has_of (k := 2) D.is_code sc_is_code rfl fun ds b e g => ⟨m_is_code, fun cdv Ar outer s H E f B => d_is_code bl ((h_is_code_in D bl).up (by omega)) cdv Ar outer s H E f B, rfl⟩
theorem h_code_lengths (D : Df K mg) (bl : Blt mg) (ex : Exc K mg A) (dr : Dr mg A) (mt : Mt K A.mt) : Has P w K mg base "code_lengths" 1 88 (F_code_lengths A) :=
  has_of (k := 87) D.code_lengths sc_code_lengths rfl fun ds b e g => ⟨m_code_lengths A, fun cdv Ar outer s H E f B => d_code_lengths bl ex dr mt ((h_sure_code D bl ex dr mt).up (by omega)) cdv Ar outer s H E f B, rfl⟩
theorem h_lengths_share (D : Df K mg) (bl : Blt mg) (ex : Exc K mg A) (dr : Dr mg A) (mt : Mt K A.mt) : Has P w K mg base "lengths_share" 1 88 (F_lengths_share A) :=
  has_of (k := 87) D.lengths_share sc_lengths_share rfl fun ds b e g => ⟨m_lengths_share A, fun cdv Ar outer s H E f B => d_lengths_share bl ex dr mt ((h_share_in D bl).up (by omega)) ((h_sure_lengths D bl ex dr mt).up (by omega)) cdv Ar outer s H E f B, rfl⟩
theorem h_sums_in (D : Df K mg) (bl : Blt mg) : Has P w K mg base "sums_in" 1 2 F_sums_in :=
  has_of (k := 1) D.sums_in sc_sums_in rfl fun ds b e g => ⟨m_sums_in, fun cdv Ar outer s H E f B => d_sums_in bl ((h_power_of_two D bl).up (by omega)) cdv Ar outer s H E f B, rfl⟩
theorem h_bar_in (D : Df K mg) (bl : Blt mg) : Has P w K mg base "bar_in" 1 3 F_bar_in :=
  has_of (k := 2) D.bar_in sc_bar_in rfl fun ds b e g => ⟨m_bar_in, fun cdv Ar outer s H E f B => d_bar_in bl ((h_power_of_two D bl).up (by omega)) ((h_sums_in D bl).up (by omega)) cdv Ar outer s H E f B, rfl⟩
theorem h_words_by (D : Df K mg) (bl : Blt mg) : Has P w K mg base "words_by" 1 3 F_words_by :=
  has_of (k := 2) D.words_by sc_words_by rfl fun ds b e g => ⟨m_words_by, fun cdv Ar outer s H E f B => d_words_by bl ((h_power_of_two D bl).up (by omega)) ((h_sums_in D bl).up (by omega)) ((h_word_of D bl).up (by omega)) cdv Ar outer s H E f B, rfl⟩
theorem h_wasted_in (D : Df K mg) (bl : Blt mg) : Has P w K mg base "wasted_in" 1 3 F_wasted_in :=
  has_of (k := 2) D.wasted_in sc_wasted_in rfl fun ds b e g => ⟨m_wasted_in, fun cdv Ar outer s H E f B => d_wasted_in bl ((h_power_of_two D bl).up (by omega)) ((h_sums_in D bl).up (by omega)) cdv Ar outer s H E f B, rfl⟩
theorem h_have_code (D : Df K mg) (bl : Blt mg) (ex : Exc K mg A) (dr : Dr mg A) (mt : Mt K A.mt) : Has P w K mg base "have_code" 1 88 (F_have_code A) :=
  has_of (k := 87) D.have_code sc_have_code rfl fun ds b e g => ⟨m_have_code A, fun cdv Ar outer s H E f B => d_have_code bl ex dr mt ((h_bar_in D bl).up (by omega)) ((h_sure_lengths D bl ex dr mt).up (by omega)) cdv Ar outer s H E f B, rfl⟩
theorem h_length_sums (D : Df K mg) (bl : Blt mg) (ex : Exc K mg A) (dr : Dr mg A) (mt : Mt K A.mt) : Has P w K mg base "length_sums" 1 88 (F_length_sums A) :=
  has_of (k := 87) D.length_sums sc_length_sums rfl fun ds b e g => ⟨m_length_sums A, fun cdv Ar outer s H E f B => d_length_sums bl ex dr mt ((h_least_terms D bl).up (by omega)) ((h_sums_in D bl).up (by omega)) ((h_sure_lengths D bl ex dr mt).up (by omega)) cdv Ar outer s H E f B, rfl⟩
theorem h_length_bar (D : Df K mg) (bl : Blt mg) (ex : Exc K mg A) (dr : Dr mg A) (mt : Mt K A.mt) : Has P w K mg base "length_bar" 1 88 (F_length_bar A) :=
  has_of (k := 87) D.length_bar sc_length_bar rfl fun ds b e g => ⟨m_length_bar A, fun cdv Ar outer s H E f B => d_length_bar bl ex dr mt ((h_bar_in D bl).up (by omega)) ((h_sure_lengths D bl ex dr mt).up (by omega)) cdv Ar outer s H E f B, rfl⟩
theorem h_least_code (D : Df K mg) (bl : Blt mg) (ex : Exc K mg A) (dr : Dr mg A) (mt : Mt K A.mt) : Has P w K mg base "least_code" 1 88 (F_least_code A) :=
  has_of (k := 87) D.least_code sc_least_code rfl fun ds b e g => ⟨m_least_code A, fun cdv Ar outer s H E f B => d_least_code bl ex dr mt ((h_bar_in D bl).up (by omega)) ((h_sure_lengths D bl ex dr mt).up (by omega)) ((h_words_by D bl).up (by omega)) cdv Ar outer s H E f B, rfl⟩
theorem h_wasted (D : Df K mg) (bl : Blt mg) (ex : Exc K mg A) (dr : Dr mg A) (mt : Mt K A.mt) : Has P w K mg base "wasted" 1 88 (F_wasted A) :=
  has_of (k := 87) D.wasted sc_wasted rfl fun ds b e g => ⟨m_wasted A, fun cdv Ar outer s H E f B => d_wasted bl ex dr mt ((h_least_terms D bl).up (by omega)) ((h_sure_lengths D bl ex dr mt).up (by omega)) ((h_wasted_in D bl).up (by omega)) cdv Ar outer s H E f B, rfl⟩
theorem h_room_left (D : Df K mg) (bl : Blt mg) (ex : Exc K mg A) (dr : Dr mg A) (mt : Mt K A.mt) : Has P w K mg base "room_left" 1 88 (F_room_left A) :=
  has_of (k := 87) D.room_left sc_room_left rfl fun ds b e g => ⟨m_room_left A, fun cdv Ar outer s H E f B => d_room_left bl ex dr mt ((h_bar_in D bl).up (by omega)) ((h_least_terms D bl).up (by omega)) ((h_power_of_two D bl).up (by omega)) ((h_sums_in D bl).up (by omega)) ((h_sure_lengths D bl ex dr mt).up (by omega)) cdv Ar outer s H E f B, rfl⟩
theorem h_shortest_next (D : Df K mg) (bl : Blt mg) (ex : Exc K mg A) (dr : Dr mg A) (mt : Mt K A.mt) : Has P w K mg base "shortest_next" 1 88 (F_shortest_next A) :=
  has_of (k := 87) D.shortest_next sc_shortest_next rfl fun ds b e g => ⟨m_shortest_next A, fun cdv Ar outer s H E f B => d_shortest_next bl ex dr mt ((h_bar_in D bl).up (by omega)) ((h_sure_lengths D bl ex dr mt).up (by omega)) cdv Ar outer s H E f B, rfl⟩
theorem h_stacked (D : Df K mg) (bl : Blt mg) : Has P w K mg base "stacked" 1 1 F_stacked :=
  has_of (k := 0) D.stacked sc_stacked rfl fun ds b e g => ⟨m_stacked, fun cdv Ar outer s H E f B => d_stacked bl  cdv Ar outer s H E f B, rfl⟩
theorem h_left_of_stack (D : Df K mg) (bl : Blt mg) (ex : Exc K mg A) (dr : Dr mg A) (mt : Mt K A.mt) : Has P w K mg base "left_of_stack" 1 88 (F_left_of_stack A) :=
  has_of (k := 87) D.left_of_stack sc_left_of_stack rfl fun ds b e g => ⟨m_left_of_stack A, fun cdv Ar outer s H E f B => d_left_of_stack bl ex dr mt ((h_stacked D bl).up (by omega)) ((h_sure_lengths D bl ex dr mt).up (by omega)) cdv Ar outer s H E f B, rfl⟩
theorem h_other_word (D : Df K mg) (bl : Blt mg) : Has P w K mg base "other_word" 1 1 F_other_word :=
  has_of (k := 0) D.other_word sc_other_word rfl fun ds b e g => ⟨m_other_word, fun cdv Ar outer s H E f B => d_other_word bl  cdv Ar outer s H E f B, rfl⟩
theorem h_mirrored_in (D : Df K mg) (bl : Blt mg) : Has P w K mg base "mirrored_in" 1 2 F_mirrored_in :=
  has_of (k := 1) D.mirrored_in sc_mirrored_in rfl fun ds b e g => ⟨m_mirrored_in, fun cdv Ar outer s H E f B => d_mirrored_in bl ((h_other_word D bl).up (by omega)) cdv Ar outer s H E f B, rfl⟩
theorem h_mirrored_code (D : Df K mg) (bl : Blt mg) (ex : Exc K mg A) (dr : Dr mg A) (mt : Mt K A.mt) : Has P w K mg base "mirrored_code" 1 88 (F_mirrored_code A) :=
  has_of (k := 87) D.mirrored_code sc_mirrored_code rfl fun ds b e g => ⟨m_mirrored_code A, fun cdv Ar outer s H E f B => d_mirrored_code bl ex dr mt ((h_mirrored_in D bl).up (by omega)) ((h_sure_code D bl ex dr mt).up (by omega)) cdv Ar outer s H E f B, rfl⟩
theorem h_raised_in (D : Df K mg) (bl : Blt mg) : Has P w K mg base "raised_in" 1 1 F_raised_in :=
  has_of (k := 0) D.raised_in sc_raised_in rfl fun ds b e g => ⟨m_raised_in, fun cdv Ar outer s H E f B => d_raised_in bl  cdv Ar outer s H E f B, rfl⟩
theorem h_raised (D : Df K mg) (bl : Blt mg) (ex : Exc K mg A) (dr : Dr mg A) (mt : Mt K A.mt) : Has P w K mg base "raised" 1 88 (F_raised A) :=
  has_of (k := 87) D.raised sc_raised rfl fun ds b e g => ⟨m_raised A, fun cdv Ar outer s H E f B => d_raised bl ex dr mt ((h_raised_in D bl).up (by omega)) ((h_sure_lengths D bl ex dr mt).up (by omega)) cdv Ar outer s H E f B, rfl⟩
theorem h__law_box (D : Df K mg) (bl : Blt mg) : HasB P w K mg base "_law_box" 2 1 B__law_box :=
  hasB_of (k := 0) D._law_box sc__law_box rfl fun ds b hl hb => by
    have : ∃ i, ds = [.lst [.int i], .int 0] ∧ b = boxOf i := by
      unfold B__law_box at hb
      split at hb
      · next i => exact ⟨i, rfl, (Option.some.inj hb).symm⟩
      · cases hb
    obtain ⟨i, rfl, rfl⟩ := this
    exact ⟨_, fun cdv A outer s H E f B => d__law_box bl cdv A outer s H E f B, e_box i⟩

theorem h__law_take (D : Df K mg) (bl : Blt mg) : Has P w K mg base "_law_take" 2 1 F__law_take :=
  has_of (k := 0) D._law_take sc__law_take rfl fun ds b e g => ⟨m__law_take, fun cdv Ar outer s H E f B => d__law_take bl  cdv Ar outer s H E f B, rfl⟩
theorem h__law_cells (D : Df K mg) (bl : Blt mg) : Has P w K mg base "_law_cells" 2 1 F__law_cells :=
  has_of (k := 0) D._law_cells sc__law_cells rfl fun ds b e g => ⟨m__law_cells, fun cdv Ar outer s H E f B => d__law_cells bl  cdv Ar outer s H E f B, rfl⟩
theorem hr__law_same (D : Df K mg) (bl : Blt mg) : ∀ n, Has P w K mg base "_law_same" 2 (n + 1) (FR__law_same n)
  | 0 => has_of (k := 0) D._law_same sc__law_same rfl fun ds b e g => absurd rfl g
  | n + 1 => (has_of (k := n + 1) D._law_same sc__law_same rfl fun ds b e g => ⟨m__law_same (FR__law_same n), fun cdv Ar outer s H E f B => d__law_same bl (hr__law_same D bl n) cdv Ar outer s H E f B, rfl⟩).up (by omega)
theorem h__law_same (D : Df K mg) (bl : Blt mg) : Has P w K mg base "_law_same" 2 86 F__law_same := hr__law_same D bl 85
theorem h__law_put (D : Df K mg) (bl : Blt mg) : Has P w K mg base "_law_put" 3 1 F__law_put :=
  has_of (k := 0) D._law_put sc__law_put rfl fun ds b e g => ⟨m__law_put, fun cdv Ar outer s H E f B => d__law_put bl  cdv Ar outer s H E f B, rfl⟩
theorem h__law_call (D : Df K mg) (bl : Blt mg) (hT : ∀ a n F, T a = some (n, F) → HasA P w K mg base a n 88 F) : Has P w K mg base "_law_call" 2 89 (F__law_call T) :=
  has_of (k := 88) D._law_call sc__law_call rfl fun ds b e g => ⟨m__law_call T, fun cdv Ar outer s H E f B => d__law_call bl (fun a n F e => (hT a n F e).up (by omega))  cdv Ar outer s H E f B, rfl⟩
theorem h__law_slip (D : Df K mg) (bl : Blt mg) (ex : Exc K mg A) (dr : Dr mg A) (mt : Mt K A.mt) (hT : ∀ a n F, T a = some (n, F) → HasA P w K mg base a n 88 F) : Has P w K mg base "_law_slip" 2 90 (F__law_slip A T) :=
  has_of (k := 89) D._law_slip sc__law_slip rfl fun ds b e g => ⟨m__law_slip A T, fun cdv Ar outer s H E f B => d__law_slip bl ex dr mt (fun a n F e => (hT a n F e).up (by omega)) ((h__law_call D bl hT).up (by omega)) cdv Ar outer s H E f B, rfl⟩
theorem h__law_two (D : Df K mg) (bl : Blt mg) : Has P w K mg base "_law_two" 1 1 F__law_two :=
  has_of (k := 0) D._law_two sc__law_two rfl fun ds b e g => ⟨m__law_two, fun cdv Ar outer s H E f B => d__law_two bl  cdv Ar outer s H E f B, rfl⟩
theorem h__law_share (D : Df K mg) (bl : Blt mg) : Has P w K mg base "_law_share" 2 1 F__law_share :=
  has_of (k := 0) D._law_share sc__law_share rfl fun ds b e g => ⟨m__law_share, fun cdv Ar outer s H E f B => d__law_share bl  cdv Ar outer s H E f B, rfl⟩
theorem h__law_sums (D : Df K mg) (bl : Blt mg) : Has P w K mg base "_law_sums" 1 2 F__law_sums :=
  has_of (k := 1) D._law_sums sc__law_sums rfl fun ds b e g => ⟨m__law_sums, fun cdv Ar outer s H E f B => d__law_sums bl ((h__law_two D bl).up (by omega)) cdv Ar outer s H E f B, rfl⟩
theorem h__law_bar (D : Df K mg) (bl : Blt mg) : Has P w K mg base "_law_bar" 1 3 F__law_bar :=
  has_of (k := 2) D._law_bar sc__law_bar rfl fun ds b e g => ⟨m__law_bar, fun cdv Ar outer s H E f B => d__law_bar bl ((h__law_sums D bl).up (by omega)) ((h__law_two D bl).up (by omega)) cdv Ar outer s H E f B, rfl⟩
end
end K
end D_k74_

section H_k74_
set_option Elab.async false
set_option linter.all false
set_option maxRecDepth 100000
set_option maxHeartbeats 4000000
namespace K
open PySem PySem.Spec PyProof.Rows L2 Pv
open Classical
section
variable {P : Program} {w : World} {K : PySem.W.Frag} {mg : Str → Option Value} {base : Heap}
def spLaw (K : PySem.W.Frag) : Sp := fun vs H Q _ => ∃ (a : Addr) (ns : List Int), vs = [.ref a] ∧ SqL K H a (ns.map V.int) ∧ ns.length ≤ 63 ∧ ∀ H', Q (.bl true) H'
theorem ok_law (D : Df K mg) (bl : Blt mg) {A : Ad} (ex : Exc K mg A) (dr : Dr mg A) (mt : Mt K A.mt) (oA : A.ok) {T : Doors} (hT : ∀ a n F, T a = some (n, F) → HasA P w K mg base a n 88 F) (hd_shortest_next : T (A.fn "shortest_next") = some (1, F_shortest_next A)) {f : Addr} {fd : FuncData} (F : L2.Fun K "law" "law" st_law f fd) : FnOk P w K mg base (L2.CX P w) 91 f fd ["script"] (spLaw K) := by
  refine F.okX sc_law (fun vs H Q E ⟨a, ns, e, _⟩ => by rw [e]; rfl) fun cdv Ar outer s H vs Q E hr ⟨a, ns, e, hS, hl, q⟩ => ?_
  subst e
  obtain ⟨s1, m1⟩ := e_law_k74 (A := A) (T := T) oA hd_shortest_next ns hl
  have m2 : m_law A T (s0 ["script", "tin", "lap", "row_so", "turn", "a", "b", "k", "nexts_so", "most_so", "sums_so", "above_so", "power_so", "low_so", "own", "more_so"] [.scr ns] (0, 0, 0)) = .rt (.bl true) s1 := m1
  have hb : HasB P w K mg base "_law_box" 2 90 B__law_box := by
    obtain ⟨f, fd, ps, h1, h2⟩ := (h__law_box (P := P) (w := w) (base := base) D bl).ex
    exact ⟨f, fd, ps, h1.mono (by omega), h2⟩
  refine ⟨_, d_law bl ex dr mt (fun a n F e => (hT a n F e).up (by omega)) ((h__law_bar D bl).up (by omega)) ((h__law_cells D bl).up (by omega)) ((h__law_put D bl).up (by omega)) ((h__law_same D bl).up (by omega)) ((h__law_share D bl).up (by omega)) ((h__law_slip D bl ex dr mt hT).up (by omega)) ((h__law_sums D bl).up (by omega)) ((h__law_take D bl).up (by omega)) ((h__law_two D bl).up (by omega)) ((h_code_lengths D bl ex dr mt).up (by omega)) ((h_have_code D bl ex dr mt).up (by omega)) ((h_is_code D bl).up (by omega)) ((h_least_code D bl ex dr mt).up (by omega)) ((h_left_of_stack D bl ex dr mt).up (by omega)) ((h_length_bar D bl ex dr mt).up (by omega)) ((h_length_sums D bl ex dr mt).up (by omega)) ((h_lengths_share D bl ex dr mt).up (by omega)) ((h_mirrored_code D bl ex dr mt).up (by omega)) ((h_raised D bl ex dr mt).up (by omega)) ((h_room_left D bl ex dr mt).up (by omega)) ((h_shortest_next D bl ex dr mt).up (by omega)) ((h_wasted D bl ex dr mt).up (by omega)) hb cdv Ar outer s H E f ⟨takes_of rfl rfl rfl rfl, passes_of rfl, hr⟩, ⟨H, H, none, true⟩, ⟨H, none⟩, s0 ["script", "tin", "lap", "row_so", "turn", "a", "b", "k", "nexts_so", "most_so", "sums_so", "above_so", "power_so", "low_so", "own", "more_so"] [.scr ns] (0, 0, 0), st0 (w := ⟨H, none⟩) _ (Same.refl H) (show RepAll K ⟨H, none⟩ [.scr ns] [.ref a] from ⟨_, _, rfl, ⟨a, rfl, hS⟩, rfl⟩) (fun p z => nomatch (show (none : Option Addr) = some p from z)), rfl, rfl, ?_⟩
  rw [m2]
  intro w' σ' H' v x1 st r
  have hv : v = .bl true := r
  subst hv
  exact q H'
end
end K
namespace K
open PySem PySem.Spec PyProof.Rows L2 Pv
theorem all_mk {l : PySem.W.OpenLaw} {w : World} {K : PySem.W.Frag} {h : Heap} {mg : Str → Option Value} {fa f0 f1 f2 f3 f4 f5 f6 f7 f8 f9 f10 f11 f12 f13 f14 f15 f16 f17 f18 f19 f20 f21 f22 f23 f24 f25 f26 f27 f28 f29 f30 f31 f32 f33 f34 f35 f36 f37 f38 f39 f40 f41 f42 f43 f44 f45 : Addr} (X : K.In h) (G : h.Ns mainGlobals mg) (hfa : mg "law" = some (.ref fa))
    {od0 an0 od1 an1 od2 an2 od3 an3 od4 an4 od5 an5 od6 an6 od7 an7 od8 an8 od9 an9 od10 an10 od11 an11 od12 an12 od13 an13 od14 an14 od15 an15 od16 an16 od17 an17 od18 an18 od19 an19 od20 an20 od21 an21 od22 an22 od23 an23 od24 an24 od25 an25 od26 an26 od27 an27 od28 an28 od29 an29 od30 an30 od31 an31 od32 an32 od33 an33 od34 an34 od35 an35 od36 an36 od37 an37 od38 an38 od39 an39 od40 an40 od41 an41 od42 an42 od43 an43 od44 an44 od45 an45 : Option Addr} {sl0 sl1 sl2 sl3 sl4 sl5 sl6 sl7 sl8 sl9 sl10 sl11 sl12 sl13 sl14 sl15 sl16 sl17 sl18 sl19 sl20 sl21 sl22 sl23 sl24 sl25 sl26 sl27 sl28 sl29 sl30 sl31 sl32 sl33 sl34 sl35 sl36 sl37 sl38 sl39 sl40 sl41 sl42 sl43 sl44 sl45 : Array (Option Value)} {oc0 kV0 dc0 pm0 cd0 ct0 oc1 kV1 dc1 pm1 cd1 ct1 oc2 kV2 dc2 pm2 cd2 ct2 oc3 kV3 dc3 pm3 cd3 ct3 oc4 kV4 dc4 pm4 cd4 ct4 oc5 kV5 dc5 pm5 cd5 ct5 oc6 kV6 dc6 pm6 cd6 ct6 oc7 kV7 dc7 pm7 cd7 ct7 oc8 kV8 dc8 pm8 cd8 ct8 oc9 kV9 dc9 pm9 cd9 ct9 oc10 kV10 dc10 pm10 cd10 ct10 oc11 kV11 dc11 pm11 cd11 ct11 oc12 kV12 dc12 pm12 cd12 ct12 oc13 kV13 dc13 pm13 cd13 ct13 oc14 kV14 dc14 pm14 cd14 ct14 oc15 kV15 dc15 pm15 cd15 ct15 oc16 kV16 dc16 pm16 cd16 ct16 oc17 kV17 dc17 pm17 cd17 ct17 oc18 kV18 dc18 pm18 cd18 ct18 oc19 kV19 dc19 pm19 cd19 ct19 oc20 kV20 dc20 pm20 cd20 ct20 oc21 kV21 dc21 pm21 cd21 ct21 oc22 kV22 dc22 pm22 cd22 ct22 oc23 kV23 dc23 pm23 cd23 ct23 oc24 kV24 dc24 pm24 cd24 ct24 oc25 kV25 dc25 pm25 cd25 ct25 oc26 kV26 dc26 pm26 cd26 ct26 oc27 kV27 dc27 pm27 cd27 ct27 oc28 kV28 dc28 pm28 cd28 ct28 oc29 kV29 dc29 pm29 cd29 ct29 oc30 kV30 dc30 pm30 cd30 ct30 oc31 kV31 dc31 pm31 cd31 ct31 oc32 kV32 dc32 pm32 cd32 ct32 oc33 kV33 dc33 pm33 cd33 ct33 oc34 kV34 dc34 pm34 cd34 ct34 oc35 kV35 dc35 pm35 cd35 ct35 oc36 kV36 dc36 pm36 cd36 ct36 oc37 kV37 dc37 pm37 cd37 ct37 oc38 kV38 dc38 pm38 cd38 ct38 oc39 kV39 dc39 pm39 cd39 ct39 oc40 kV40 dc40 pm40 cd40 ct40 oc41 kV41 dc41 pm41 cd41 ct41 oc42 kV42 dc42 pm42 cd42 ct42 oc43 kV43 dc43 pm43 cd43 ct43 oc44 kV44 dc44 pm44 cd44 ct44 oc45 kV45 dc45 pm45 cd45 ct45 : Value} {t18 t19 : Tok} {cU cC cM cB : Addr}
    (a0 : PySem.W.nsIn K mainGlobals "is_number" = some (some (.ref f0))) (l0 : K.lookup f0 = some ⟨oc0, od0, .func (PySem.W.fnOf "is_number" "is_number" (defArgs st_is_number) (defBody st_is_number) (defScope st_is_number) .none kV0 dc0 pm0 an0 cd0 ct0), sl0⟩) (c0 : PySem.W.codeIn K cd0 "is_number" = true) (k0 : PySem.W.keepIn K (.ref f0) = true)
    (a1 : PySem.W.nsIn K mainGlobals "is_within" = some (some (.ref f1))) (l1 : K.lookup f1 = some ⟨oc1, od1, .func (PySem.W.fnOf "is_within" "is_within" (defArgs st_is_within) (defBody st_is_within) (defScope st_is_within) .none kV1 dc1 pm1 an1 cd1 ct1), sl1⟩) (c1 : PySem.W.codeIn K cd1 "is_within" = true) (k1 : PySem.W.keepIn K (.ref f1) = true)
    (a2 : PySem.W.nsIn K mainGlobals "tupled" = some (some (.ref f2))) (l2 : K.lookup f2 = some ⟨oc2, od2, .func (PySem.W.fnOf "tupled" "tupled" (defArgs st_tupled) (defBody st_tupled) (defScope st_tupled) .none kV2 dc2 pm2 an2 cd2 ct2), sl2⟩) (c2 : PySem.W.codeIn K cd2 "tupled" = true) (k2 : PySem.W.keepIn K (.ref f2) = true)
    (a3 : PySem.W.nsIn K mainGlobals "power_of_two" = some (some (.ref f3))) (l3 : K.lookup f3 = some ⟨oc3, od3, .func (PySem.W.fnOf "power_of_two" "power_of_two" (defArgs st_power_of_two) (defBody st_power_of_two) (defScope st_power_of_two) .none kV3 dc3 pm3 an3 cd3 ct3), sl3⟩) (c3 : PySem.W.codeIn K cd3 "power_of_two" = true) (k3 : PySem.W.keepIn K (.ref f3) = true)
    (a4 : PySem.W.nsIn K mainGlobals "least_terms" = some (some (.ref f4))) (l4 : K.lookup f4 = some ⟨oc4, od4, .func (PySem.W.fnOf "least_terms" "least_terms" (defArgs st_least_terms) (defBody st_least_terms) (defScope st_least_terms) .none kV4 dc4 pm4 an4 cd4 ct4), sl4⟩) (c4 : PySem.W.codeIn K cd4 "least_terms" = true) (k4 : PySem.W.keepIn K (.ref f4) = true)
    (a5 : PySem.W.nsIn K mainGlobals "is_word_in" = some (some (.ref f5))) (l5 : K.lookup f5 = some ⟨oc5, od5, .func (PySem.W.fnOf "is_word_in" "is_word_in" (defArgs st_is_word_in) (defBody st_is_word_in) (defScope st_is_word_in) .none kV5 dc5 pm5 an5 cd5 ct5), sl5⟩) (c5 : PySem.W.codeIn K cd5 "is_word_in" = true) (k5 : PySem.W.keepIn K (.ref f5) = true)
    (a6 : PySem.W.nsIn K mainGlobals "does_begin" = some (some (.ref f6))) (l6 : K.lookup f6 = some ⟨oc6, od6, .func (PySem.W.fnOf "does_begin" "does_begin" (defArgs st_does_begin) (defBody st_does_begin) (defScope st_does_begin) .none kV6 dc6 pm6 an6 cd6 ct6), sl6⟩) (c6 : PySem.W.codeIn K cd6 "does_begin" = true) (k6 : PySem.W.keepIn K (.ref f6) = true)
    (a7 : PySem.W.nsIn K mainGlobals "is_code_in" = some (some (.ref f7))) (l7 : K.lookup f7 = some ⟨oc7, od7, .func (PySem.W.fnOf "is_code_in" "is_code_in" (defArgs st_is_code_in) (defBody st_is_code_in) (defScope st_is_code_in) .none kV7 dc7 pm7 an7 cd7 ct7), sl7⟩) (c7 : PySem.W.codeIn K cd7 "is_code_in" = true) (k7 : PySem.W.keepIn K (.ref f7) = true)
    (a8 : PySem.W.nsIn K mainGlobals "sure_code" = some (some (.ref f8))) (l8 : K.lookup f8 = some ⟨oc8, od8, .func (PySem.W.fnOf "sure_code" "sure_code" (defArgs st_sure_code) (defBody st_sure_code) (defScope st_sure_code) .none kV8 dc8 pm8 an8 cd8 ct8), sl8⟩) (c8 : PySem.W.codeIn K cd8 "sure_code" = true) (k8 : PySem.W.keepIn K (.ref f8) = true)
    (a9 : PySem.W.nsIn K mainGlobals "are_lengths" = some (some (.ref f9))) (l9 : K.lookup f9 = some ⟨oc9, od9, .func (PySem.W.fnOf "are_lengths" "are_lengths" (defArgs st_are_lengths) (defBody st_are_lengths) (defScope st_are_lengths) .none kV9 dc9 pm9 an9 cd9 ct9), sl9⟩) (c9 : PySem.W.codeIn K cd9 "are_lengths" = true) (k9 : PySem.W.keepIn K (.ref f9) = true)
    (a10 : PySem.W.nsIn K mainGlobals "sure_lengths" = some (some (.ref f10))) (l10 : K.lookup f10 = some ⟨oc10, od10, .func (PySem.W.fnOf "sure_lengths" "sure_lengths" (defArgs st_sure_lengths) (defBody st_sure_lengths) (defScope st_sure_lengths) .none kV10 dc10 pm10 an10 cd10 ct10), sl10⟩) (c10 : PySem.W.codeIn K cd10 "sure_lengths" = true) (k10 : PySem.W.keepIn K (.ref f10) = true)
    (a11 : PySem.W.nsIn K mainGlobals "share_in" = some (some (.ref f11))) (l11 : K.lookup f11 = some ⟨oc11, od11, .func (PySem.W.fnOf "share_in" "share_in" (defArgs st_share_in) (defBody st_share_in) (defScope st_share_in) .none kV11 dc11 pm11 an11 cd11 ct11), sl11⟩) (c11 : PySem.W.codeIn K cd11 "share_in" = true) (k11 : PySem.W.keepIn K (.ref f11) = true)
    (a12 : PySem.W.nsIn K mainGlobals "word_of" = some (some (.ref f12))) (l12 : K.lookup f12 = some ⟨oc12, od12, .func (PySem.W.fnOf "word_of" "word_of" (defArgs st_word_of) (defBody st_word_of) (defScope st_word_of) .none kV12 dc12 pm12 an12 cd12 ct12), sl12⟩) (c12 : PySem.W.codeIn K cd12 "word_of" = true) (k12 : PySem.W.keepIn K (.ref f12) = true)
    (a13 : PySem.W.nsIn K mainGlobals "is_code" = some (some (.ref f13))) (l13 : K.lookup f13 = some ⟨oc13, od13, .func (PySem.W.fnOf "is_code" "is_code" (defArgs st_is_code) (defBody st_is_code) (defScope st_is_code) .none kV13 dc13 pm13 an13 cd13 ct13), sl13⟩) (c13 : PySem.W.codeIn K cd13 "is_code" = true) (k13 : PySem.W.keepIn K (.ref f13) = true)
    (a14 : PySem.W.nsIn K mainGlobals "code_lengths" = some (some (.ref f14))) (l14 : K.lookup f14 = some ⟨oc14, od14, .func (PySem.W.fnOf "code_lengths" "code_lengths" (defArgs st_code_lengths) (defBody st_code_lengths) (defScope st_code_lengths) .none kV14 dc14 pm14 an14 cd14 ct14), sl14⟩) (c14 : PySem.W.codeIn K cd14 "code_lengths" = true) (k14 : PySem.W.keepIn K (.ref f14) = true)
    (a15 : PySem.W.nsIn K mainGlobals "lengths_share" = some (some (.ref f15))) (l15 : K.lookup f15 = some ⟨oc15, od15, .func (PySem.W.fnOf "lengths_share" "lengths_share" (defArgs st_lengths_share) (defBody st_lengths_share) (defScope st_lengths_share) .none kV15 dc15 pm15 an15 cd15 ct15), sl15⟩) (c15 : PySem.W.codeIn K cd15 "lengths_share" = true) (k15 : PySem.W.keepIn K (.ref f15) = true)
    (a16 : PySem.W.nsIn K mainGlobals "sums_in" = some (some (.ref f16))) (l16 : K.lookup f16 = some ⟨oc16, od16, .func (PySem.W.fnOf "sums_in" "sums_in" (defArgs st_sums_in) (defBody st_sums_in) (defScope st_sums_in) .none kV16 dc16 pm16 an16 cd16 ct16), sl16⟩) (c16 : PySem.W.codeIn K cd16 "sums_in" = true) (k16 : PySem.W.keepIn K (.ref f16) = true)
    (a17 : PySem.W.nsIn K mainGlobals "bar_in" = some (some (.ref f17))) (l17 : K.lookup f17 = some ⟨oc17, od17, .func (PySem.W.fnOf "bar_in" "bar_in" (defArgs st_bar_in) (defBody st_bar_in) (defScope st_bar_in) .none kV17 dc17 pm17 an17 cd17 ct17), sl17⟩) (c17 : PySem.W.codeIn K cd17 "bar_in" = true) (k17 : PySem.W.keepIn K (.ref f17) = true)
    (a18 : PySem.W.nsIn K mainGlobals "words_by" = some (some (.ref f18))) (l18 : K.lookup f18 = some ⟨oc18, od18, .func (PySem.W.fnOf "words_by" "words_by" (defArgs st_words_by) (defBody st_words_by) (defScope st_words_by) .none kV18 dc18 pm18 an18 cd18 ct18), sl18⟩) (c18 : PySem.W.codeIn K cd18 "words_by" = true) (k18 : PySem.W.keepIn K (.ref f18) = true)
    (a19 : PySem.W.nsIn K mainGlobals "wasted_in" = some (some (.ref f19))) (l19 : K.lookup f19 = some ⟨oc19, od19, .func (PySem.W.fnOf "wasted_in" "wasted_in" (defArgs st_wasted_in) (defBody st_wasted_in) (defScope st_wasted_in) .none kV19 dc19 pm19 an19 cd19 ct19), sl19⟩) (c19 : PySem.W.codeIn K cd19 "wasted_in" = true) (k19 : PySem.W.keepIn K (.ref f19) = true)
    (a20 : PySem.W.nsIn K mainGlobals "have_code" = some (some (.ref f20))) (l20 : K.lookup f20 = some ⟨oc20, od20, .func (PySem.W.fnOf "have_code" "have_code" (defArgs st_have_code) (defBody st_have_code) (defScope st_have_code) .none kV20 dc20 pm20 an20 cd20 ct20), sl20⟩) (c20 : PySem.W.codeIn K cd20 "have_code" = true) (k20 : PySem.W.keepIn K (.ref f20) = true)
    (a21 : PySem.W.nsIn K mainGlobals "length_sums" = some (some (.ref f21))) (l21 : K.lookup f21 = some ⟨oc21, od21, .func (PySem.W.fnOf "length_sums" "length_sums" (defArgs st_length_sums) (defBody st_length_sums) (defScope st_length_sums) .none kV21 dc21 pm21 an21 cd21 ct21), sl21⟩) (c21 : PySem.W.codeIn K cd21 "length_sums" = true) (k21 : PySem.W.keepIn K (.ref f21) = true)
    (a22 : PySem.W.nsIn K mainGlobals "length_bar" = some (some (.ref f22))) (l22 : K.lookup f22 = some ⟨oc22, od22, .func (PySem.W.fnOf "length_bar" "length_bar" (defArgs st_length_bar) (defBody st_length_bar) (defScope st_length_bar) .none kV22 dc22 pm22 an22 cd22 ct22), sl22⟩) (c22 : PySem.W.codeIn K cd22 "length_bar" = true) (k22 : PySem.W.keepIn K (.ref f22) = true)
    (a23 : PySem.W.nsIn K mainGlobals "least_code" = some (some (.ref f23))) (l23 : K.lookup f23 = some ⟨oc23, od23, .func (PySem.W.fnOf "least_code" "least_code" (defArgs st_least_code) (defBody st_least_code) (defScope st_least_code) .none kV23 dc23 pm23 an23 cd23 ct23), sl23⟩) (c23 : PySem.W.codeIn K cd23 "least_code" = true) (k23 : PySem.W.keepIn K (.ref f23) = true)
    (a24 : PySem.W.nsIn K mainGlobals "wasted" = some (some (.ref f24))) (l24 : K.lookup f24 = some ⟨oc24, od24, .func (PySem.W.fnOf "wasted" "wasted" (defArgs st_wasted) (defBody st_wasted) (defScope st_wasted) .none kV24 dc24 pm24 an24 cd24 ct24), sl24⟩) (c24 : PySem.W.codeIn K cd24 "wasted" = true) (k24 : PySem.W.keepIn K (.ref f24) = true)
    (a25 : PySem.W.nsIn K mainGlobals "room_left" = some (some (.ref f25))) (l25 : K.lookup f25 = some ⟨oc25, od25, .func (PySem.W.fnOf "room_left" "room_left" (defArgs st_room_left) (defBody st_room_left) (defScope st_room_left) .none kV25 dc25 pm25 an25 cd25 ct25), sl25⟩) (c25 : PySem.W.codeIn K cd25 "room_left" = true) (k25 : PySem.W.keepIn K (.ref f25) = true)
    (a26 : PySem.W.nsIn K mainGlobals "shortest_next" = some (some (.ref f26))) (l26 : K.lookup f26 = some ⟨oc26, od26, .func (PySem.W.fnOf "shortest_next" "shortest_next" (defArgs st_shortest_next) (defBody st_shortest_next) (defScope st_shortest_next) .none kV26 dc26 pm26 an26 cd26 ct26), sl26⟩) (c26 : PySem.W.codeIn K cd26 "shortest_next" = true) (k26 : PySem.W.keepIn K (.ref f26) = true)
    (a27 : PySem.W.nsIn K mainGlobals "stacked" = some (some (.ref f27))) (l27 : K.lookup f27 = some ⟨oc27, od27, .func (PySem.W.fnOf "stacked" "stacked" (defArgs st_stacked) (defBody st_stacked) (defScope st_stacked) .none kV27 dc27 pm27 an27 cd27 ct27), sl27⟩) (c27 : PySem.W.codeIn K cd27 "stacked" = true) (k27 : PySem.W.keepIn K (.ref f27) = true)
    (a28 : PySem.W.nsIn K mainGlobals "left_of_stack" = some (some (.ref f28))) (l28 : K.lookup f28 = some ⟨oc28, od28, .func (PySem.W.fnOf "left_of_stack" "left_of_stack" (defArgs st_left_of_stack) (defBody st_left_of_stack) (defScope st_left_of_stack) .none kV28 dc28 pm28 an28 cd28 ct28), sl28⟩) (c28 : PySem.W.codeIn K cd28 "left_of_stack" = true) (k28 : PySem.W.keepIn K (.ref f28) = true)
    (a29 : PySem.W.nsIn K mainGlobals "other_word" = some (some (.ref f29))) (l29 : K.lookup f29 = some ⟨oc29, od29, .func (PySem.W.fnOf "other_word" "other_word" (defArgs st_other_word) (defBody st_other_word) (defScope st_other_word) .none kV29 dc29 pm29 an29 cd29 ct29), sl29⟩) (c29 : PySem.W.codeIn K cd29 "other_word" = true) (k29 : PySem.W.keepIn K (.ref f29) = true)
    (a30 : PySem.W.nsIn K mainGlobals "mirrored_in" = some (some (.ref f30))) (l30 : K.lookup f30 = some ⟨oc30, od30, .func (PySem.W.fnOf "mirrored_in" "mirrored_in" (defArgs st_mirrored_in) (defBody st_mirrored_in) (defScope st_mirrored_in) .none kV30 dc30 pm30 an30 cd30 ct30), sl30⟩) (c30 : PySem.W.codeIn K cd30 "mirrored_in" = true) (k30 : PySem.W.keepIn K (.ref f30) = true)
    (a31 : PySem.W.nsIn K mainGlobals "mirrored_code" = some (some (.ref f31))) (l31 : K.lookup f31 = some ⟨oc31, od31, .func (PySem.W.fnOf "mirrored_code" "mirrored_code" (defArgs st_mirrored_code) (defBody st_mirrored_code) (defScope st_mirrored_code) .none kV31 dc31 pm31 an31 cd31 ct31), sl31⟩) (c31 : PySem.W.codeIn K cd31 "mirrored_code" = true) (k31 : PySem.W.keepIn K (.ref f31) = true)
    (a32 : PySem.W.nsIn K mainGlobals "raised_in" = some (some (.ref f32))) (l32 : K.lookup f32 = some ⟨oc32, od32, .func (PySem.W.fnOf "raised_in" "raised_in" (defArgs st_raised_in) (defBody st_raised_in) (defScope st_raised_in) .none kV32 dc32 pm32 an32 cd32 ct32), sl32⟩) (c32 : PySem.W.codeIn K cd32 "raised_in" = true) (k32 : PySem.W.keepIn K (.ref f32) = true)
    (a33 : PySem.W.nsIn K mainGlobals "raised" = some (some (.ref f33))) (l33 : K.lookup f33 = some ⟨oc33, od33, .func (PySem.W.fnOf "raised" "raised" (defArgs st_raised) (defBody st_raised) (defScope st_raised) .none kV33 dc33 pm33 an33 cd33 ct33), sl33⟩) (c33 : PySem.W.codeIn K cd33 "raised" = true) (k33 : PySem.W.keepIn K (.ref f33) = true)
    (a34 : PySem.W.nsIn K mainGlobals "_law_box" = some (some (.ref f34))) (l34 : K.lookup f34 = some ⟨oc34, od34, .func (PySem.W.fnOf "_law_box" "_law_box" (defArgs st__law_box) (defBody st__law_box) (defScope st__law_box) .none kV34 dc34 pm34 an34 cd34 ct34), sl34⟩) (c34 : PySem.W.codeIn K cd34 "_law_box" = true) (k34 : PySem.W.keepIn K (.ref f34) = true)
    (a35 : PySem.W.nsIn K mainGlobals "_law_take" = some (some (.ref f35))) (l35 : K.lookup f35 = some ⟨oc35, od35, .func (PySem.W.fnOf "_law_take" "_law_take" (defArgs st__law_take) (defBody st__law_take) (defScope st__law_take) .none kV35 dc35 pm35 an35 cd35 ct35), sl35⟩) (c35 : PySem.W.codeIn K cd35 "_law_take" = true) (k35 : PySem.W.keepIn K (.ref f35) = true)
    (a36 : PySem.W.nsIn K mainGlobals "_law_cells" = some (some (.ref f36))) (l36 : K.lookup f36 = some ⟨oc36, od36, .func (PySem.W.fnOf "_law_cells" "_law_cells" (defArgs st__law_cells) (defBody st__law_cells) (defScope st__law_cells) .none kV36 dc36 pm36 an36 cd36 ct36), sl36⟩) (c36 : PySem.W.codeIn K cd36 "_law_cells" = true) (k36 : PySem.W.keepIn K (.ref f36) = true)
    (a37 : PySem.W.nsIn K mainGlobals "_law_same" = some (some (.ref f37))) (l37 : K.lookup f37 = some ⟨oc37, od37, .func (PySem.W.fnOf "_law_same" "_law_same" (defArgs st__law_same) (defBody st__law_same) (defScope st__law_same) .none kV37 dc37 pm37 an37 cd37 ct37), sl37⟩) (c37 : PySem.W.codeIn K cd37 "_law_same" = true) (k37 : PySem.W.keepIn K (.ref f37) = true)
    (a38 : PySem.W.nsIn K mainGlobals "_law_put" = some (some (.ref f38))) (l38 : K.lookup f38 = some ⟨oc38, od38, .func (PySem.W.fnOf "_law_put" "_law_put" (defArgs st__law_put) (defBody st__law_put) (defScope st__law_put) .none kV38 dc38 pm38 an38 cd38 ct38), sl38⟩) (c38 : PySem.W.codeIn K cd38 "_law_put" = true) (k38 : PySem.W.keepIn K (.ref f38) = true)
    (a39 : PySem.W.nsIn K mainGlobals "_law_call" = some (some (.ref f39))) (l39 : K.lookup f39 = some ⟨oc39, od39, .func (PySem.W.fnOf "_law_call" "_law_call" (defArgs st__law_call) (defBody st__law_call) (defScope st__law_call) .none kV39 dc39 pm39 an39 cd39 ct39), sl39⟩) (c39 : PySem.W.codeIn K cd39 "_law_call" = true) (k39 : PySem.W.keepIn K (.ref f39) = true)
    (a40 : PySem.W.nsIn K mainGlobals "_law_slip" = some (some (.ref f40))) (l40 : K.lookup f40 = some ⟨oc40, od40, .func (PySem.W.fnOf "_law_slip" "_law_slip" (defArgs st__law_slip) (defBody st__law_slip) (defScope st__law_slip) .none kV40 dc40 pm40 an40 cd40 ct40), sl40⟩) (c40 : PySem.W.codeIn K cd40 "_law_slip" = true) (k40 : PySem.W.keepIn K (.ref f40) = true)
    (a41 : PySem.W.nsIn K mainGlobals "_law_two" = some (some (.ref f41))) (l41 : K.lookup f41 = some ⟨oc41, od41, .func (PySem.W.fnOf "_law_two" "_law_two" (defArgs st__law_two) (defBody st__law_two) (defScope st__law_two) .none kV41 dc41 pm41 an41 cd41 ct41), sl41⟩) (c41 : PySem.W.codeIn K cd41 "_law_two" = true) (k41 : PySem.W.keepIn K (.ref f41) = true)
    (a42 : PySem.W.nsIn K mainGlobals "_law_share" = some (some (.ref f42))) (l42 : K.lookup f42 = some ⟨oc42, od42, .func (PySem.W.fnOf "_law_share" "_law_share" (defArgs st__law_share) (defBody st__law_share) (defScope st__law_share) .none kV42 dc42 pm42 an42 cd42 ct42), sl42⟩) (c42 : PySem.W.codeIn K cd42 "_law_share" = true) (k42 : PySem.W.keepIn K (.ref f42) = true)
    (a43 : PySem.W.nsIn K mainGlobals "_law_sums" = some (some (.ref f43))) (l43 : K.lookup f43 = some ⟨oc43, od43, .func (PySem.W.fnOf "_law_sums" "_law_sums" (defArgs st__law_sums) (defBody st__law_sums) (defScope st__law_sums) .none kV43 dc43 pm43 an43 cd43 ct43), sl43⟩) (c43 : PySem.W.codeIn K cd43 "_law_sums" = true) (k43 : PySem.W.keepIn K (.ref f43) = true)
    (a44 : PySem.W.nsIn K mainGlobals "_law_bar" = some (some (.ref f44))) (l44 : K.lookup f44 = some ⟨oc44, od44, .func (PySem.W.fnOf "_law_bar" "_law_bar" (defArgs st__law_bar) (defBody st__law_bar) (defScope st__law_bar) .none kV44 dc44 pm44 an44 cd44 ct44), sl44⟩) (c44 : PySem.W.codeIn K cd44 "_law_bar" = true) (k44 : PySem.W.keepIn K (.ref f44) = true)
    (a45 : PySem.W.nsIn K mainGlobals "law" = some (some (.ref f45))) (l45 : K.lookup f45 = some ⟨oc45, od45, .func (PySem.W.fnOf "law" "law" (defArgs st_law) (defBody st_law) (defScope st_law) .none kV45 dc45 pm45 an45 cd45 ct45), sl45⟩) (c45 : PySem.W.codeIn K cd45 "law" = true) (k45 : PySem.W.keepIn K (.ref f45) = true)
    (z0 : PySem.W.nsIn K mainGlobals "ValueError" = some none)
    (z1 : PySem.W.nsIn K mainGlobals "abs" = some none)
    (z2 : PySem.W.nsIn K mainGlobals "all" = some none)
    (z3 : PySem.W.nsIn K mainGlobals "any" = some none)
    (z4 : PySem.W.nsIn K mainGlobals "bool" = some none)
    (z5 : PySem.W.nsIn K mainGlobals "enumerate" = some none)
    (z6 : PySem.W.nsIn K mainGlobals "int" = some none)
    (z7 : PySem.W.nsIn K mainGlobals "isinstance" = some none)
    (z8 : PySem.W.nsIn K mainGlobals "len" = some none)
    (z9 : PySem.W.nsIn K mainGlobals "list" = some none)
    (z10 : PySem.W.nsIn K mainGlobals "max" = some none)
    (z11 : PySem.W.nsIn K mainGlobals "min" = some none)
    (z12 : PySem.W.nsIn K mainGlobals "range" = some none)
    (z13 : PySem.W.nsIn K mainGlobals "sorted" = some none)
    (z14 : PySem.W.nsIn K mainGlobals "str" = some none)
    (z15 : PySem.W.nsIn K mainGlobals "sum" = some none)
    (z16 : PySem.W.nsIn K mainGlobals "tuple" = some none)
    (z17 : PySem.W.nsIn K mainGlobals "zip" = some none)
    (z18 : PySem.W.nsIn K mainGlobals "MOST_LETTERS" = some (some (.int 60 t18)))
    (z19 : PySem.W.nsIn K mainGlobals "MOST_LENGTH" = some (some (.int 60 t19)))
    (eU : PySem.W.nsIn K mainGlobals "Unfit" = some (some (.ref cU)))
    (eC : PySem.W.nsIn K mainGlobals "CanNot" = some (some (.ref cC)))
    (eM : PySem.W.nsIn K mainGlobals "TooMany" = some (some (.ref cM)))
    (eB : PySem.W.nsIn K mainGlobals "BadText" = some (some (.ref cB)))
    (kpU : PySem.W.keepIn K (.ref cU) = true) (xcU : PySem.W.excIn K cU [.type "ValueError", .type "Exception", .type "BaseException", .type "object"] "ValueError.__new__" = true) (sbU : PySem.W.subIn K (.ref cU) (.type "BaseException") = some true) (tyU : PySem.W.typeIn K (.ref cU) = some (.type "type"))
    (hdU : PySem.W.hasDictIn K cU = true) (fgU : PySem.W.findIn K (.ref cU) "__getattribute__" = some (some (.builtin "BaseException.__getattribute__"))) (fkU : PySem.W.findIn K (.ref cU) "__getattr__" = some none) (fcU : PySem.W.findIn K (.ref cU) "__class__" = some (some (.builtin "object.__class__")))
    (moU : PySem.W.mroIn K cU (.type "object") = some true) (kvU : PySem.W.subIn K (.ref cU) (.type "ValueError") = some true)
    (kpC : PySem.W.keepIn K (.ref cC) = true) (xcC : PySem.W.excIn K cC [.type "ValueError", .type "Exception", .type "BaseException", .type "object"] "ValueError.__new__" = true) (sbC : PySem.W.subIn K (.ref cC) (.type "BaseException") = some true) (tyC : PySem.W.typeIn K (.ref cC) = some (.type "type"))
    (hdC : PySem.W.hasDictIn K cC = true) (fgC : PySem.W.findIn K (.ref cC) "__getattribute__" = some (some (.builtin "BaseException.__getattribute__"))) (fkC : PySem.W.findIn K (.ref cC) "__getattr__" = some none) (fcC : PySem.W.findIn K (.ref cC) "__class__" = some (some (.builtin "object.__class__")))
    (moC : PySem.W.mroIn K cC (.type "object") = some true) (kvC : PySem.W.subIn K (.ref cC) (.type "ValueError") = some true)
    (kpM : PySem.W.keepIn K (.ref cM) = true) (xcM : PySem.W.excIn K cM [.type "ValueError", .type "Exception", .type "BaseException", .type "object"] "ValueError.__new__" = true) (sbM : PySem.W.subIn K (.ref cM) (.type "BaseException") = some true) (tyM : PySem.W.typeIn K (.ref cM) = some (.type "type"))
    (hdM : PySem.W.hasDictIn K cM = true) (fgM : PySem.W.findIn K (.ref cM) "__getattribute__" = some (some (.builtin "BaseException.__getattribute__"))) (fkM : PySem.W.findIn K (.ref cM) "__getattr__" = some none) (fcM : PySem.W.findIn K (.ref cM) "__class__" = some (some (.builtin "object.__class__")))
    (moM : PySem.W.mroIn K cM (.type "object") = some true) (kvM : PySem.W.subIn K (.ref cM) (.type "ValueError") = some true)
    (sp : PySem.W.specialIn K (.builtin "object.__class__") "__get__" = some (some (.builtin "getset_descriptor.__get__"))) (tk : PySem.W.takesIn K (.builtin "object.__class__") = some true)
    (sUU : PySem.W.subIn K (.ref cU) (.ref cU) = some true)
    (sCU : PySem.W.subIn K (.ref cC) (.ref cU) = some false)
    (sCC : PySem.W.subIn K (.ref cC) (.ref cC) = some true)
    (sMU : PySem.W.subIn K (.ref cM) (.ref cU) = some false)
    (sMC : PySem.W.subIn K (.ref cM) (.ref cC) = some false)
    (sMM : PySem.W.subIn K (.ref cM) (.ref cM) = some true)
    (nUC : cU ≠ cC)
    (nUM : cU ≠ cM)
    (nCM : cC ≠ cM)
    :
    ∃ fd : FuncData, (∀ (s : Shared) (v : Value), BindsTo s fd ⟨[v], []⟩ [("script", v)]) ∧ ∀ base : Heap, K.In base → base.Ns mainGlobals mg → FnOk l.prog w K mg base (L2.CX l.prog w) 91 fa fd ["script"] (spLaw K) := by
  have e := hfa.symm.trans (PySem.W.mg_of X G a45)
  cases e
  have F0 := fun_mk (st := st_is_number) l0 c0 k0
  have F1 := fun_mk (st := st_is_within) l1 c1 k1
  have F2 := fun_mk (st := st_tupled) l2 c2 k2
  have F3 := fun_mk (st := st_power_of_two) l3 c3 k3
  have F4 := fun_mk (st := st_least_terms) l4 c4 k4
  have F5 := fun_mk (st := st_is_word_in) l5 c5 k5
  have F6 := fun_mk (st := st_does_begin) l6 c6 k6
  have F7 := fun_mk (st := st_is_code_in) l7 c7 k7
  have F8 := fun_mk (st := st_sure_code) l8 c8 k8
  have F9 := fun_mk (st := st_are_lengths) l9 c9 k9
  have F10 := fun_mk (st := st_sure_lengths) l10 c10 k10
  have F11 := fun_mk (st := st_share_in) l11 c11 k11
  have F12 := fun_mk (st := st_word_of) l12 c12 k12
  have F13 := fun_mk (st := st_is_code) l13 c13 k13
  have F14 := fun_mk (st := st_code_lengths) l14 c14 k14
  have F15 := fun_mk (st := st_lengths_share) l15 c15 k15
  have F16 := fun_mk (st := st_sums_in) l16 c16 k16
  have F17 := fun_mk (st := st_bar_in) l17 c17 k17
  have F18 := fun_mk (st := st_words_by) l18 c18 k18
  have F19 := fun_mk (st := st_wasted_in) l19 c19 k19
  have F20 := fun_mk (st := st_have_code) l20 c20 k20
  have F21 := fun_mk (st := st_length_sums) l21 c21 k21
  have F22 := fun_mk (st := st_length_bar) l22 c22 k22
  have F23 := fun_mk (st := st_least_code) l23 c23 k23
  have F24 := fun_mk (st := st_wasted) l24 c24 k24
  have F25 := fun_mk (st := st_room_left) l25 c25 k25
  have F26 := fun_mk (st := st_shortest_next) l26 c26 k26
  have F27 := fun_mk (st := st_stacked) l27 c27 k27
  have F28 := fun_mk (st := st_left_of_stack) l28 c28 k28
  have F29 := fun_mk (st := st_other_word) l29 c29 k29
  have F30 := fun_mk (st := st_mirrored_in) l30 c30 k30
  have F31 := fun_mk (st := st_mirrored_code) l31 c31 k31
  have F32 := fun_mk (st := st_raised_in) l32 c32 k32
  have F33 := fun_mk (st := st_raised) l33 c33 k33
  have F34 := fun_mk (st := st__law_box) l34 c34 k34
  have F35 := fun_mk (st := st__law_take) l35 c35 k35
  have F36 := fun_mk (st := st__law_cells) l36 c36 k36
  have F37 := fun_mk (st := st__law_same) l37 c37 k37
  have F38 := fun_mk (st := st__law_put) l38 c38 k38
  have F39 := fun_mk (st := st__law_call) l39 c39 k39
  have F40 := fun_mk (st := st__law_slip) l40 c40 k40
  have F41 := fun_mk (st := st__law_two) l41 c41 k41
  have F42 := fun_mk (st := st__law_share) l42 c42 k42
  have F43 := fun_mk (st := st__law_sums) l43 c43 k43
  have F44 := fun_mk (st := st__law_bar) l44 c44 k44
  have F45 := fun_mk (st := st_law) l45 c45 k45
  have bl : Blt mg := ⟨PySem.W.mg_none_of X G z0, PySem.W.mg_none_of X G z1, PySem.W.mg_none_of X G z2, PySem.W.mg_none_of X G z3, PySem.W.mg_none_of X G z4, PySem.W.mg_none_of X G z5, PySem.W.mg_none_of X G z6, PySem.W.mg_none_of X G z7, PySem.W.mg_none_of X G z8, PySem.W.mg_none_of X G z9, PySem.W.mg_none_of X G z10, PySem.W.mg_none_of X G z11, PySem.W.mg_none_of X G z12, PySem.W.mg_none_of X G z13, PySem.W.mg_none_of X G z14, PySem.W.mg_none_of X G z15, PySem.W.mg_none_of X G z16, PySem.W.mg_none_of X G z17, ⟨_, PySem.W.mg_of X G z18⟩, ⟨_, PySem.W.mg_of X G z19⟩⟩
  have D0 : DefAt K mg "is_number" st_is_number ["thing"] := ⟨_, _, F0, PySem.W.mg_of X G a0, F0.binds (ps := ["thing"]) fun _ _ _ _ _ _ us hl => match us, hl with | [_], _ => rfl⟩
  have D1 : DefAt K mg "is_within" st_is_within ["thing", "least", "most"] := ⟨_, _, F1, PySem.W.mg_of X G a1, F1.binds (ps := ["thing", "least", "most"]) fun _ _ _ _ _ _ us hl => match us, hl with | [_, _, _], _ => rfl⟩
  have D2 : DefAt K mg "tupled" st_tupled ["value"] := ⟨_, _, F2, PySem.W.mg_of X G a2, F2.binds (ps := ["value"]) fun _ _ _ _ _ _ us hl => match us, hl with | [_], _ => rfl⟩
  have D3 : DefAt K mg "power_of_two" st_power_of_two ["many"] := ⟨_, _, F3, PySem.W.mg_of X G a3, F3.binds (ps := ["many"]) fun _ _ _ _ _ _ us hl => match us, hl with | [_], _ => rfl⟩
  have D4 : DefAt K mg "least_terms" st_least_terms ["above", "power"] := ⟨_, _, F4, PySem.W.mg_of X G a4, F4.binds (ps := ["above", "power"]) fun _ _ _ _ _ _ us hl => match us, hl with | [_, _], _ => rfl⟩
  have D5 : DefAt K mg "is_word_in" st_is_word_in ["thing"] := ⟨_, _, F5, PySem.W.mg_of X G a5, F5.binds (ps := ["thing"]) fun _ _ _ _ _ _ us hl => match us, hl with | [_], _ => rfl⟩
  have D6 : DefAt K mg "does_begin" st_does_begin ["one", "other"] := ⟨_, _, F6, PySem.W.mg_of X G a6, F6.binds (ps := ["one", "other"]) fun _ _ _ _ _ _ us hl => match us, hl with | [_, _], _ => rfl⟩
  have D7 : DefAt K mg "is_code_in" st_is_code_in ["thing"] := ⟨_, _, F7, PySem.W.mg_of X G a7, F7.binds (ps := ["thing"]) fun _ _ _ _ _ _ us hl => match us, hl with | [_], _ => rfl⟩
  have D8 : DefAt K mg "sure_code" st_sure_code ["value"] := ⟨_, _, F8, PySem.W.mg_of X G a8, F8.binds (ps := ["value"]) fun _ _ _ _ _ _ us hl => match us, hl with | [_], _ => rfl⟩
  have D9 : DefAt K mg "are_lengths" st_are_lengths ["thing"] := ⟨_, _, F9, PySem.W.mg_of X G a9, F9.binds (ps := ["thing"]) fun _ _ _ _ _ _ us hl => match us, hl with | [_], _ => rfl⟩
  have D10 : DefAt K mg "sure_lengths" st_sure_lengths ["value"] := ⟨_, _, F10, PySem.W.mg_of X G a10, F10.binds (ps := ["value"]) fun _ _ _ _ _ _ us hl => match us, hl with | [_], _ => rfl⟩
  have D11 : DefAt K mg "share_in" st_share_in ["lengths"] := ⟨_, _, F11, PySem.W.mg_of X G a11, F11.binds (ps := ["lengths"]) fun _ _ _ _ _ _ us hl => match us, hl with | [_], _ => rfl⟩
  have D12 : DefAt K mg "word_of" st_word_of ["number", "length"] := ⟨_, _, F12, PySem.W.mg_of X G a12, F12.binds (ps := ["number", "length"]) fun _ _ _ _ _ _ us hl => match us, hl with | [_, _], _ => rfl⟩
  have D13 : DefAt K mg "is_code" st_is_code ["thing"] := ⟨_, _, F13, PySem.W.mg_of X G a13, F13.binds (ps := ["thing"]) fun _ _ _ _ _ _ us hl => match us, hl with | [_], _ => rfl⟩
  have D14 : DefAt K mg "code_lengths" st_code_lengths ["code"] := ⟨_, _, F14, PySem.W.mg_of X G a14, F14.binds (ps := ["code"]) fun _ _ _ _ _ _ us hl => match us, hl with | [_], _ => rfl⟩
  have D15 : DefAt K mg "lengths_share" st_lengths_share ["lengths"] := ⟨_, _, F15, PySem.W.mg_of X G a15, F15.binds (ps := ["lengths"]) fun _ _ _ _ _ _ us hl => match us, hl with | [_], _ => rfl⟩
  have D16 : DefAt K mg "sums_in" st_sums_in ["lengths"] := ⟨_, _, F16, PySem.W.mg_of X G a16, F16.binds (ps := ["lengths"]) fun _ _ _ _ _ _ us hl => match us, hl with | [_], _ => rfl⟩
  have D17 : DefAt K mg "bar_in" st_bar_in ["lengths"] := ⟨_, _, F17, PySem.W.mg_of X G a17, F17.binds (ps := ["lengths"]) fun _ _ _ _ _ _ us hl => match us, hl with | [_], _ => rfl⟩
  have D18 : DefAt K mg "words_by" st_words_by ["lengths"] := ⟨_, _, F18, PySem.W.mg_of X G a18, F18.binds (ps := ["lengths"]) fun _ _ _ _ _ _ us hl => match us, hl with | [_], _ => rfl⟩
  have D19 : DefAt K mg "wasted_in" st_wasted_in ["lengths"] := ⟨_, _, F19, PySem.W.mg_of X G a19, F19.binds (ps := ["lengths"]) fun _ _ _ _ _ _ us hl => match us, hl with | [_], _ => rfl⟩
  have D20 : DefAt K mg "have_code" st_have_code ["lengths"] := ⟨_, _, F20, PySem.W.mg_of X G a20, F20.binds (ps := ["lengths"]) fun _ _ _ _ _ _ us hl => match us, hl with | [_], _ => rfl⟩
  have D21 : DefAt K mg "length_sums" st_length_sums ["lengths"] := ⟨_, _, F21, PySem.W.mg_of X G a21, F21.binds (ps := ["lengths"]) fun _ _ _ _ _ _ us hl => match us, hl with | [_], _ => rfl⟩
  have D22 : DefAt K mg "length_bar" st_length_bar ["lengths"] := ⟨_, _, F22, PySem.W.mg_of X G a22, F22.binds (ps := ["lengths"]) fun _ _ _ _ _ _ us hl => match us, hl with | [_], _ => rfl⟩
  have D23 : DefAt K mg "least_code" st_least_code ["lengths"] := ⟨_, _, F23, PySem.W.mg_of X G a23, F23.binds (ps := ["lengths"]) fun _ _ _ _ _ _ us hl => match us, hl with | [_], _ => rfl⟩
  have D24 : DefAt K mg "wasted" st_wasted ["lengths"] := ⟨_, _, F24, PySem.W.mg_of X G a24, F24.binds (ps := ["lengths"]) fun _ _ _ _ _ _ us hl => match us, hl with | [_], _ => rfl⟩
  have D25 : DefAt K mg "room_left" st_room_left ["lengths"] := ⟨_, _, F25, PySem.W.mg_of X G a25, F25.binds (ps := ["lengths"]) fun _ _ _ _ _ _ us hl => match us, hl with | [_], _ => rfl⟩
  have D26 : DefAt K mg "shortest_next" st_shortest_next ["lengths"] := ⟨_, _, F26, PySem.W.mg_of X G a26, F26.binds (ps := ["lengths"]) fun _ _ _ _ _ _ us hl => match us, hl with | [_], _ => rfl⟩
  have D27 : DefAt K mg "stacked" st_stacked ["lengths"] := ⟨_, _, F27, PySem.W.mg_of X G a27, F27.binds (ps := ["lengths"]) fun _ _ _ _ _ _ us hl => match us, hl with | [_], _ => rfl⟩
  have D28 : DefAt K mg "left_of_stack" st_left_of_stack ["lengths"] := ⟨_, _, F28, PySem.W.mg_of X G a28, F28.binds (ps := ["lengths"]) fun _ _ _ _ _ _ us hl => match us, hl with | [_], _ => rfl⟩
  have D29 : DefAt K mg "other_word" st_other_word ["word"] := ⟨_, _, F29, PySem.W.mg_of X G a29, F29.binds (ps := ["word"]) fun _ _ _ _ _ _ us hl => match us, hl with | [_], _ => rfl⟩
  have D30 : DefAt K mg "mirrored_in" st_mirrored_in ["code"] := ⟨_, _, F30, PySem.W.mg_of X G a30, F30.binds (ps := ["code"]) fun _ _ _ _ _ _ us hl => match us, hl with | [_], _ => rfl⟩
  have D31 : DefAt K mg "mirrored_code" st_mirrored_code ["code"] := ⟨_, _, F31, PySem.W.mg_of X G a31, F31.binds (ps := ["code"]) fun _ _ _ _ _ _ us hl => match us, hl with | [_], _ => rfl⟩
  have D32 : DefAt K mg "raised_in" st_raised_in ["lengths"] := ⟨_, _, F32, PySem.W.mg_of X G a32, F32.binds (ps := ["lengths"]) fun _ _ _ _ _ _ us hl => match us, hl with | [_], _ => rfl⟩
  have D33 : DefAt K mg "raised" st_raised ["lengths"] := ⟨_, _, F33, PySem.W.mg_of X G a33, F33.binds (ps := ["lengths"]) fun _ _ _ _ _ _ us hl => match us, hl with | [_], _ => rfl⟩
  have D34 : DefAt K mg "_law_box" st__law_box ["script", "k"] := ⟨_, _, F34, PySem.W.mg_of X G a34, F34.binds (ps := ["script", "k"]) fun _ _ _ _ _ _ us hl => match us, hl with | [_, _], _ => rfl⟩
  have D35 : DefAt K mg "_law_take" st__law_take ["tin", "below_so"] := ⟨_, _, F35, PySem.W.mg_of X G a35, F35.binds (ps := ["tin", "below_so"]) fun _ _ _ _ _ _ us hl => match us, hl with | [_, _], _ => rfl⟩
  have D36 : DefAt K mg "_law_cells" st__law_cells ["script", "most_so"] := ⟨_, _, F36, PySem.W.mg_of X G a36, F36.binds (ps := ["script", "most_so"]) fun _ _ _ _ _ _ us hl => match us, hl with | [_, _], _ => rfl⟩
  have D37 : DefAt K mg "_law_same" st__law_same ["got", "due"] := ⟨_, _, F37, PySem.W.mg_of X G a37, F37.binds (ps := ["got", "due"]) fun _ _ _ _ _ _ us hl => match us, hl with | [_, _], _ => rfl⟩
  have D38 : DefAt K mg "_law_put" st__law_put ["row_so", "at_so", "bit_so"] := ⟨_, _, F38, PySem.W.mg_of X G a38, F38.binds (ps := ["row_so", "at_so", "bit_so"]) fun _ _ _ _ _ _ us hl => match us, hl with | [_, _, _], _ => rfl⟩
  have D39 : DefAt K mg "_law_call" st__law_call ["door_so", "goods_so"] := ⟨_, _, F39, PySem.W.mg_of X G a39, F39.binds (ps := ["door_so", "goods_so"]) fun _ _ _ _ _ _ us hl => match us, hl with | [_, _], _ => rfl⟩
  have D40 : DefAt K mg "_law_slip" st__law_slip ["door_so", "goods_so"] := ⟨_, _, F40, PySem.W.mg_of X G a40, F40.binds (ps := ["door_so", "goods_so"]) fun _ _ _ _ _ _ us hl => match us, hl with | [_, _], _ => rfl⟩
  have D41 : DefAt K mg "_law_two" st__law_two ["many_so"] := ⟨_, _, F41, PySem.W.mg_of X G a41, F41.binds (ps := ["many_so"]) fun _ _ _ _ _ _ us hl => match us, hl with | [_], _ => rfl⟩
  have D42 : DefAt K mg "_law_share" st__law_share ["above_so", "power_so"] := ⟨_, _, F42, PySem.W.mg_of X G a42, F42.binds (ps := ["above_so", "power_so"]) fun _ _ _ _ _ _ us hl => match us, hl with | [_, _], _ => rfl⟩
  have D43 : DefAt K mg "_law_sums" st__law_sums ["lengths_so"] := ⟨_, _, F43, PySem.W.mg_of X G a43, F43.binds (ps := ["lengths_so"]) fun _ _ _ _ _ _ us hl => match us, hl with | [_], _ => rfl⟩
  have D44 : DefAt K mg "_law_bar" st__law_bar ["lengths_so"] := ⟨_, _, F44, PySem.W.mg_of X G a44, F44.binds (ps := ["lengths_so"]) fun _ _ _ _ _ _ us hl => match us, hl with | [_], _ => rfl⟩
  have D45 : DefAt K mg "law" st_law ["script"] := ⟨_, _, F45, PySem.W.mg_of X G a45, F45.binds (ps := ["script"]) fun _ _ _ _ _ _ us hl => match us, hl with | [_], _ => rfl⟩
  have D : Df K mg := ⟨D0, D1, D2, D3, D4, D5, D6, D7, D8, D9, D10, D11, D12, D13, D14, D15, D16, D17, D18, D19, D20, D21, D22, D23, D24, D25, D26, D27, D28, D29, D30, D31, D32, D33, D34, D35, D36, D37, D38, D39, D40, D41, D42, D43, D44, D45⟩
  let A : Ad := ⟨cU, cC, cM, cB, 0, fun x => if x = Str.ofString "shortest_next" then f26 else 0⟩
  have hA0 : A.fn "shortest_next" = f26 := by
    show (if Str.ofString "shortest_next" = Str.ofString "shortest_next" then f26 else 0) = _
    exact if_pos rfl
  have ex : Exc K mg A := ⟨⟨PySem.W.mg_of X G eB⟩, ⟨PySem.W.mg_of X G eC, kpC, xcC, sbC, tyC⟩, ⟨PySem.W.mg_of X G eM, kpM, xcM, sbM, tyM⟩, ⟨PySem.W.mg_of X G eU, kpU, xcU, sbU, tyU⟩⟩
  have dr : Dr mg A := ⟨(PySem.W.mg_of X G a26).trans (congrArg (fun z => some (Value.ref z)) hA0.symm)⟩
  have kit : ∀ {a : Addr}, PySem.W.subIn K (.ref a) (.type "ValueError") = some true → PySem.W.kitOne K (.ref a) (.type "ValueError") = some true := fun {a} h1 => by
    unfold PySem.W.kitOne
    rw [if_neg (show ¬ ((Value.ref a == Value.type "ValueError") = true) from Bool.false_ne_true)]
    show (if PySem.W.kitMeta "ValueError" = true then PySem.W.subIn K (.ref a) (.type "ValueError") else none) = some true
    rw [if_pos (by decide +kernel)]
    exact h1
  have kiU := kit kvU
  have kiC := kit kvC
  have kiM := kit kvM
  have one : ∀ {a b : Addr} {r : Bool}, PySem.W.subIn K (.ref b) (.type "BaseException") = some true → PySem.W.hasDictIn K b = true → PySem.W.typeIn K (.ref b) = some (.type "type") → PySem.W.subIn K (.ref a) (.ref b) = some r → PySem.W.exmOne K (.ref a) (.ref b) = some r := fun h1 h2 h3 h4 => PySem.W.exm_ref h1 h2 h3 h4
  have oA : A.ok := ⟨nUC, nUM, nCM⟩
  have mt : Mt K A.mt := by
    refine ⟨fun c c' b e => ?_, fun c c' e => ?_⟩
    · unfold Ad.mt at e
      split at e
      · split at e
        · next h1 =>
          split at e
          · next h2 => cases e; subst h1; subst h2; exact one sbU hdU tyU sUU
          · cases e
        · split at e
          · next h1 =>
            split at e
            · next h2 => cases e; subst h1; subst h2; exact one sbU hdU tyU sCU
            · split at e
              · next h2 => cases e; subst h1; subst h2; exact one sbC hdC tyC sCC
              · cases e
          · split at e
            · next h1 =>
              split at e
              · next h2 =>
                cases e
                subst h1
                rcases h2 with h2 | h2
                · subst h2; exact one sbU hdU tyU sMU
                · subst h2; exact one sbC hdC tyC sMC
              · split at e
                · next h2 => cases e; subst h1; subst h2; exact one sbM hdM tyM sMM
                · cases e
            · cases e
      · cases e
    · unfold Ad.mt at e
      split at e
      · split at e
        · next h1 => subst h1; exact ⟨_, rfl, ⟨fgU, fkU, sbU, hdU, fcU, sp, tk, moU⟩, kiU⟩
        · split at e
          · next h1 => subst h1; exact ⟨_, rfl, ⟨fgC, fkC, sbC, hdC, fcC, sp, tk, moC⟩, kiC⟩
          · split at e
            · next h1 => subst h1; exact ⟨_, rfl, ⟨fgM, fkM, sbM, hdM, fcM, sp, tk, moM⟩, kiM⟩
            · cases e
      · cases e
  let T : Doors := fun a => if a = f26 then some (1, F_shortest_next A) else none
  have hd0 : T (A.fn "shortest_next") = some (1, F_shortest_next A) := by
    rw [hA0]
    exact if_pos rfl
  refine ⟨PySem.W.fnOf "law" "law" (defArgs st_law) (defBody st_law) (defScope st_law) .none kV45 dc45 pm45 an45 cd45 ct45, fun s v => .of_eq rfl, fun base _ _ => ?_⟩
  have hT : ∀ a n F, T a = some (n, F) → HasA l.prog w K mg base a n 88 F := fun a n F e => by
    by_cases h0 : a = f26
    · have e2 : some (1, F_shortest_next A) = some (n, F) := (if_pos h0).symm.trans e
      cases e2; subst h0; exact (((h_shortest_next D bl ex dr mt)).at (PySem.W.mg_of X G a26)).up (by omega)
    have e2 : none = some (n, F) := ((if_neg h0).trans (rfl)).symm.trans e
    cases e2
  exact ok_law D bl ex dr mt oA hT hd0 F45
end K
open PySem PySem.W PyProof.Rows
set_option maxHeartbeats 0 in
theorem PySem.Challenge.cw_orderedcodes_k74_main_rows_of_lengths_st_holds : PySem.Challenge.rw_orderedcodes_k74_main_rows_of_lengths_st.Holds := by
  w_on; o_law; k_head; (case hw => w_witness2)
  k_fill
  refine L2.walk_of (l := PySem.Challenge.rw_orderedcodes_k74_main_rows_of_lengths_st) (n := 63) (k := 91) (x := "script") (CX := fun w => L2.CX PySem.Challenge.rw_orderedcodes_k74_main_rows_of_lengths_st.prog w) (sp := fun w => K.spLaw _) rfl (by decide) rfl ⟨rfl, by decide, by decide⟩ (fun w h Y => PySem.W.kIn_of Y) ?F (fun _ _ a ns hl _ hS => ⟨a, ns, rfl, hS, hl, fun _ => rfl⟩) (fun _ _ _ _ _ ⟨_, _, _, _, _, _, _, _, _, _, _, _, h⟩ => h)
  case F =>
    intro w mg fa h KX G hmg
    refine' K.all_mk KX G hmg ?h_a0 ?h_l0 ?h_c0 ?h_k0 ?h_a1 ?h_l1 ?h_c1 ?h_k1 ?h_a2 ?h_l2 ?h_c2 ?h_k2 ?h_a3 ?h_l3 ?h_c3 ?h_k3 ?h_a4 ?h_l4 ?h_c4 ?h_k4 ?h_a5 ?h_l5 ?h_c5 ?h_k5 ?h_a6 ?h_l6 ?h_c6 ?h_k6 ?h_a7 ?h_l7 ?h_c7 ?h_k7 ?h_a8 ?h_l8 ?h_c8 ?h_k8 ?h_a9 ?h_l9 ?h_c9 ?h_k9 ?h_a10 ?h_l10 ?h_c10 ?h_k10 ?h_a11 ?h_l11 ?h_c11 ?h_k11 ?h_a12 ?h_l12 ?h_c12 ?h_k12 ?h_a13 ?h_l13 ?h_c13 ?h_k13 ?h_a14 ?h_l14 ?h_c14 ?h_k14 ?h_a15 ?h_l15 ?h_c15 ?h_k15 ?h_a16 ?h_l16 ?h_c16 ?h_k16 ?h_a17 ?h_l17 ?h_c17 ?h_k17 ?h_a18 ?h_l18 ?h_c18 ?h_k18 ?h_a19 ?h_l19 ?h_c19 ?h_k19 ?h_a20 ?h_l20 ?h_c20 ?h_k20 ?h_a21 ?h_l21 ?h_c21 ?h_k21 ?h_a22 ?h_l22 ?h_c22 ?h_k22 ?h_a23 ?h_l23 ?h_c23 ?h_k23 ?h_a24 ?h_l24 ?h_c24 ?h_k24 ?h_a25 ?h_l25 ?h_c25 ?h_k25 ?h_a26 ?h_l26 ?h_c26 ?h_k26 ?h_a27 ?h_l27 ?h_c27 ?h_k27 ?h_a28 ?h_l28 ?h_c28 ?h_k28 ?h_a29 ?h_l29 ?h_c29 ?h_k29 ?h_a30 ?h_l30 ?h_c30 ?h_k30 ?h_a31 ?h_l31 ?h_c31 ?h_k31 ?h_a32 ?h_l32 ?h_c32 ?h_k32 ?h_a33 ?h_l33 ?h_c33 ?h_k33 ?h_a34 ?h_l34 ?h_c34 ?h_k34 ?h_a35 ?h_l35 ?h_c35 ?h_k35 ?h_a36 ?h_l36 ?h_c36 ?h_k36 ?h_a37 ?h_l37 ?h_c37 ?h_k37 ?h_a38 ?h_l38 ?h_c38 ?h_k38 ?h_a39 ?h_l39 ?h_c39 ?h_k39 ?h_a40 ?h_l40 ?h_c40 ?h_k40 ?h_a41 ?h_l41 ?h_c41 ?h_k41 ?h_a42 ?h_l42 ?h_c42 ?h_k42 ?h_a43 ?h_l43 ?h_c43 ?h_k43 ?h_a44 ?h_l44 ?h_c44 ?h_k44 ?h_a45 ?h_l45 ?h_c45 ?h_k45 ?h_z0 ?h_z1 ?h_z2 ?h_z3 ?h_z4 ?h_z5 ?h_z6 ?h_z7 ?h_z8 ?h_z9 ?h_z10 ?h_z11 ?h_z12 ?h_z13 ?h_z14 ?h_z15 ?h_z16 ?h_z17 ?h_z18 ?h_z19 ?h_eU ?h_eC ?h_eM ?h_eB ?h_kpU ?h_xcU ?h_sbU ?h_tyU ?h_hdU ?h_fgU ?h_fkU ?h_fcU ?h_moU ?h_kvU ?h_kpC ?h_xcC ?h_sbC ?h_tyC ?h_hdC ?h_fgC ?h_fkC ?h_fcC ?h_moC ?h_kvC ?h_kpM ?h_xcM ?h_sbM ?h_tyM ?h_hdM ?h_fgM ?h_fkM ?h_fcM ?h_moM ?h_kvM ?h_sp ?h_tk ?h_sUU ?h_sCU ?h_sCC ?h_sMU ?h_sMC ?h_sMM ?h_nUC ?h_nUM ?h_nCM
    (case h_a0 => k_is); (case h_l0 => k_is); (case h_c0 => k_is); (case h_k0 => k_is); (case h_a1 => k_is); (case h_l1 => k_is); (case h_c1 => k_is); (case h_k1 => k_is); (case h_a2 => k_is); (case h_l2 => k_is); (case h_c2 => k_is); (case h_k2 => k_is); (case h_a3 => k_is); (case h_l3 => k_is); (case h_c3 => k_is); (case h_k3 => k_is); (case h_a4 => k_is); (case h_l4 => k_is); (case h_c4 => k_is); (case h_k4 => k_is); (case h_a5 => k_is); (case h_l5 => k_is); (case h_c5 => k_is); (case h_k5 => k_is); (case h_a6 => k_is); (case h_l6 => k_is); (case h_c6 => k_is); (case h_k6 => k_is); (case h_a7 => k_is); (case h_l7 => k_is); (case h_c7 => k_is); (case h_k7 => k_is); (case h_a8 => k_is); (case h_l8 => k_is); (case h_c8 => k_is); (case h_k8 => k_is); (case h_a9 => k_is); (case h_l9 => k_is); (case h_c9 => k_is); (case h_k9 => k_is); (case h_a10 => k_is); (case h_l10 => k_is); (case h_c10 => k_is); (case h_k10 => k_is); (case h_a11 => k_is); (case h_l11 => k_is); (case h_c11 => k_is); (case h_k11 => k_is); (case h_a12 => k_is); (case h_l12 => k_is); (case h_c12 => k_is); (case h_k12 => k_is); (case h_a13 => k_is); (case h_l13 => k_is); (case h_c13 => k_is); (case h_k13 => k_is); (case h_a14 => k_is); (case h_l14 => k_is); (case h_c14 => k_is); (case h_k14 => k_is); (case h_a15 => k_is); (case h_l15 => k_is); (case h_c15 => k_is); (case h_k15 => k_is); (case h_a16 => k_is); (case h_l16 => k_is); (case h_c16 => k_is); (case h_k16 => k_is); (case h_a17 => k_is); (case h_l17 => k_is); (case h_c17 => k_is); (case h_k17 => k_is); (case h_a18 => k_is); (case h_l18 => k_is); (case h_c18 => k_is); (case h_k18 => k_is); (case h_a19 => k_is); (case h_l19 => k_is); (case h_c19 => k_is); (case h_k19 => k_is); (case h_a20 => k_is); (case h_l20 => k_is); (case h_c20 => k_is); (case h_k20 => k_is); (case h_a21 => k_is); (case h_l21 => k_is); (case h_c21 => k_is); (case h_k21 => k_is); (case h_a22 => k_is); (case h_l22 => k_is); (case h_c22 => k_is); (case h_k22 => k_is); (case h_a23 => k_is); (case h_l23 => k_is); (case h_c23 => k_is); (case h_k23 => k_is); (case h_a24 => k_is); (case h_l24 => k_is); (case h_c24 => k_is); (case h_k24 => k_is); (case h_a25 => k_is); (case h_l25 => k_is); (case h_c25 => k_is); (case h_k25 => k_is); (case h_a26 => k_is); (case h_l26 => k_is); (case h_c26 => k_is); (case h_k26 => k_is); (case h_a27 => k_is); (case h_l27 => k_is); (case h_c27 => k_is); (case h_k27 => k_is); (case h_a28 => k_is); (case h_l28 => k_is); (case h_c28 => k_is); (case h_k28 => k_is); (case h_a29 => k_is); (case h_l29 => k_is); (case h_c29 => k_is); (case h_k29 => k_is); (case h_a30 => k_is); (case h_l30 => k_is); (case h_c30 => k_is); (case h_k30 => k_is); (case h_a31 => k_is); (case h_l31 => k_is); (case h_c31 => k_is); (case h_k31 => k_is); (case h_a32 => k_is); (case h_l32 => k_is); (case h_c32 => k_is); (case h_k32 => k_is); (case h_a33 => k_is); (case h_l33 => k_is); (case h_c33 => k_is); (case h_k33 => k_is); (case h_a34 => k_is); (case h_l34 => k_is); (case h_c34 => k_is); (case h_k34 => k_is); (case h_a35 => k_is); (case h_l35 => k_is); (case h_c35 => k_is); (case h_k35 => k_is); (case h_a36 => k_is); (case h_l36 => k_is); (case h_c36 => k_is); (case h_k36 => k_is); (case h_a37 => k_is); (case h_l37 => k_is); (case h_c37 => k_is); (case h_k37 => k_is); (case h_a38 => k_is); (case h_l38 => k_is); (case h_c38 => k_is); (case h_k38 => k_is); (case h_a39 => k_is); (case h_l39 => k_is); (case h_c39 => k_is); (case h_k39 => k_is); (case h_a40 => k_is); (case h_l40 => k_is); (case h_c40 => k_is); (case h_k40 => k_is); (case h_a41 => k_is); (case h_l41 => k_is); (case h_c41 => k_is); (case h_k41 => k_is); (case h_a42 => k_is); (case h_l42 => k_is); (case h_c42 => k_is); (case h_k42 => k_is); (case h_a43 => k_is); (case h_l43 => k_is); (case h_c43 => k_is); (case h_k43 => k_is); (case h_a44 => k_is); (case h_l44 => k_is); (case h_c44 => k_is); (case h_k44 => k_is); (case h_a45 => k_is); (case h_l45 => k_is); (case h_c45 => k_is); (case h_k45 => k_is); (case h_z0 => k_is); (case h_z1 => k_is); (case h_z2 => k_is); (case h_z3 => k_is); (case h_z4 => k_is); (case h_z5 => k_is); (case h_z6 => k_is); (case h_z7 => k_is); (case h_z8 => k_is); (case h_z9 => k_is); (case h_z10 => k_is); (case h_z11 => k_is); (case h_z12 => k_is); (case h_z13 => k_is); (case h_z14 => k_is); (case h_z15 => k_is); (case h_z16 => k_is); (case h_z17 => k_is); (case h_z18 => k_is); (case h_z19 => k_is); (case h_eU => k_is); (case h_eC => k_is); (case h_eM => k_is); (case h_eB => k_is); (case h_kpU => k_is); (case h_xcU => k_exc); (case h_sbU => k_is); (case h_tyU => k_is); (case h_hdU => k_is); (case h_fgU => k_is); (case h_fkU => k_is); (case h_fcU => k_is); (case h_moU => k_is); (case h_kvU => k_is); (case h_kpC => k_is); (case h_xcC => k_exc); (case h_sbC => k_is); (case h_tyC => k_is); (case h_hdC => k_is); (case h_fgC => k_is); (case h_fkC => k_is); (case h_fcC => k_is); (case h_moC => k_is); (case h_kvC => k_is); (case h_kpM => k_is); (case h_xcM => k_exc); (case h_sbM => k_is); (case h_tyM => k_is); (case h_hdM => k_is); (case h_fgM => k_is); (case h_fkM => k_is); (case h_fcM => k_is); (case h_moM => k_is); (case h_kvM => k_is); (case h_sp => k_is); (case h_tk => k_is); (case h_sUU => k_is); (case h_sCU => k_is); (case h_sCC => k_is); (case h_sMU => k_is); (case h_sMC => k_is); (case h_sMM => k_is); (case h_nUC => decide); (case h_nUM => decide); (case h_nCM => decide)
end H_k74_
