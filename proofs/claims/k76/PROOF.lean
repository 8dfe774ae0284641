import PyProof.Rows.All
import HandS.ForMost
import HandS.ForExc
import HandS.Walk
import HandS.TupAny
import HandS.TupMul
import HandS.Wide
import HandS.Deep
import HandS.IsInst
import HandS.Zip
import HandS.Style
import HandS.Small
import HandS.ListItems
import KE.GoesEnum
import HandS.SortInts
import HandS.CallLocal
import HandS.Conv
import HandS.Text
import HandS.WordsExc
import HandS.Flow
import HandS.TryMany
import PySem.Challenge.RW_orderedcodes_k76_main_nearest_trees_belo
section PvA_
set_option Elab.async false
set_option linter.all false
set_option maxRecDepth 100000
set_option maxHeartbeats 4000000
/-! Plain values over the hand layer: data without addresses, a state of slots, one monad; each construct once. -/
namespace Pv
open PySem PySem.Spec PyProof.Rows L2

/-- data: what a value stands for, whatever its address -/
inductive D where
  | non | bl (b : Bool) | int (i : Int) | str (x : Str) | tup (xs : List D) | lst (xs : List D)
  | fn (a : Addr) | box | scr (ns : List Int) | dk (kvs : List (Key × D)) | dt (kvs : List (List Key × D))
  deriving Inhabited

/-- what is frozen (never written again), and where the box of draws stands -/
structure Wd where
  F : Hp
  bp : Option Addr

mutual
def Rep (K : PySem.W.Frag) (w : Wd) : D → V → Prop
  | .non, v => v = .non
  | .bl b, v => v = .bl b
  | .int i, v => v = .int i
  | .str x, v => v = .str x
  | .tup ds, v => ∃ a vs, v = .ref a ∧ SqT K w.F a vs ∧ RepAll K w ds vs
  | .lst ds, v => ∃ a vs, v = .ref a ∧ w.F a = some (.lst vs) ∧ RepAll K w ds vs
  | .fn a, v => v = .ref a
  | .box, v => ∃ a, v = .ref a ∧ w.bp = some a
  | .scr ns, v => ∃ a, v = .ref a ∧ SqL K w.F a (ns.map V.int)
  | .dk kvs, v => ∃ a us, v = .ref a ∧ w.F a = some (.dK us) ∧ RepK K w kvs us
  | .dt kvs, v => ∃ a us, v = .ref a ∧ w.F a = some (.dT us) ∧ RepT K w kvs us
def RepAll (K : PySem.W.Frag) (w : Wd) : List D → List V → Prop
  | [], vs => vs = []
  | d :: ds, vs => ∃ v r, vs = v :: r ∧ Rep K w d v ∧ RepAll K w ds r
def RepK (K : PySem.W.Frag) (w : Wd) : List (Key × D) → List (Key × V) → Prop
  | [], vs => vs = []
  | (k, d) :: ds, vs => ∃ v r, vs = (k, v) :: r ∧ Rep K w d v ∧ RepK K w ds r
def RepT (K : PySem.W.Frag) (w : Wd) : List (List Key × D) → List (List Key × V) → Prop
  | [], vs => vs = []
  | (k, d) :: ds, vs => ∃ v r, vs = (k, v) :: r ∧ Rep K w d v ∧ RepT K w ds r
end

/-- more is frozen -/
structure Ext (w w' : Wd) : Prop where
  same : Same w.F w'.F
  bp : ∀ p, w.bp = some p → w'.bp = some p
theorem Ext.refl (w : Wd) : Ext w w := ⟨Same.refl _, fun _ h => h⟩
theorem Ext.trans {a b c : Wd} (h : Ext a b) (g : Ext b c) : Ext a c := ⟨h.same.trans g.same, fun p e => g.bp p (h.bp p e)⟩

theorem same_seqT {K : PySem.W.Frag} {H H' : Hp} {a : Addr} {xs : List V} (e : Same H H') (h : SqT K H a xs) : SqT K H' a xs := by
  rcases h with (h | ⟨o, h⟩) | h
  · exact .inl (.inl (e _ _ h))
  · exact .inl (.inr ⟨o, e _ _ h⟩)
  · exact .inr h

mutual
theorem Rep.mono {K : PySem.W.Frag} {w w' : Wd} (e : Ext w w') : ∀ {d : D} {v : V}, Rep K w d v → Rep K w' d v
  | .non, _, h => h
  | .bl _, _, h => h
  | .int _, _, h => h
  | .str _, _, h => h
  | .tup ds, v, h => by
    obtain ⟨a, vs, e1, e2, e3⟩ := h
    exact ⟨a, vs, e1, same_seqT e.same e2, RepAll.mono e e3⟩
  | .lst ds, v, h => by
    obtain ⟨a, vs, e1, e2, e3⟩ := h
    exact ⟨a, vs, e1, e.same _ _ e2, RepAll.mono e e3⟩
  | .fn _, _, h => h
  | .box, v, h => by
    obtain ⟨a, e1, e2⟩ := h
    exact ⟨a, e1, e.bp _ e2⟩
  | .scr ns, v, h => by
    obtain ⟨a, e1, e2⟩ := h
    exact ⟨a, e1, e.same.seq e2⟩
  | .dk kvs, v, h => by
    obtain ⟨a, us, e1, e2, e3⟩ := h
    exact ⟨a, us, e1, e.same _ _ e2, RepK.mono e e3⟩
  | .dt kvs, v, h => by
    obtain ⟨a, us, e1, e2, e3⟩ := h
    exact ⟨a, us, e1, e.same _ _ e2, RepT.mono e e3⟩
theorem RepAll.mono {K : PySem.W.Frag} {w w' : Wd} (e : Ext w w') : ∀ {ds : List D} {vs : List V}, RepAll K w ds vs → RepAll K w' ds vs
  | [], _, h => h
  | d :: ds, vs, h => by
    obtain ⟨v, r, e1, e2, e3⟩ := h
    exact ⟨v, r, e1, Rep.mono e e2, RepAll.mono e e3⟩
theorem RepK.mono {K : PySem.W.Frag} {w w' : Wd} (e : Ext w w') : ∀ {ds : List (Key × D)} {vs : List (Key × V)}, RepK K w ds vs → RepK K w' ds vs
  | [], _, h => h
  | (k, d) :: ds, vs, h => by
    obtain ⟨v, r, e1, e2, e3⟩ := h
    exact ⟨v, r, e1, Rep.mono e e2, RepK.mono e e3⟩
theorem RepT.mono {K : PySem.W.Frag} {w w' : Wd} (e : Ext w w') : ∀ {ds : List (List Key × D)} {vs : List (List Key × V)}, RepT K w ds vs → RepT K w' ds vs
  | [], _, h => h
  | (k, d) :: ds, vs, h => by
    obtain ⟨v, r, e1, e2, e3⟩ := h
    exact ⟨v, r, e1, Rep.mono e e2, RepT.mono e e3⟩
end

section
variable {K : PySem.W.Frag} {w : Wd}
theorem RepAll.length : ∀ {ds : List D} {vs : List V}, RepAll K w ds vs → vs.length = ds.length
  | [], _, h => by rw [show _ = [] from h]; rfl
  | d :: ds, vs, h => by
    obtain ⟨v, r, e1, _, e3⟩ := h
    rw [e1, List.length_cons, List.length_cons, RepAll.length e3]
theorem RepAll.get : ∀ {ds : List D} {vs : List V} {i : Nat} {d : D}, RepAll K w ds vs → ds[i]? = some d → ∃ v, vs[i]? = some v ∧ Rep K w d v
  | [], _, _, _, _, e => by simp at e
  | d :: ds, vs, 0, x, h, e => by
    obtain ⟨v, r, e1, e2, _⟩ := h
    simp at e
    subst e
    exact ⟨v, by rw [e1]; rfl, e2⟩
  | d :: ds, vs, i + 1, x, h, e => by
    obtain ⟨v, r, e1, _, e3⟩ := h
    obtain ⟨u, q1, q2⟩ := RepAll.get (i := i) e3 (by simpa using e)
    exact ⟨u, by rw [e1]; simpa using q1, q2⟩
theorem RepAll.append : ∀ {ds es : List D} {vs us : List V}, RepAll K w ds vs → RepAll K w es us → RepAll K w (ds ++ es) (vs ++ us)
  | [], _, _, _, h, g => by rw [show _ = [] from h]; exact g
  | d :: ds, es, vs, us, h, g => by
    obtain ⟨v, r, e1, e2, e3⟩ := h
    rw [e1]
    exact ⟨v, r ++ us, rfl, e2, RepAll.append e3 g⟩
theorem RepAll.take : ∀ {ds : List D} {vs : List V} (n : Nat), RepAll K w ds vs → RepAll K w (ds.take n) (vs.take n)
  | ds, vs, 0, _ => by simp; rfl
  | [], vs, n + 1, h => by rw [show vs = [] from h]; simp; rfl
  | d :: ds, vs, n + 1, h => by
    obtain ⟨v, r, e1, e2, e3⟩ := h
    rw [e1]
    exact ⟨v, r.take n, rfl, e2, RepAll.take n e3⟩
theorem RepAll.drop : ∀ {ds : List D} {vs : List V} (n : Nat), RepAll K w ds vs → RepAll K w (ds.drop n) (vs.drop n)
  | ds, vs, 0, h => by simpa using h
  | [], vs, n + 1, h => by rw [show vs = [] from h]; simp; rfl
  | d :: ds, vs, n + 1, h => by
    obtain ⟨v, r, e1, e2, e3⟩ := h
    rw [e1]
    exact RepAll.drop n e3
theorem RepAll.one {d : D} {v : V} (h : Rep K w d v) : RepAll K w [d] [v] := ⟨v, [], rfl, h, rfl⟩
theorem RepAll.nil : RepAll K w [] [] := rfl
theorem RepAll.cons {d : D} {v : V} {ds : List D} {vs : List V} (h : Rep K w d v) (g : RepAll K w ds vs) : RepAll K w (d :: ds) (v :: vs) := ⟨v, vs, rfl, h, g⟩
theorem RepAll.cons_inv {d : D} {ds : List D} {vs : List V} (h : RepAll K w (d :: ds) vs) : ∃ v r, vs = v :: r ∧ Rep K w d v ∧ RepAll K w ds r := h
theorem RepAll.reverse : ∀ {ds : List D} {vs : List V}, RepAll K w ds vs → RepAll K w ds.reverse vs.reverse
  | [], vs, h => by rw [show vs = [] from h]; exact RepAll.nil
  | d :: ds, vs, h => by
    obtain ⟨v, r, e1, e2, e3⟩ := h
    rw [e1, List.reverse_cons, List.reverse_cons]
    exact RepAll.append (RepAll.reverse e3) (RepAll.one e2)
theorem RepAll.dropLast {ds : List D} {vs : List V} (h : RepAll K w ds vs) : RepAll K w ds.dropLast vs.dropLast := by
  rw [List.dropLast_eq_take, List.dropLast_eq_take, h.length]
  exact RepAll.take _ h
theorem RepAll.set : ∀ {ds : List D} {vs : List V} {d : D} {v : V} (i : Nat), RepAll K w ds vs → Rep K w d v → RepAll K w (ds.set i d) (vs.set i v)
  | [], vs, _, _, _, h, _ => by rw [show vs = [] from h]; exact RepAll.nil
  | d :: ds, vs, x, u, 0, h, g => by
    obtain ⟨v, r, e1, e2, e3⟩ := h
    rw [e1]
    exact ⟨u, r, rfl, g, e3⟩
  | d :: ds, vs, x, u, i + 1, h, g => by
    obtain ⟨v, r, e1, e2, e3⟩ := h
    rw [e1]
    exact ⟨v, r.set i u, rfl, e2, RepAll.set i e3 g⟩
theorem RepAll.eraseIdx : ∀ {ds : List D} {vs : List V} (i : Nat), RepAll K w ds vs → RepAll K w (ds.eraseIdx i) (vs.eraseIdx i)
  | [], vs, _, h => by rw [show vs = [] from h]; exact RepAll.nil
  | d :: ds, vs, 0, h => by
    obtain ⟨v, r, e1, e2, e3⟩ := h
    rw [e1]
    exact e3
  | d :: ds, vs, i + 1, h => by
    obtain ⟨v, r, e1, e2, e3⟩ := h
    rw [e1]
    exact ⟨v, r.eraseIdx i, rfl, e2, RepAll.eraseIdx i e3⟩
theorem RepAll.ints : ∀ {ns : List Int} {vs : List V}, RepAll K w (ns.map D.int) vs → vs = ns.map V.int
  | [], vs, h => h
  | n :: ns, vs, h => by
    obtain ⟨v, r, e1, e2, e3⟩ := h
    rw [e1, show v = .int n from e2, RepAll.ints e3]
    rfl
theorem RepAll.of_ints : ∀ (ns : List Int), RepAll K w (ns.map D.int) (ns.map V.int)
  | [] => rfl
  | n :: ns => ⟨.int n, ns.map V.int, rfl, rfl, RepAll.of_ints ns⟩
theorem RepAll.strs : ∀ {xs : List Str} {vs : List V}, RepAll K w (xs.map D.str) vs → vs = xs.map V.str
  | [], vs, h => h
  | n :: ns, vs, h => by
    obtain ⟨v, r, e1, e2, e3⟩ := h
    rw [e1, show v = .str n from e2, RepAll.strs e3]
    rfl
theorem RepAll.of_strs : ∀ (ns : List Str), RepAll K w (ns.map D.str) (ns.map V.str)
  | [] => rfl
  | n :: ns => ⟨.str n, ns.map V.str, rfl, rfl, RepAll.of_strs ns⟩
theorem RepAll.bls : ∀ {bs : List Bool} {vs : List V}, RepAll K w (bs.map D.bl) vs → vs = bs.map V.bl
  | [], vs, h => h
  | n :: ns, vs, h => by
    obtain ⟨v, r, e1, e2, e3⟩ := h
    rw [e1, show v = .bl n from e2, RepAll.bls e3]
    rfl
end

/-- what a slot holds -/
inductive SV where
  | no | d (x : D) | o (xs : List D) | bx | ok (kvs : List (Key × D)) | ot (kvs : List (List Key × D))
  deriving Inhabited
def SV.own : SV → Bool
  | .o _ => true
  | .ok _ => true
  | .ot _ => true
  | _ => false

structure S where
  env : List SV
  box : Int × Int × Int

/-- an exception: its class, and its own attribute where it has one -/
inductive Exn where
  | pl (c : Value) | at (c : Value) (n : Str) (x : D)

inductive Out (α : Type) where
  | ok (a : α) (s : S) | exc (e : Exn) (s : S) | no
abbrev M (α : Type) := S → Out α
def Out.bind {α β : Type} (x : Out α) (f : α → S → Out β) : Out β := match x with
  | .ok a s => f a s
  | .exc e s => .exc e s
  | .no => .no
def mpure {α : Type} (a : α) : M α := fun s => .ok a s
def mbind {α β : Type} (m : M α) (f : α → M β) : M β := fun s => (m s).bind f
def ofO {α : Type} (x : Option α) : M α := fun s => match x with
  | some a => .ok a s
  | none => .no

/-- a def's entry: the heap, what was frozen, the box -/
structure Fm where
  H0 : Hp
  F0 : Hp
  b0 : Option Addr
  fx : Bool

def SlotOk (K : PySem.W.Frag) (f : Fm) (w : Wd) (H : Hp) (x : SV) (v : Option V) : Prop := match x with
  | .no => True
  | .d x => ∃ u, v = some u ∧ Rep K w x u
  | .o xs => ∃ p vs, v = some (.ref p) ∧ H p = some (.lst vs) ∧ RepAll K w xs vs ∧ w.F p = none ∧ w.bp ≠ some p ∧ f.H0 p = none
  | .bx => ∃ p, v = some (.ref p) ∧ w.bp = some p
  | .ok kvs => ∃ p us, v = some (.ref p) ∧ H p = some (.dK us) ∧ RepK K w kvs us ∧ w.F p = none ∧ w.bp ≠ some p ∧ f.H0 p = none
  | .ot kvs => ∃ p us, v = some (.ref p) ∧ H p = some (.dT us) ∧ RepT K w kvs us ∧ w.F p = none ∧ w.bp ≠ some p ∧ f.H0 p = none

def boxV (b : Int × Int × Int) : HO := .lst [.int b.1, .int b.2.1, .int b.2.2]

structure StOk (K : PySem.W.Frag) (f : Fm) (w : Wd) (s : S) (σ : L2.St) (H : Hp) : Prop where
  sub : Same w.F H
  fr : ∀ a o, f.H0 a = some o → f.b0 ≠ some a → H a = some o
  ff : ∀ a, f.H0 a ≠ none → f.F0 a = none → w.F a = none
  f0 : Same f.F0 w.F
  bb : ∀ p, f.b0 = some p → w.bp = some p
  bf : f.fx = true → w.bp = f.b0
  len : s.env.length = σ.length
  slot : ∀ (i : Nat) (x : SV), s.env[i]? = some x → SlotOk K f w H x (σ[i]?.join)
  bx : ∀ (p : Addr), w.bp = some p → H p = some (boxV s.box) ∧ w.F p = none ∧ (f.b0 = some p ∨ f.H0 p = none)
  dist : ∀ (i j : Nat) (x y : SV) (p : Addr), i ≠ j → s.env[i]? = some x → s.env[j]? = some y → x.own = true → y.own = true → σ[i]?.join = some (.ref p) → σ[j]?.join ≠ some (.ref p)
end Pv
end PvA_

section PvB_
set_option Elab.async false
set_option linter.all false
set_option maxRecDepth 100000
set_option maxHeartbeats 4000000
namespace Pv
open PySem PySem.Spec PyProof.Rows L2

def RepX (K : PySem.W.Frag) (w : Wd) (H : Hp) : Exn → Value → Option Addr → Prop
  | .pl c, c', dd => c' = c ∧ dd = none
  | .at c n x, c', dd => c' = c ∧ ∃ a v, dd = some a ∧ H a = some (.xd [(n, v)]) ∧ Rep K w x v

/-- what is wanted behind m: of its value by R, of its exception by W -/
def Po {α β : Type} (K : PySem.W.Frag) (f : Fm) (W : WX) (R : Fm → Wd → S → L2.St → Hp → α → β → Prop) (w : Wd) (σ : L2.St) (Q : β → Hp → Prop) : Out α → Prop
  | .ok a s' => ∀ w' H' b, Ext w w' → StOk K f w' s' σ H' → R f w' s' σ H' a b → Q b H'
  | .exc e s' => ∀ w' H' c dd, Ext w w' → StOk K f w' s' σ H' → RepX K w' H' e c dd → W c dd σ H'
  | .no => False
def tG {α β : Type} (K : PySem.W.Frag) (W : WX) (R : Fm → Wd → S → L2.St → Hp → α → β → Prop) (m : M α) : L2.St → Hp → (β → Hp → Prop) → Prop :=
  fun σ H Q => ∃ f w s, StOk K f w s σ H ∧ Po K f W R w σ Q (m s)

abbrev RD (K : PySem.W.Frag) : Fm → Wd → S → L2.St → Hp → D → V → Prop := fun _ w _ _ _ d v => Rep K w d v
abbrev RB : Fm → Wd → S → L2.St → Hp → Bool → Bool → Prop := fun _ _ _ _ _ a b => b = a
abbrev RA (K : PySem.W.Frag) : Fm → Wd → S → L2.St → Hp → List D → List V → Prop := fun _ w _ _ _ d v => RepAll K w d v
/-- a new list, nobody's yet -/
def RF (K : PySem.W.Frag) : Fm → Wd → S → L2.St → Hp → List D → V → Prop := fun f w s σ H xs v => ∃ p vs, v = .ref p ∧ H p = some (.lst vs) ∧ RepAll K w xs vs ∧ w.F p = none ∧ w.bp ≠ some p ∧ f.H0 p = none ∧
  ∀ (i : Nat) (x : SV), s.env[i]? = some x → x.own = true → σ[i]?.join ≠ some (.ref p)
abbrev tM (K : PySem.W.Frag) (W : WX) (m : M D) : TE := tG K W (RD K) m
abbrev tT (K : PySem.W.Frag) (W : WX) (m : M Bool) : TT := tG K W RB m
abbrev tA (K : PySem.W.Frag) (W : WX) (m : M (List D)) : TA := tG K W (RA K) m
abbrev tF (K : PySem.W.Frag) (W : WX) (m : M (List D)) : TE := tG K W (RF K) m

section
variable {α β γ δ : Type} {K : PySem.W.Frag} {f : Fm} {W : WX} {R : Fm → Wd → S → L2.St → Hp → α → β → Prop} {R' : Fm → Wd → S → L2.St → Hp → γ → δ → Prop} {w w' : Wd} {σ : L2.St} {H : Hp} {Q Q' : β → Hp → Prop}
theorem Po.ext {o : Out α} (h : Po K f W R w σ Q o) (e : Ext w w') : Po K f W R w' σ Q o := by
  cases o with
  | ok a s => exact fun w2 H2 b e2 => h w2 H2 b (e.trans e2)
  | exc x s => exact fun w2 H2 c dd e2 => h w2 H2 c dd (e.trans e2)
  | no => exact h
theorem Po.imp {o : Out α} (h : Po K f W R w σ Q o) (q : ∀ b H, Q b H → Q' b H) : Po K f W R w σ Q' o := by
  cases o with
  | ok a s => exact fun w2 H2 b e2 s2 r => q _ _ (h w2 H2 b e2 s2 r)
  | exc x s => exact h
  | no => exact h
/-- one behind the other -/
theorem Po.seq {o : Out α} {m2 : α → S → Out γ} {P : δ → Hp → Prop} (h : Po K f W R' w σ P (o.bind m2)) :
    Po K f W R w σ (fun b H1 => ∃ a w1 s1, Ext w w1 ∧ StOk K f w1 s1 σ H1 ∧ R f w1 s1 σ H1 a b ∧ Po K f W R' w1 σ P (m2 a s1)) o := by
  cases o with
  | ok a s => exact fun w2 H2 b e2 s2 r => ⟨a, w2, s, e2, s2, r, h.ext e2⟩
  | exc x s => exact h
  | no => exact h
/-- .. and what follows is wanted at once -/
theorem Po.thn {o : Out α} {m2 : α → S → Out γ} {P : δ → Hp → Prop} (h : Po K f W R' w σ P (o.bind m2)) (q : ∀ a w1 s1 b H1, Ext w w1 → StOk K f w1 s1 σ H1 → R f w1 s1 σ H1 a b → Po K f W R' w1 σ P (m2 a s1) → Q b H1) :
    Po K f W R w σ Q o := (Po.seq h).imp fun b H1 ⟨a, w1, s1, e1, st, r, p⟩ => q a w1 s1 b H1 e1 st r p
theorem ofO_some {a : α} {s : S} {x : Option α} (h : x = some a) : ofO x s = .ok a s := by subst h; rfl
theorem Po.ofO {x : Option α} {s : S} (h : Po K f W R w σ Q (ofO x s)) : ∃ a, x = some a ∧ ∀ w' H' b, Ext w w' → StOk K f w' s σ H' → R f w' s σ H' a b → Q b H' := by
  cases x with
  | none => exact h.elim
  | some a => exact ⟨a, rfl, h⟩
end

section
variable {X : Cx} {e : Expr} {t t' : TE} {u u' : TT} {es : List Expr} {ta ta' : TA}
theorem pe_imp (h : PE X e t) (q : ∀ σ H Q, t' σ H Q → t σ H Q) : PE X e t' := ⟨fun pins s σ H Q I hw => h.run pins s σ H Q I (q σ H Q hw)⟩
theorem pt_imp (h : PT X e u) (q : ∀ σ H Q, u' σ H Q → u σ H Q) : PT X e u' := ⟨fun pins s σ H Q I hw => h.run pins s σ H Q I (q σ H Q hw)⟩
theorem pw_imp (h : PW X e u) (q : ∀ σ H Q, u' σ H Q → u σ H Q) : PW X e u' := ⟨fun wh pins s σ H Q I hw => h.run wh pins s σ H Q I (q σ H Q hw)⟩
theorem pa_imp (h : PA X es ta) (q : ∀ σ H Q, ta' σ H Q → ta σ H Q) : PA X es ta' := ⟨fun pos pins s σ H Q I hw => h.run pos pins s σ H Q I (q σ H Q hw)⟩
end

/-! ### states -/
section
variable {K : PySem.W.Frag} {f : Fm} {w w' : Wd} {s s' : S} {σ : L2.St} {H H' : Hp}
theorem SlotOk.ext {x : SV} {v : Option V} (h : SlotOk K f w H x v) (e : Ext w w') (hH : ∀ p, x.own = true → v = some (.ref p) → H' p = H p ∧ w'.F p = none ∧ w'.bp ≠ some p) : SlotOk K f w' H' x v := by
  cases x with
  | no => exact trivial
  | d x =>
    obtain ⟨u, e1, e2⟩ := h
    exact ⟨u, e1, e2.mono e⟩
  | o xs =>
    obtain ⟨p, vs, e1, e2, e3, e4, e5, e6⟩ := h
    obtain ⟨q1, q2, q3⟩ := hH p rfl e1
    exact ⟨p, vs, e1, q1.trans e2, RepAll.mono e e3, q2, q3, e6⟩
  | bx =>
    obtain ⟨p, e1, e2⟩ := h
    exact ⟨p, e1, e.bp _ e2⟩
  | ok kvs =>
    obtain ⟨p, vs, e1, e2, e3, e4, e5, e6⟩ := h
    obtain ⟨q1, q2, q3⟩ := hH p rfl e1
    exact ⟨p, vs, e1, q1.trans e2, RepK.mono e e3, q2, q3, e6⟩
  | ot kvs =>
    obtain ⟨p, vs, e1, e2, e3, e4, e5, e6⟩ := h
    obtain ⟨q1, q2, q3⟩ := hH p rfl e1
    exact ⟨p, vs, e1, q1.trans e2, RepT.mono e e3, q2, q3, e6⟩
/-- where an own slot's thing stands -/
theorem SlotOk.at {x : SV} {v : Option V} (h : SlotOk K f w H x v) (o : x.own = true) : ∃ p, v = some (.ref p) ∧ H p ≠ none ∧ w.F p = none ∧ w.bp ≠ some p ∧ f.H0 p = none := by
  cases x with
  | no => cases o
  | d x => cases o
  | bx => cases o
  | o xs =>
    obtain ⟨p, vs, e1, e2, e3, e4, e5, e6⟩ := h
    exact ⟨p, e1, (by rw [e2]; exact fun z => nomatch z), e4, e5, e6⟩
  | ok xs =>
    obtain ⟨p, vs, e1, e2, e3, e4, e5, e6⟩ := h
    exact ⟨p, e1, (by rw [e2]; exact fun z => nomatch z), e4, e5, e6⟩
  | ot xs =>
    obtain ⟨p, vs, e1, e2, e3, e4, e5, e6⟩ := h
    exact ⟨p, e1, (by rw [e2]; exact fun z => nomatch z), e4, e5, e6⟩

/-- a new thing that is frozen at once -/
def Wd.put (w : Wd) (p : Addr) (o : HO) : Wd := ⟨upd w.F p o, w.bp⟩
theorem StOk.freshF (h : StOk K f w s σ H) {p : Addr} (hp : H p = none) : w.F p = none := by
  cases q : w.F p with
  | none => rfl
  | some o => rw [h.sub _ _ q] at hp; cases hp
theorem StOk.fresh0 (h : StOk K f w s σ H) {p : Addr} (hp : H p = none) : f.H0 p = none := by
  cases q : f.H0 p with
  | none => rfl
  | some o =>
    by_cases e : f.b0 = some p
    · obtain ⟨z, _⟩ := h.bx p (h.bb p e)
      rw [z] at hp
      cases hp
    · rw [h.fr _ _ q e] at hp
      cases hp
theorem ext_put {p : Addr} {o : HO} (hp : w.F p = none) : Ext w (w.put p o) := ⟨fun b u e => by
    show upd w.F p o b = some u
    rw [upd_ne (ne_of_none e hp)]
    exact e, fun _ e => e⟩
theorem StOk.put (h : StOk K f w s σ H) {p : Addr} {o : HO} (hp : H p = none) : StOk K f (w.put p o) s σ (upd H p o) where
  sub := fun b u e => by
    have e' : upd w.F p o b = some u := e
    by_cases hb : b = p
    · subst hb
      rw [upd_same] at e' ⊢
      exact e'
    · rw [upd_ne hb] at e' ⊢
      exact h.sub _ _ e'
  fr := fun a u e1 e2 => by
    have e := h.fr a u e1 e2
    rw [upd_ne (ne_of_none e hp)]
    exact e
  ff := fun a e1 e2 => by
    show upd w.F p o a = none
    have ne : a ≠ p := fun z => e1 (by rw [z]; exact h.fresh0 hp)
    rw [upd_ne ne]
    exact h.ff a e1 e2
  f0 := h.f0.trans (ext_put (h.freshF hp)).same
  bb := h.bb
  bf := h.bf
  len := h.len
  slot := fun i x e => (h.slot i x e).ext (ext_put (h.freshF hp)) fun q hq e1 => by
    obtain ⟨q', e2, e3, e4, e5, e6⟩ := (h.slot i x e).at hq
    rw [e1] at e2
    cases e2
    have ne : q ≠ p := fun z => e3 (by rw [z]; exact hp)
    exact ⟨upd_ne ne, by show upd w.F p o q = none; rw [upd_ne ne]; exact e4, e5⟩
  bx := fun q e => by
    obtain ⟨e1, e2, e3⟩ := h.bx q e
    have ne : q ≠ p := ne_of_none e1 hp
    exact ⟨by rw [upd_ne ne]; exact e1, by show upd w.F p o q = none; rw [upd_ne ne]; exact e2, e3⟩
  dist := h.dist
theorem Wd.put_at {p : Addr} {o : HO} : (w.put p o).F p = some o := upd_same
end
end Pv
end PvB_

section PvC_
set_option Elab.async false
set_option linter.all false
set_option maxRecDepth 100000
set_option maxHeartbeats 4000000
namespace Pv
open PySem PySem.Spec PyProof.Rows L2

/-! ### slots read -/
def getS (i : Nat) (s : S) : SV := s.env.getD i .no
def setS (i : Nat) (x : SV) (s : S) : S := { s with env := s.env.set i x }
/-- a name as a value: what was its own is frozen -/
def rd (i : Nat) : M D := fun s => match getS i s with
  | .no => .no
  | .d x => .ok x s
  | .o xs => .ok (.lst xs) (setS i (.d (.lst xs)) s)
  | .bx => .ok .box s
  | .ok kvs => .ok (.dk kvs) (setS i (.d (.dk kvs)) s)
  | .ot kvs => .ok (.dt kvs) (setS i (.d (.dt kvs)) s)
theorem getS_some {i : Nat} {s : S} {x : SV} (h : getS i s = x) (n : x ≠ .no) : s.env[i]? = some x := by
  unfold getS at h
  rw [List.getD_eq_getElem?_getD] at h
  cases e : s.env[i]? with
  | none => rw [e] at h; exact absurd h.symm n
  | some y => rw [e] at h; exact congrArg some h

section
variable {K : PySem.W.Frag} {f : Fm} {w w' : Wd} {s s' : S} {σ : L2.St} {H H' : Hp}
theorem getElem?_set_cases {α : Type} {l : List α} {i j : Nat} {x y : α} (h : (l.set i x)[j]? = some y) : (i = j ∧ y = x) ∨ (i ≠ j ∧ l[j]? = some y) := by
  by_cases e : i = j
  · subst e
    rw [List.getElem?_set] at h
    simp at h
    exact .inl ⟨rfl, h.2.symm⟩
  · rw [List.getElem?_set_ne e] at h
    exact .inr ⟨e, h⟩
/-- what was a slot's own is frozen -/
theorem StOk.freeze (h : StOk K f w s σ H) {i : Nat} {x : SV} {y : D} {p : Addr} {o : HO} (hi : s.env[i]? = some x) (hx : x.own = true) (hv : σ[i]?.join = some (.ref p)) (hp : H p = some o)
    (hy : Rep K (w.put p o) y (.ref p)) : StOk K f (w.put p o) (setS i (.d y) s) σ H := by
  obtain ⟨q, e2, e3, e4, e5, e6⟩ := (h.slot i x hi).at hx
  rw [hv] at e2
  cases e2
  refine ⟨fun b u e => ?_, h.fr, fun a e1 e2 => ?_, h.f0.trans (ext_put e4).same, h.bb, h.bf, ?_, fun j z e => ?_, fun q e => ?_, fun j k z u q n e1 e2 o1 o2 e7 => ?_⟩
  · have e' : upd w.F p o b = some u := e
    by_cases hb : b = p
    · subst hb
      rw [upd_same] at e'
      rw [← e']
      exact hp
    · rw [upd_ne hb] at e'
      exact h.sub _ _ e'
  · show upd w.F p o a = none
    have ne : a ≠ p := fun z => e1 (by rw [z]; exact e6)
    rw [upd_ne ne]
    exact h.ff a e1 e2
  · simpa [setS] using h.len
  · rcases getElem?_set_cases e with ⟨rfl, rfl⟩ | ⟨n, e⟩
    · exact ⟨.ref p, hv, hy⟩
    · refine (h.slot j z e).ext (ext_put e4) fun q hq e1 => ?_
      obtain ⟨q', e7, e8, e9, e10, e11⟩ := (h.slot j z e).at hq
      rw [e1] at e7
      cases e7
      have ne : q ≠ p := fun zz => h.dist i j x z p n hi e hx hq hv (by rw [← zz]; exact e1)
      exact ⟨rfl, by show upd w.F p o q = none; rw [upd_ne ne]; exact e9, e10⟩
  · obtain ⟨e1, e2, e3⟩ := h.bx q e
    have ne : q ≠ p := fun z => e5 (by rw [← z]; exact e)
    exact ⟨e1, by show upd w.F p o q = none; rw [upd_ne ne]; exact e2, e3⟩
  · rcases getElem?_set_cases e1 with ⟨rfl, rfl⟩ | ⟨n1, e1⟩
    · cases o1
    · rcases getElem?_set_cases e2 with ⟨rfl, rfl⟩ | ⟨n2, e2⟩
      · cases o2
      · exact h.dist j k z u q n e1 e2 o1 o2 e7
theorem join_some {i : Nat} {v : V} (h : σ[i]?.join = some v) : σ[i]? = some (some v) := by
  cases e : σ[i]? with
  | none => rw [e] at h; cases h
  | some y =>
    rw [e] at h
    exact congrArg some h
end

section
variable {X : Cx} {f : Fm} {W : WX}
theorem q_rd (i : Nat) {x : Str} {pos : Pos} (hN : X.N[i]? = some x := by rfl) (hv : Vis X.env.scope x := by first | exact Or.inl rfl | exact Or.inr (Or.inl rfl) | exact Or.inr (Or.inr rfl)) (hd : (x == ("__debug__" : Str)) = false := by decide)
    (hcd : (x == ("__classdict__" : Str)) = false := by decide) : PE X (.Name x pos) (tM X.K W (rd i)) := by
  refine pe_imp (pe_var hN hv hd hcd) fun σ H Q h => ?_
  obtain ⟨f, w, s, st, p⟩ := h
  unfold rd at p
  cases e : getS i s with
  | no => rw [e] at p; exact p.elim
  | d y =>
    rw [e] at p
    obtain ⟨u, e1, e2⟩ := st.slot i _ (getS_some e (fun z => nomatch z))
    exact ⟨u, join_some e1, p w H u (Ext.refl w) st e2⟩
  | o xs =>
    rw [e] at p
    have gi := getS_some e (fun z => nomatch z)
    obtain ⟨q, vs, e1, e2, e3, e4, e5, e6⟩ := st.slot i _ gi
    have hr : Rep X.K (w.put q (.lst vs)) (.lst xs) (.ref q) := ⟨q, vs, rfl, Wd.put_at, RepAll.mono (ext_put e4) e3⟩
    exact ⟨_, join_some e1, p _ H _ (ext_put e4) (st.freeze gi rfl e1 e2 hr) hr⟩
  | bx =>
    rw [e] at p
    obtain ⟨q, e1, e2⟩ := st.slot i _ (getS_some e (fun z => nomatch z))
    exact ⟨_, join_some e1, p w H _ (Ext.refl w) st ⟨q, rfl, e2⟩⟩
  | ok xs =>
    rw [e] at p
    have gi := getS_some e (fun z => nomatch z)
    obtain ⟨q, vs, e1, e2, e3, e4, e5, e6⟩ := st.slot i _ gi
    have hr : Rep X.K (w.put q (.dK vs)) (.dk xs) (.ref q) := ⟨q, vs, rfl, Wd.put_at, RepK.mono (ext_put e4) e3⟩
    exact ⟨_, join_some e1, p _ H _ (ext_put e4) (st.freeze gi rfl e1 e2 hr) hr⟩
  | ot xs =>
    rw [e] at p
    have gi := getS_some e (fun z => nomatch z)
    obtain ⟨q, vs, e1, e2, e3, e4, e5, e6⟩ := st.slot i _ gi
    have hr : Rep X.K (w.put q (.dT vs)) (.dt xs) (.ref q) := ⟨q, vs, rfl, Wd.put_at, RepT.mono (ext_put e4) e3⟩
    exact ⟨_, join_some e1, p _ H _ (ext_put e4) (st.freeze gi rfl e1 e2 hr) hr⟩

/-! ### constants -/
abbrev con (d : D) : M D := fun s => .ok d s
theorem q_con {e : Expr} {v : V} {d : D} (h : PE X e (tC v)) (hd : ∀ w, Rep X.K w d v) : PE X e (tM X.K W (con d)) := by
  refine pe_imp h fun σ H Q ⟨f, w, s, st, p⟩ => ?_
  exact p w H v (Ext.refl w) st (hd w)
theorem q_int {i : Int} {j pos} : PE X (.Constant (.int i) j pos) (tM X.K W (con (.int i))) := q_con pe_int fun _ => rfl
theorem q_bl {b : Bool} {j pos} : PE X (.Constant (.bool b) j pos) (tM X.K W (con (.bl b))) := q_con pe_bl fun _ => rfl
theorem q_non {j pos} : PE X (.Constant .none j pos) (tM X.K W (con .non)) := q_con pe_non fun _ => rfl
theorem q_str {x : Str} {j pos} : PE X (.Constant (.str x) j pos) (tM X.K W (con (.str x))) := q_con pe_str fun _ => rfl
/-- a module's int -/
theorem q_gint {x : Str} {i : Int} {t : Tok} {pos : Pos} (hg : Gl X x) (hm : X.mg x = some (.int i t)) (hd : (x == ("__debug__" : Str)) = false := by decide) : PE X (.Name x pos) (tM X.K W (con (.int i))) := q_con (pe_glob hg hm (v := .int i) ⟨_, rfl⟩ hd) fun _ => rfl
/-- a module's text -/
theorem q_gstr {x z : Str} {t : Tok} {pos : Pos} (hg : Gl X x) (hm : X.mg x = some (.str z t)) (hd : (x == ("__debug__" : Str)) = false := by decide) : PE X (.Name x pos) (tM X.K W (con (.str z))) := q_con (pe_glob hg hm (v := .str z) ⟨_, rfl⟩ hd) fun _ => rfl
/-- a def as a value -/
theorem q_gfn {x : Str} {a : Addr} {pos : Pos} (hg : Gl X x) (hm : X.mg x = some (.ref a)) (hd : (x == ("__debug__" : Str)) = false := by decide) : PE X (.Name x pos) (tM X.K W (con (.fn a))) := q_con (pe_glob hg hm (v := .ref a) rfl hd) fun _ => rfl

/-! ### two-place operations on values -/
def m2 (g : D → D → Option D) (a b : M D) : M D := fun s => (a s).bind fun x s1 => (b s1).bind fun y s2 => ofO (g x y) s2
/-- what a two-place rule must bring -/
def R2Ok (K : PySem.W.Frag) (r : R2) (g : D → D → Option D) : Prop := ∀ (f : Fm) (w : Wd) (s : S) (σ : L2.St) (H : Hp) (x y z : D) (v u : V) (Q : VK), StOk K f w s σ H → Rep K w x v → Rep K w y u → g x y = some z →
  (∀ w' H' t, Ext w w' → StOk K f w' s σ H' → Rep K w' z t → Q t H') → r v u H Q
theorem q_op {op : Operator} {a b : Expr} {pos : Pos} {r : R2} {g : D → D → Option D} {ma mb : M D} (ho : OpR X (binaryOp op) r) (hr : R2Ok X.K r g) (ha : PE X a (tM X.K W ma)) (hb : PE X b (tM X.K W mb)) :
    PE X (.BinOp a op b pos) (tM X.K W (m2 g ma mb)) := by
  refine pe_imp (pe_op ho ha hb) fun σ H Q ⟨f, w, s, st, p⟩ => ?_
  refine ⟨f, w, s, st, Po.thn p fun x w1 s1 v H1 e1 st1 r1 p1 => ⟨f, w1, s1, st1, Po.thn p1 fun y w2 s2 u H2 e2 st2 r2 p2 => ?_⟩⟩
  obtain ⟨z, ez, pz⟩ := p2.ofO
  exact hr f w2 s2 σ H2 x y z v u Q st2 (Rep.mono e2 r1) r2 ez fun w' H' t e' st' rt => pz w' H' t e' st' rt
theorem R2Ok.or {K : PySem.W.Frag} {r r' : R2} {g g' : D → D → Option D} (h : R2Ok K r g) (h' : R2Ok K r' g') : R2Ok K (fun x y H Q => r x y H Q ∨ r' x y H Q) (fun x y => match g x y with | some z => some z | none => g' x y) := by
  intro f w s σ H x y z v u Q st rv ru e q
  cases e1 : g x y with
  | some z' =>
    simp only [e1] at e
    exact .inl (h f w s σ H x y z v u Q st rv ru (e1.trans e) q)
  | none =>
    simp only [e1] at e
    exact .inr (h' f w s σ H x y z v u Q st rv ru e q)
theorem R2Ok.g {K : PySem.W.Frag} {r : R2} {g g' : D → D → Option D} (h : R2Ok K r g) (e : ∀ x y, g' x y = g x y) : R2Ok K r g' := by
  intro f w s σ H x y z v u Q st rv ru ez q
  exact h f w s σ H x y z v u Q st rv ru ((e x y).symm.trans ez) q
section
variable {K : PySem.W.Frag}
def gII (c : Int → Int → Option D) (x y : D) : Option D := match x, y with
  | .int i, .int j => c i j
  | _, _ => none
theorem rI0_ok {g : Int → Int → V} {h : Int → Int → D} (e : ∀ w i j, Rep K w (h i j) (g i j)) : R2Ok K (rI0 g) (gII fun i j => some (h i j)) := by
  intro f w s σ H x y z v u Q st rv ru ez q
  unfold gII at ez
  split at ez
  · rename_i i j
    cases ez
    exact ⟨i, j, rv, ru, q w H _ (Ext.refl w) st (e w i j)⟩
  · cases ez
open Classical in
theorem rI_ok {C : Int → Int → Prop} {g : Int → Int → V} {h : Int → Int → D} {c : Int → Int → Option D} (e : ∀ w i j, Rep K w (h i j) (g i j)) (hc : ∀ i j z, c i j = some z → C i j ∧ z = h i j) : R2Ok K (rI C g) (gII c) := by
  intro f w s σ H x y z v u Q st rv ru ez q
  unfold gII at ez
  split at ez
  · rename_i i j
    obtain ⟨h1, h2⟩ := hc i j z ez
    subst h2
    exact ⟨i, j, rv, ru, h1, q w H _ (Ext.refl w) st (e w i j)⟩
  · cases ez
end

/-! ### + -/
def dAdd (x y : D) : Option D := match x, y with
  | .int i, .int j => some (.int (i + j))
  | .str a, .str b => if a.length + b.length ≤ sizeLine then some (.str (a ++ b)) else none
  | .tup a, .tup b => if a.length + b.length ≤ sizeLine then some (.tup (a ++ b)) else none
  | .lst a, .lst b => if a.length + b.length ≤ sizeLine then some (.lst (a ++ b)) else none
  | _, _ => none
end
end Pv
end PvC_

section PvD_
set_option Elab.async false
set_option linter.all false
set_option maxRecDepth 100000
set_option maxHeartbeats 4000000
namespace Pv
open PySem PySem.Spec PyProof.Rows L2
section
variable {K : PySem.W.Frag} {f : Fm} {w : Wd} {s : S} {σ : L2.St} {H : Hp}
/-- a tuple that is read stands in the heap, too -/
theorem StOk.tup (st : StOk K f w s σ H) {a : Addr} {vs : List V} (h : SqT K w.F a vs) : SqT K H a vs := same_seqT st.sub h
/-- what a new tuple brings -/
theorem StOk.newT (st : StOk K f w s σ H) {Q : VK} {z : List D} {vs : List V} (r : RepAll K w z vs) (q : ∀ w' H' t, Ext w w' → StOk K f w' s σ H' → Rep K w' (.tup z) t → Q t H') :
    ∀ p, H p = none → Q (.ref p) (upd H p (.tup vs)) := fun p hp => by
  have e := ext_put (o := .tup vs) (st.freshF hp)
  exact q _ _ _ e (st.put hp) ⟨p, vs, rfl, .inl (.inl Wd.put_at), RepAll.mono e r⟩
theorem StOk.newL (st : StOk K f w s σ H) {Q : VK} {z : List D} {vs : List V} (r : RepAll K w z vs) (q : ∀ w' H' t, Ext w w' → StOk K f w' s σ H' → Rep K w' (.lst z) t → Q t H') :
    ∀ p, H p = none → Q (.ref p) (upd H p (.lst vs)) := fun p hp => by
  have e := ext_put (o := .lst vs) (st.freshF hp)
  exact q _ _ _ e (st.put hp) ⟨p, vs, rfl, Wd.put_at, RepAll.mono e r⟩
theorem RepAll.len_eq {a b : List D} {va vb : List V} (h : RepAll K w a va) (g : RepAll K w b vb) : va.length + vb.length = a.length + b.length := by rw [h.length, g.length]
theorem RepAll.nil_iff {a : List D} {va : List V} (h : RepAll K w a va) : va = [] ↔ a = [] := by
  have e := h.length
  constructor
  · intro z
    rw [z] at e
    exact List.length_eq_zero_iff.mp e.symm
  · intro z
    rw [z] at e
    exact List.length_eq_zero_iff.mp e
def rAddA (K : PySem.W.Frag) : R2 := fun x y H Q => rI0 (fun i j => .int (i + j)) x y H Q ∨ ((∃ i j, x = .str i ∧ y = .str j ∧ i.length + j.length ≤ sizeLine ∧ Q (.str (i ++ j)) H) ∨ (rCatA K x y H Q ∨ rCat x y H Q))
theorem op_addA {X : Cx} : OpR X (binaryOp .Add) (rAddA X.K) := op_add.or (op_add_str.or (op_catA.or op_cat))
theorem catA_ok {a b : List D} {v u : V} {Q : VK} (st : StOk K f w s σ H) (rv : Rep K w (.tup a) v) (ru : Rep K w (.tup b) u) (hz : a.length + b.length ≤ sizeLine)
    (q : ∀ w' H' t, Ext w w' → StOk K f w' s σ H' → Rep K w' (.tup (a ++ b)) t → Q t H') : rCatA K v u H Q := by
  obtain ⟨p, va, e1, e2, e3⟩ := rv
  obtain ⟨p', vb, e1', e2', e3'⟩ := ru
  refine ⟨p, p', va, vb, e1, e1', st.tup e2, st.tup e2', by rw [e3.len_eq e3']; exact hz, fun h => ?_, fun _ h => ?_, fun _ _ => st.newT (RepAll.append e3 e3') q⟩
  · have ha := e3.nil_iff.mp h
    subst ha
    exact q w H _ (Ext.refl w) st ⟨p', vb, rfl, e2', e3'⟩
  · have hb := e3'.nil_iff.mp h
    subst hb
    refine q w H _ (Ext.refl w) st ⟨p, va, rfl, e2, ?_⟩
    rw [List.append_nil]
    exact e3
theorem cat_ok {a b : List D} {v u : V} {Q : VK} (st : StOk K f w s σ H) (rv : Rep K w (.lst a) v) (ru : Rep K w (.lst b) u) (hz : a.length + b.length ≤ sizeLine)
    (q : ∀ p, H p = none → ∀ vs, RepAll K w (a ++ b) vs → Q (.ref p) (upd H p (.lst vs))) : rCat v u H Q := by
  obtain ⟨p, va, e1, e2, e3⟩ := rv
  obtain ⟨p', vb, e1', e2', e3'⟩ := ru
  exact ⟨p, p', va, vb, e1, e1', st.sub _ _ e2, st.sub _ _ e2', by rw [e3.len_eq e3']; exact hz, fun l hl => q l hl _ (RepAll.append e3 e3')⟩
theorem add_ok : R2Ok K (rAddA K) dAdd := by
  intro f w s σ H x y z v u Q st rv ru ez q
  unfold dAdd at ez
  split at ez
  · rename_i i j
    cases ez
    exact .inl ⟨i, j, rv, ru, q w H _ (Ext.refl w) st rfl⟩
  · rename_i a b
    split at ez
    · cases ez
      rename_i hz
      exact .inr (.inl ⟨a, b, rv, ru, hz, q w H _ (Ext.refl w) st rfl⟩)
    · cases ez
  · split at ez
    · cases ez
      rename_i hz
      exact .inr (.inr (.inl (catA_ok st rv ru hz q)))
    · cases ez
  · split at ez
    · cases ez
      rename_i hz
      exact .inr (.inr (.inr (cat_ok st rv ru hz fun p hp vs r => st.newL r q p hp)))
    · cases ez
  · cases ez

/-! ### - * // % ** -/
def dSub : D → D → Option D := gII fun i j => some (.int (i - j))
theorem sub_ok : R2Ok K (rI0 fun i j => .int (i - j)) dSub := rI0_ok fun _ _ _ => rfl
/-- * of ints (any size), of a list or a tuple and an int -/
def dMul (x y : D) : Option D := match x, y with
  | .int i, .int j => if i.natAbs.log2 + j.natAbs.log2 < 1000000 ∨ (i.natAbs < 2 ^ 64 ∨ j.natAbs < 2 ^ 64) then some (.int (i * j)) else none
  | .lst a, .int k => if -(2 ^ 63) ≤ k ∧ k < 2 ^ 63 ∧ a.length * k.toNat ≤ sizeLine then some (.lst (List.replicate k.toNat a).flatten) else none
  | .tup a, .int k => if a ≠ [] ∧ 2 ≤ k ∧ k ≤ 1000 ∧ a.length ≤ 1000 then some (.tup (List.replicate k.toNat a).flatten) else none
  | _, _ => none
def rMulA (K : PySem.W.Frag) : R2 := fun x y H Q => rI CMulW (fun i j => .int (i * j)) x y H Q ∨ (rI CMul (fun i j => .int (i * j)) x y H Q ∨ (rRep x y H Q ∨ rRepT K x y H Q))
theorem op_mulA {X : Cx} : OpR X (binaryOp .Mult) (rMulA X.K) := op_mulW.or (op_mul.or (op_rep.or op_repT))
theorem RepAll.rep {a : List D} {va : List V} (h : RepAll K w a va) : ∀ k : Nat, RepAll K w (List.replicate k a).flatten (List.replicate k va).flatten
  | 0 => rfl
  | k + 1 => by
    rw [List.replicate_succ, List.replicate_succ, List.flatten_cons, List.flatten_cons]
    exact RepAll.append h (RepAll.rep h k)
theorem mul_ok : R2Ok K (rMulA K) dMul := by
  intro f w s σ H x y z v u Q st rv ru ez q
  unfold dMul at ez
  split at ez
  · rename_i i j
    split at ez
    · rename_i hz
      cases ez
      rcases hz with hz | hz
      · exact .inl ⟨i, j, rv, ru, hz, q w H _ (Ext.refl w) st rfl⟩
      · refine .inr (.inl ⟨i, j, rv, ru, ?_, q w H _ (Ext.refl w) st rfl⟩)
        unfold CMul
        rcases hz with hz | hz
        · exact .inl (by omega)
        · exact .inr (by omega)
    · cases ez
  · rename_i a k
    split at ez
    · rename_i hz
      cases ez
      obtain ⟨p, va, e1, e2, e3⟩ := rv
      exact .inr (.inr (.inl ⟨p, k, va, e1, ru, st.sub _ _ e2, hz.1, hz.2.1, by rw [e3.length]; exact hz.2.2, st.newL (e3.rep _) q⟩))
    · cases ez
  · rename_i a k
    split at ez
    · rename_i hz
      cases ez
      obtain ⟨p, va, e1, e2, e3⟩ := rv
      exact .inr (.inr (.inr ⟨p, k, va, e1, ru, st.tup e2, fun z => hz.1 (e3.nil_iff.mp z), hz.2.1, hz.2.2.1, by rw [e3.length]; exact hz.2.2.2, st.newT (e3.rep _) q⟩))
    · cases ez
  · cases ez
/-- // by a divisor above 0, of less than 9000 bits -/
def dDiv : D → D → Option D := gII fun i j => if 0 < j ∧ j.natAbs.log2 < 9000 then some (.int (i / j)) else none
theorem div_ok : R2Ok K (rI CDivW fun i j => .int (i / j)) dDiv := rI_ok (h := fun i j => .int (i / j)) (fun _ _ _ => rfl) fun i j z e => by
  split at e
  · rename_i h
    cases e
    exact ⟨h, rfl⟩
  · cases e
/-- % by a divisor above 0 -/
def dMod : D → D → Option D := gII fun i j => if 0 < j then some (.int (i % j)) else none
theorem mod_ok : R2Ok K (rI (fun _ j => 0 < j) fun i j => .int (i % j)) dMod := rI_ok (h := fun i j => .int (i % j)) (fun _ _ _ => rfl) fun i j z e => by
  split at e
  · rename_i h
    cases e
    exact ⟨h, rfl⟩
  · cases e
def dPow : D → D → Option D := gII fun i j => if 0 ≤ j ∧ j ≤ 1000000 ∧ i.natAbs < 2 ^ 64 then some (.int (i ^ j.toNat)) else none
theorem pow_ok : R2Ok K (rI CPow fun i j => .int (i ^ j.toNat)) dPow := rI_ok (h := fun i j => .int (i ^ j.toNat)) (fun _ _ _ => rfl) fun i j z e => by
  split at e
  · rename_i h
    cases e
    exact ⟨h, rfl⟩
  · cases e
end
section
variable {X : Cx} {f : Fm} {W : WX} {a b : Expr} {pos : Pos} {ma mb : M D}
theorem q_add (ha : PE X a (tM X.K W ma)) (hb : PE X b (tM X.K W mb)) : PE X (.BinOp a .Add b pos) (tM X.K W (m2 dAdd ma mb)) := q_op op_addA add_ok ha hb
theorem q_sub (ha : PE X a (tM X.K W ma)) (hb : PE X b (tM X.K W mb)) : PE X (.BinOp a .Sub b pos) (tM X.K W (m2 dSub ma mb)) := q_op op_sub sub_ok ha hb
theorem q_mul (ha : PE X a (tM X.K W ma)) (hb : PE X b (tM X.K W mb)) : PE X (.BinOp a .Mult b pos) (tM X.K W (m2 dMul ma mb)) := q_op op_mulA mul_ok ha hb
theorem q_div (ha : PE X a (tM X.K W ma)) (hb : PE X b (tM X.K W mb)) : PE X (.BinOp a .FloorDiv b pos) (tM X.K W (m2 dDiv ma mb)) := q_op op_fdivW div_ok ha hb
theorem q_mod (ha : PE X a (tM X.K W ma)) (hb : PE X b (tM X.K W mb)) : PE X (.BinOp a .Mod b pos) (tM X.K W (m2 dMod ma mb)) := q_op op_mod mod_ok ha hb
theorem q_pow (ha : PE X a (tM X.K W ma)) (hb : PE X b (tM X.K W mb)) : PE X (.BinOp a .Pow b pos) (tM X.K W (m2 dPow ma mb)) := q_op op_pow pow_ok ha hb
/-- -a -/
def mNeg (a : M D) : M D := fun s => (a s).bind fun x s1 => match x with
  | .int i => .ok (.int (-i)) s1
  | _ => .no
theorem q_neg (ha : PE X a (tM X.K W ma)) : PE X (.UnaryOp .USub a pos) (tM X.K W (mNeg ma)) := by
  refine pe_imp (pe_un un_neg ha) fun σ H Q ⟨f, w, s, st, p⟩ => ?_
  refine ⟨f, w, s, st, Po.thn p fun x w1 s1 v H1 e1 st1 r1 p1 => ?_⟩
  cases x with
  | int i => exact ⟨i, r1, p1 w1 H1 _ (Ext.refl _) st1 rfl⟩
  | _ => exact p1.elim
end
end Pv
end PvD_

section PvE_
set_option Elab.async false
set_option linter.all false
set_option maxRecDepth 100000
set_option maxHeartbeats 4000000
namespace Pv
open PySem PySem.Spec PyProof.Rows L2

/-! ### == of data -/
mutual
def eqD : D → D → Bool
  | .non, .non => true
  | .bl a, .bl b => a == b
  | .bl a, .int j => (if a then 1 else 0) == j
  | .int i, .bl b => i == (if b then 1 else 0)
  | .int i, .int j => i == j
  | .str x, .str y => x == y
  | .lst xs, .lst ys => eqDs xs ys
  | .tup xs, .tup ys => eqDs xs ys
  | _, _ => false
def eqDs : List D → List D → Bool
  | [], [] => true
  | x :: xs, y :: ys => eqD x y && eqDs xs ys
  | _, _ => false
end
mutual
/-- plain data: None, bools, ints, texts, lists, tuples -/
def okD : D → Bool
  | .non => true
  | .bl _ => true
  | .int _ => true
  | .str x => x.cps.all (· < 0x110000)
  | .lst xs => okDs xs
  | .tup xs => okDs xs
  | _ => false
def okDs : List D → Bool
  | [] => true
  | x :: xs => okD x && okDs xs
end
mutual
def depthD : D → Nat
  | .lst xs => depthDs xs + 1
  | .tup xs => depthDs xs + 1
  | _ => 0
def depthDs : List D → Nat
  | [] => 0
  | x :: xs => max (depthD x) (depthDs xs)
end
mutual
def toP : D → PyData
  | .non => .none
  | .bl b => .bool b
  | .int i => .int i
  | .str x => .str x
  | .lst xs => .list (toPs xs)
  | .tup xs => .tuple (toPs xs)
  | _ => .none
def toPs : List D → List PyData
  | [] => []
  | x :: xs => toP x :: toPs xs
end
mutual
theorem toP_lay : ∀ {d : D}, okD d = true → (toP d).canLay0 = true
  | .non, _ => rfl
  | .bl _, _ => rfl
  | .int _, _ => rfl
  | .str x, h => h
  | .lst xs, h => toPs_lay (d := xs) h
  | .tup xs, h => toPs_lay (d := xs) h
  | .fn _, h => by cases h
  | .box, h => by cases h
  | .scr _, h => by cases h
  | .dk _, h => by cases h
  | .dt _, h => by cases h
theorem toPs_lay : ∀ {d : List D}, okDs d = true → PyData.canLayAll0 (toPs d) = true
  | [], _ => rfl
  | x :: xs, h => by
    have h' := Bool.and_eq_true_iff.mp (show (okD x && okDs xs) = true from h)
    show (PyData.canLay0 (toP x) && PyData.canLayAll0 (toPs xs)) = true
    rw [toP_lay h'.1, toPs_lay h'.2]
    rfl
end
mutual
theorem toP_depth : ∀ (d : D), (toP d).depth = depthD d
  | .non => rfl
  | .bl _ => rfl
  | .int _ => rfl
  | .str _ => rfl
  | .lst xs => congrArg (· + 1) (toPs_depth xs)
  | .tup xs => congrArg (· + 1) (toPs_depth xs)
  | .fn _ => rfl
  | .box => rfl
  | .scr _ => rfl
  | .dk _ => rfl
  | .dt _ => rfl
theorem toPs_depth : ∀ (d : List D), PyData.depthAll (toPs d) = depthDs d
  | [] => rfl
  | x :: xs => by
    show max (toP x).depth (PyData.depthAll (toPs xs)) = max (depthD x) (depthDs xs)
    rw [toP_depth x, toPs_depth xs]
end
mutual
theorem toP_eqv : ∀ {d e : D}, okD d = true → okD e = true → PyData.eqv (toP d) (toP e) = eqD d e
  | .lst xs, e, hd, he => by
    cases e with
    | lst ys => exact toPs_eqv (d := xs) (e := ys) hd he
    | fn _ => cases he
    | box => cases he
    | scr _ => cases he
    | dk _ => cases he
    | dt _ => cases he
    | _ => rfl
  | .tup xs, e, hd, he => by
    cases e with
    | tup ys => exact toPs_eqv (d := xs) (e := ys) hd he
    | fn _ => cases he
    | box => cases he
    | scr _ => cases he
    | dk _ => cases he
    | dt _ => cases he
    | _ => rfl
  | .non, e, _, he => by cases e <;> first | rfl | cases he
  | .bl _, e, _, he => by cases e <;> first | rfl | cases he
  | .int _, e, _, he => by cases e <;> first | rfl | cases he
  | .str _, e, _, he => by cases e <;> first | rfl | cases he
  | .fn _, _, h, _ => by cases h
  | .box, _, h, _ => by cases h
  | .scr _, _, h, _ => by cases h
  | .dk _, _, h, _ => by cases h
  | .dt _, _, h, _ => by cases h
theorem toPs_eqv : ∀ {d e : List D}, okDs d = true → okDs e = true → PyData.eqvAll (toPs d) (toPs e) = eqDs d e
  | [], [], _, _ => rfl
  | [], _ :: _, _, _ => rfl
  | _ :: _, [], _, _ => rfl
  | x :: xs, y :: ys, hd, he => by
    have h1 := Bool.and_eq_true_iff.mp (show (okD x && okDs xs) = true from hd)
    have h2 := Bool.and_eq_true_iff.mp (show (okD y && okDs ys) = true from he)
    show (PyData.eqv (toP x) (toP y) && PyData.eqvAll (toPs xs) (toPs ys)) = (eqD x y && eqDs xs ys)
    rw [toP_eqv h1.1 h2.1, toPs_eqv h1.2 h2.2]
end
mutual
theorem Rep.dp {K : PySem.W.Frag} {w : Wd} {H : Hp} (e : Same w.F H) : ∀ {d : D} {v : V}, okD d = true → Rep K w d v → Dp K H v (toP d)
  | .non, v, _, h => by rw [show v = .non from h]; exact .non
  | .bl b, v, _, h => by rw [show v = .bl b from h]; exact .bl b
  | .int b, v, _, h => by rw [show v = .int b from h]; exact .int b
  | .str b, v, _, h => by rw [show v = .str b from h]; exact .str b
  | .lst xs, v, ho, h => by
    obtain ⟨a, vs, e1, e2, e3⟩ := h
    rw [e1]
    exact .lst (SqL.of (e _ _ e2)) (RepAll.dp e (ds := xs) ho e3)
  | .tup xs, v, ho, h => by
    obtain ⟨a, vs, e1, e2, e3⟩ := h
    rw [e1]
    exact .tup (same_seqT e e2) (RepAll.dp e (ds := xs) ho e3)
  | .fn _, _, h, _ => by cases h
  | .box, _, h, _ => by cases h
  | .scr _, _, h, _ => by cases h
  | .dk _, _, h, _ => by cases h
  | .dt _, _, h, _ => by cases h
theorem RepAll.dp {K : PySem.W.Frag} {w : Wd} {H : Hp} (e : Same w.F H) : ∀ {ds : List D} {vs : List V}, okDs ds = true → RepAll K w ds vs → DpAll K H vs (toPs ds)
  | [], vs, _, h => by rw [show vs = [] from h]; exact .nil
  | x :: xs, vs, ho, h => by
    obtain ⟨v, r, e1, e2, e3⟩ := h
    have h1 := Bool.and_eq_true_iff.mp (show (okD x && okDs xs) = true from ho)
    rw [e1]
    exact .cons (Rep.dp e h1.1 e2) (RepAll.dp e h1.2 e3)
end
theorem shaped_of {d : D} (h : okD d = true) (g : depthD d ≤ 64) : SeqAt.shaped (toP d) = true := by
  show (PyData.canLay0 (toP d) && decide ((toP d).depth ≤ 64)) = true
  rw [toP_lay h, toP_depth, decide_eq_true g]
  rfl
def dEq (x y : D) : Option Bool := match x, y with
  | .str a, .str b => some (a == b)
  | .int a, .int b => some (a == b)
  | .bl a, .bl b => some (a == b)
  | x, y => if (okD x && okD y) = true ∧ depthD x ≤ 64 ∧ depthD y ≤ 64 then some (eqD x y) else none
def oB (x : Option Bool) : Option D := x.map D.bl
section
variable {K : PySem.W.Frag}
def rEqA (K : PySem.W.Frag) : R2 := fun x y H Q => rEq x y H Q ∨ rEqD K x y H Q
def rNeA (K : PySem.W.Frag) : R2 := fun x y H Q => rNe x y H Q ∨ rNeD K x y H Q
theorem eqA_ok : R2Ok K (rEqA K) (fun x y => oB (dEq x y)) := by
  intro f w s σ H x y z v u Q st rv ru ez q
  replace ez : oB (dEq x y) = some z := ez
  unfold dEq at ez
  split at ez
  · rename_i a b
    cases ez
    refine .inl ⟨by rw [show v = .str a from rv, show u = .str b from ru]; rfl, ?_⟩
    rw [show v = .str a from rv, show u = .str b from ru, dec_str]
    exact q w H _ (Ext.refl w) st rfl
  · rename_i a b
    cases ez
    refine .inl ⟨by rw [show v = .int a from rv, show u = .int b from ru]; rfl, ?_⟩
    rw [show v = .int a from rv, show u = .int b from ru, dec_int]
    exact q w H _ (Ext.refl w) st rfl
  · rename_i a b
    cases ez
    refine .inl ⟨by rw [show v = .bl a from rv, show u = .bl b from ru]; rfl, ?_⟩
    rw [show v = .bl a from rv, show u = .bl b from ru, dec_bl]
    exact q w H _ (Ext.refl w) st rfl
  · split at ez
    · rename_i h
      cases ez
      have ho := Bool.and_eq_true_iff.mp h.1
      refine .inr ⟨_, _, Rep.dp st.sub ho.1 rv, Rep.dp st.sub ho.2 ru, shaped_of ho.1 h.2.1, shaped_of ho.2 h.2.2, ?_⟩
      rw [toP_eqv ho.1 ho.2]
      exact q w H _ (Ext.refl w) st rfl
    · cases ez
theorem neA_ok : R2Ok K (rNeA K) (fun x y => oB ((dEq x y).map (!·))) := by
  intro f w s σ H x y z v u Q st rv ru ez q
  replace ez : oB ((dEq x y).map (!·)) = some z := ez
  unfold dEq at ez
  split at ez
  · rename_i a b
    cases ez
    refine .inl ⟨by rw [show v = .str a from rv, show u = .str b from ru]; rfl, ?_⟩
    rw [show v = .str a from rv, show u = .str b from ru, dec_str]
    exact q w H _ (Ext.refl w) st rfl
  · rename_i a b
    cases ez
    refine .inl ⟨by rw [show v = .int a from rv, show u = .int b from ru]; rfl, ?_⟩
    rw [show v = .int a from rv, show u = .int b from ru, dec_int]
    exact q w H _ (Ext.refl w) st rfl
  · rename_i a b
    cases ez
    refine .inl ⟨by rw [show v = .bl a from rv, show u = .bl b from ru]; rfl, ?_⟩
    rw [show v = .bl a from rv, show u = .bl b from ru, dec_bl]
    exact q w H _ (Ext.refl w) st rfl
  · split at ez
    · rename_i h
      cases ez
      have ho := Bool.and_eq_true_iff.mp h.1
      refine .inr ⟨_, _, Rep.dp st.sub ho.1 rv, Rep.dp st.sub ho.2 ru, shaped_of ho.1 h.2.1, shaped_of ho.2 h.2.2, ?_⟩
      rw [toP_eqv ho.1 ho.2]
      exact q w H _ (Ext.refl w) st rfl
    · cases ez

/-! ### order -/
def strLt (a b : Str) : Bool := decide (a.cps.toList < b.cps.toList)
def dLt (x y : D) : Option Bool := match x, y with
  | .int i, .int j => some (decide (i < j))
  | .str a, .str b => some (strLt a b)
  | _, _ => none
def dLe (x y : D) : Option Bool := match x, y with
  | .int i, .int j => some (decide (i ≤ j))
  | .str a, .str b => some (!strLt b a)
  | _, _ => none
def dGt (x y : D) : Option Bool := match x, y with
  | .int i, .int j => some (decide (j < i))
  | .str a, .str b => some (strLt b a)
  | _, _ => none
def dGe (x y : D) : Option Bool := match x, y with
  | .int i, .int j => some (decide (j ≤ i))
  | .str a, .str b => some (!strLt a b)
  | _, _ => none
/-- an order of ints, one of texts -/
def rOrd (g : Int → Int → Bool) (h : Str → Str → Bool) : R2 := fun x y H Q => rI0 (fun i j => .bl (g i j)) x y H Q ∨ ∃ i j, x = .str i ∧ y = .str j ∧ Q (.bl (h i j)) H
def dOrd (g : Int → Int → Bool) (h : Str → Str → Bool) (x y : D) : Option Bool := match x, y with
  | .int i, .int j => some (g i j)
  | .str a, .str b => some (h a b)
  | _, _ => none
theorem ord_ok (g : Int → Int → Bool) (h : Str → Str → Bool) : R2Ok K (rOrd g h) (fun x y => oB (dOrd g h x y)) := by
  intro f w s σ H x y z v u Q st rv ru ez q
  replace ez : oB (dOrd g h x y) = some z := ez
  unfold dOrd at ez
  split at ez
  · rename_i i j
    cases ez
    exact .inl ⟨i, j, rv, ru, q w H _ (Ext.refl w) st rfl⟩
  · rename_i i j
    cases ez
    exact .inr ⟨i, j, rv, ru, q w H _ (Ext.refl w) st rfl⟩
  · cases ez
end
section
variable {X : Cx}
theorem op_eqA (hu : X.A.units + 64 < cLine) : OpR X (compareOp .Eq) (rEqA X.K) := op_eq.or (op_eqD hu)
theorem op_neA (hu : X.A.units + 64 < cLine) : OpR X (compareOp .NotEq) (rNeA X.K) := op_ne.or (op_neD hu)
theorem op_ltA : OpR X (compareOp .Lt) (rOrd (fun i j => decide (i < j)) strLt) := op_lt.or op_lt_str
theorem op_leA : OpR X (compareOp .LtE) (rOrd (fun i j => decide (i ≤ j)) fun a b => !strLt b a) := op_le.or op_le_str
theorem op_gtA : OpR X (compareOp .Gt) (rOrd (fun i j => decide (j < i)) fun a b => strLt b a) := op_gt.or op_gt_str
theorem op_geA : OpR X (compareOp .GtE) (rOrd (fun i j => decide (j ≤ i)) fun a b => !strLt a b) := op_ge.or op_ge_str
theorem dLt_eq (x y : D) : dLt x y = dOrd (fun i j => decide (i < j)) strLt x y := by cases x <;> cases y <;> rfl
theorem dLe_eq (x y : D) : dLe x y = dOrd (fun i j => decide (i ≤ j)) (fun a b => !strLt b a) x y := by cases x <;> cases y <;> rfl
theorem dGt_eq (x y : D) : dGt x y = dOrd (fun i j => decide (j < i)) (fun a b => strLt b a) x y := by cases x <;> cases y <;> rfl
theorem dGe_eq (x y : D) : dGe x y = dOrd (fun i j => decide (j ≤ i)) (fun a b => !strLt a b) x y := by cases x <;> cases y <;> rfl

/-! ### in, is None -/
def flatD : D → Bool
  | .non => true
  | .bl _ => true
  | .int _ => true
  | .str _ => true
  | _ => false
def oneSign (x : Str) : Option Nat := match x.cps.toList with
  | [c] => some c
  | _ => none
/-- in: a flat thing in a list or a tuple of flat things; data in a list of data; a sign in a text -/
def dIn (x y : D) : Option Bool := match x, y with
  | x, .tup ds => if flatD x = true ∧ ds.all flatD = true then some (ds.any fun z => eqD z x) else none
  | x, .lst ds => if flatD x = true ∧ ds.all flatD = true then some (ds.any fun z => eqD z x) else if (okD x && okDs ds) = true ∧ depthD x ≤ 64 ∧ depthDs ds < 64 then some (ds.any fun z => eqD z x) else none
  | .str a, .str z => (oneSign a).map fun c => decide (c ∈ z.cps.toList)
  | _, _ => none
theorem flat_rep {K : PySem.W.Frag} {w : Wd} {d : D} {v : V} (h : flatD d = true) (r : Rep K w d v) : flatV v = true := by
  cases d with
  | non => rw [show v = .non from r]; rfl
  | bl b => rw [show v = .bl b from r]; rfl
  | int i => rw [show v = .int i from r]; rfl
  | str i => rw [show v = .str i from r]; rfl
  | _ => cases h
theorem flat_eq {K : PySem.W.Frag} {w : Wd} {d e : D} {v u : V} (h : flatD d = true) (g : flatD e = true) (r : Rep K w d v) (q : Rep K w e u) : eqV v u = eqD d e := by
  cases d with
  | non => rw [show v = .non from r]; cases e <;> first | (rw [show u = _ from q]; rfl) | cases g
  | bl b => rw [show v = .bl b from r]; cases e <;> first | (rw [show u = _ from q]; rfl) | cases g
  | int i => rw [show v = .int i from r]; cases e <;> first | (rw [show u = _ from q]; rfl) | cases g
  | str i => rw [show v = .str i from r]; cases e <;> first | (rw [show u = _ from q]; rfl) | cases g
  | _ => cases h
theorem flat_all {K : PySem.W.Frag} {w : Wd} : ∀ {ds : List D} {vs : List V}, ds.all flatD = true → RepAll K w ds vs → vs.all flatV = true
  | [], vs, _, h => by rw [show vs = [] from h]; rfl
  | d :: ds, vs, h, g => by
    obtain ⟨v, r, e1, e2, e3⟩ := g
    have h' := Bool.and_eq_true_iff.mp (show (flatD d && ds.all flatD) = true from h)
    rw [e1]
    show (flatV v && r.all flatV) = true
    rw [flat_rep h'.1 e2, flat_all h'.2 e3]
    rfl
theorem flat_any {K : PySem.W.Frag} {w : Wd} {x : D} {u : V} (hx : flatD x = true) (rx : Rep K w x u) : ∀ {ds : List D} {vs : List V}, ds.all flatD = true → RepAll K w ds vs → inV u vs = ds.any fun z => eqD z x
  | [], vs, _, h => by rw [show vs = [] from h]; rfl
  | d :: ds, vs, h, g => by
    obtain ⟨v, r, e1, e2, e3⟩ := g
    have h' := Bool.and_eq_true_iff.mp (show (flatD d && ds.all flatD) = true from h)
    rw [e1]
    show (eqV v u || inV u r) = (eqD d x || ds.any fun z => eqD z x)
    rw [flat_eq h'.1 hx e2 rx, flat_any hx rx h'.2 e3]
theorem any_eqv {x : D} (hx : okD x = true) : ∀ {ds : List D}, okDs ds = true → ((toPs ds).any fun z => PyData.eqv z (toP x)) = ds.any fun z => eqD z x
  | [], _ => rfl
  | d :: ds, h => by
    have h' := Bool.and_eq_true_iff.mp (show (okD d && okDs ds) = true from h)
    show (PyData.eqv (toP d) (toP x) || (toPs ds).any fun z => PyData.eqv z (toP x)) = (eqD d x || ds.any fun z => eqD z x)
    rw [toP_eqv h'.1 hx, any_eqv hx h'.2]
theorem oneSign_eq {x : Str} {c : Nat} (h : oneSign x = some c) : x = ⟨#[c]⟩ := by
  obtain ⟨a⟩ := x
  unfold oneSign at h
  split at h
  · rename_i d e
    cases h
    have e' : a.toList = [c] := e
    have : a = #[c] := by
      apply Array.ext'
      simpa using e'
    rw [this]
  · cases h
def rInA (K : PySem.W.Frag) (neg : Bool) : R2 := fun x y H Q => rIn K neg x y H Q ∨ ((if neg then rNotInD K x y H Q else rInD K x y H Q) ∨ ∃ (c : Nat) (z : Str), x = .str ⟨#[c]⟩ ∧ y = .str z ∧ Q (.bl (if neg then !decide (c ∈ z.cps.toList) else decide (c ∈ z.cps.toList))) H)
theorem op_inA (hu : X.A.units + 65 < cLine) : OpR X (compareOp .In) (rInA X.K false) := op_in_seq.or ((op_inD hu).or op_in_sign)
theorem op_notInA (hu : X.A.units + 65 < cLine) : OpR X (compareOp .NotIn) (rInA X.K true) := op_notIn_seq.or ((op_notInD hu).or op_notIn_sign)
theorem inA_ok {K : PySem.W.Frag} (neg : Bool) : R2Ok K (rInA K neg) (fun x y => oB ((dIn x y).map fun b => if neg then !b else b)) := by
  intro f w s σ H x y z v u Q st rv ru ez q
  replace ez : oB ((dIn x y).map fun b => if neg then !b else b) = some z := ez
  cases hd : dIn x y with
  | none => rw [hd] at ez; cases ez
  | some b =>
    have ez' : D.bl (if neg then !b else b) = z := by rw [hd] at ez; exact Option.some.inj ez
    have fin : Q (.bl (if neg then !b else b)) H := by
      subst ez'
      exact q w H _ (Ext.refl w) st rfl
    unfold dIn at hd
    split at hd
    · rename_i x ds
      split at hd
      · rename_i h
        injection hd with hd
        subst hd
        obtain ⟨a, vs, e1, e2, e3⟩ := ru
        refine .inl ⟨a, vs, e1, .inr (st.tup e2), flat_rep h.1 rv, flat_all h.2 e3, ?_⟩
        rw [flat_any h.1 rv h.2 e3]
        exact fin
      · cases hd
    · rename_i x ds
      split at hd
      · rename_i h
        injection hd with hd
        subst hd
        obtain ⟨a, vs, e1, e2, e3⟩ := ru
        refine .inl ⟨a, vs, e1, .inl (SqL.of (st.sub _ _ e2)), flat_rep h.1 rv, flat_all h.2 e3, ?_⟩
        rw [flat_any h.1 rv h.2 e3]
        exact fin
      · split at hd
        · rename_i h
          injection hd with hd
          subst hd
          have ho := Bool.and_eq_true_iff.mp h.1
          have h1 := Rep.dp st.sub ho.1 rv
          have h2 := Rep.dp st.sub (d := .lst ds) ho.2 ru
          have h3 := shaped_of ho.1 h.2.1
          have h4 : SeqAt.shaped (.list (toPs ds)) = true := shaped_of (d := .lst ds) ho.2 h.2.2
          have h5 := any_eqv ho.1 ho.2
          refine .inr (.inl ?_)
          cases neg with
          | false => exact ⟨_, _, h1, h2, h3, h4, by rw [h5]; exact fin⟩
          | true => exact ⟨_, _, h1, h2, h3, h4, by rw [h5]; exact fin⟩
        · cases hd
    · rename_i a z'
      cases hc : oneSign a with
      | none => rw [hc] at hd; cases hd
      | some c =>
        rw [hc] at hd
        injection hd with hd
        subst hd
        exact .inr (.inr ⟨c, z', by rw [show v = .str a from rv, oneSign_eq hc], ru, fin⟩)
    · cases hd
def isNonD : D → Bool
  | .non => true
  | _ => false
theorem isNon_rep {K : PySem.W.Frag} {w : Wd} {d : D} {v : V} (r : Rep K w d v) : decide (v = .non) = isNonD d := by
  cases d with
  | non => rw [show v = .non from r]; rfl
  | bl b => rw [show v = .bl b from r]; rfl
  | int i => rw [show v = .int i from r]; rfl
  | str i => rw [show v = .str i from r]; rfl
  | tup _ => obtain ⟨a, _, e, _⟩ := r; rw [e]; rfl
  | lst _ => obtain ⟨a, _, e, _⟩ := r; rw [e]; rfl
  | fn a => rw [show v = .ref a from r]; rfl
  | box => obtain ⟨a, e, _⟩ := r; rw [e]; rfl
  | scr _ => obtain ⟨a, e, _⟩ := r; rw [e]; rfl
  | dk _ => obtain ⟨a, _, e, _⟩ := r; rw [e]; rfl
  | dt _ => obtain ⟨a, _, e, _⟩ := r; rw [e]; rfl
theorem isN_ok {K : PySem.W.Frag} : R2Ok K (fun x y H Q => y = .non ∧ Q (.bl (decide (x = .non))) H) (fun x y => match y with | .non => some (.bl (isNonD x)) | _ => none) := by
  intro f w s σ H x y z v u Q st rv ru ez q
  cases y with
  | non =>
    injection ez with ez
    subst ez
    exact ⟨ru, by rw [isNon_rep rv]; exact q w H _ (Ext.refl w) st rfl⟩
  | _ => cases ez
theorem notN_ok {K : PySem.W.Frag} : R2Ok K (fun x y H Q => y = .non ∧ Q (.bl (!decide (x = .non))) H) (fun x y => match y with | .non => some (.bl (!isNonD x)) | _ => none) := by
  intro f w s σ H x y z v u Q st rv ru ez q
  cases y with
  | non =>
    injection ez with ez
    subst ez
    exact ⟨ru, by rw [isNon_rep rv]; exact q w H _ (Ext.refl w) st rfl⟩
  | _ => cases ez
end
end Pv
end PvE_

section PvF_
set_option Elab.async false
set_option linter.all false
set_option maxRecDepth 100000
set_option maxHeartbeats 4000000
namespace Pv
open PySem PySem.Spec PyProof.Rows L2
section
variable {X : Cx} {f : Fm} {W : WX} {a b c e : Expr} {es rest : List Expr} {pos : Pos} {ma mb mc : M D} {ta tb tc : M Bool}

/-- a truth as a value -/
def mB (m : M Bool) : M D := fun s => (m s).bind fun k s1 => .ok (.bl k) s1
/-- a value that is a truth -/
def mT (m : M D) : M Bool := fun s => (m s).bind fun x s1 => match x with
  | .bl k => .ok k s1
  | _ => .no
def m2b (g : D → D → Option Bool) (a b : M D) : M Bool := fun s => (a s).bind fun x s1 => (b s1).bind fun y s2 => ofO (g x y) s2

/-! ### comparisons -/
theorem q_cmp {op : CmpOp} {r : R2} {g : D → D → Option Bool} (ho : OpR X (compareOp op) r) (hr : R2Ok X.K r fun x y => oB (g x y)) (hm : behindInMarks op b = false) (ha : PE X a (tM X.K W ma)) (hb : PE X b (tM X.K W mb)) :
    PE X (.Compare a [op] [b] pos) (tM X.K W (mB (m2b g ma mb))) := by
  refine pe_imp (pe_cmpR ho ha hb hm) fun σ H Q ⟨f, w, s, st, p⟩ => ?_
  unfold mB m2b at p
  cases e1 : ma s with
  | no => rw [e1] at p; exact p.elim
  | exc x s1 =>
    rw [e1] at p
    exact ⟨f, w, s, st, by rw [e1]; exact p⟩
  | ok x s1 =>
    rw [e1] at p
    refine ⟨f, w, s, st, ?_⟩
    rw [e1]
    intro w1 H1 v x1 st1 r1
    refine ⟨f, w1, s1, st1, ?_⟩
    cases e2 : mb s1 with
    | no => rw [show ((Out.ok x s1).bind fun x s1 => (mb s1).bind fun y s2 => ofO (g x y) s2) = Out.no from by show (mb s1).bind _ = _; rw [e2]; rfl] at p; exact p.elim
    | exc y s2 =>
      rw [show ((Out.ok x s1).bind fun x s1 => (mb s1).bind fun y s2 => ofO (g x y) s2) = .exc y s2 from by show (mb s1).bind _ = _; rw [e2]; rfl] at p
      exact fun w' H' c dd e' => p w' H' c dd (x1.trans e')
    | ok y s2 =>
      rw [show ((Out.ok x s1).bind fun x s1 => (mb s1).bind fun y s2 => ofO (g x y) s2) = ofO (g x y) s2 from by show (mb s1).bind _ = _; rw [e2]; rfl] at p
      intro w2 H2 u x2 st2 r2
      cases e3 : g x y with
      | none => rw [e3] at p; exact p.elim
      | some k =>
        rw [e3] at p
        exact hr f w2 s2 σ H2 x y (.bl k) v u Q st2 (Rep.mono x2 r1) r2 (by show oB (g x y) = _; rw [e3]; rfl) fun w' H' t e' st' rt => p w' H' t (x1.trans (x2.trans e')) st' rt
theorem t_cmp {op : CmpOp} {r : R2} {g : D → D → Option Bool} (ho : OpR X (compareOp op) r) (hr : R2Ok X.K r fun x y => oB (g x y)) (hm : behindInMarks op b = false) (ha : PE X a (tM X.K W ma)) (hb : PE X b (tM X.K W mb)) :
    PT X (.Compare a [op] [b] pos) (tT X.K W (m2b g ma mb)) := by
  refine pt_imp (pt_cmpR ho ha hb hm) fun σ H Q ⟨f, w, s, st, p⟩ => ?_
  refine ⟨f, w, s, st, Po.thn p fun x w1 s1 v H1 e1 st1 r1 p1 => ⟨f, w1, s1, st1, Po.thn p1 fun y w2 s2 u H2 e2 st2 r2 p2 => ?_⟩⟩
  obtain ⟨k, ek, pk⟩ := p2.ofO
  refine hr f w2 s2 σ H2 x y (.bl k) v u _ st2 (Rep.mono e2 r1) r2 (by show oB (g x y) = _; rw [ek]; rfl) fun w' H' t e' st' rt => ?_
  exact ⟨k, rt, pk w' H' k e' st' rfl⟩
/-- a value that is a truth, as a test -/
theorem t_val (h : PE X e (tM X.K W ma)) (he : ∀ whole, isTrue e X.env whole = (do let v ← whole; standAt e.pos; holding [v] (truthy v)) := by intro _; rfl) : PT X e (tT X.K W (mT ma)) := by
  refine pt_imp (pt_val h he) fun σ H Q ⟨f, w, s, st, p⟩ => ?_
  refine ⟨f, w, s, st, Po.thn p fun x w1 s1 v H1 e1 st1 r1 p1 => ?_⟩
  cases x with
  | bl k => exact ⟨k, r1, p1 w1 H1 k (Ext.refl _) st1 rfl⟩
  | _ => exact p1.elim

/-! ### and, or, not, if else -/
def tAndM (ta tb : M Bool) : M Bool := fun s => (ta s).bind fun k s1 => if k then tb s1 else .ok false s1
def tOrM (ta tb : M Bool) : M Bool := fun s => (ta s).bind fun k s1 => if k then .ok true s1 else tb s1
def tNotM (ta : M Bool) : M Bool := fun s => (ta s).bind fun k s1 => .ok (!k) s1
theorem t_and1 (ha : PT X a (tT X.K W ta)) : PW X (.BoolOp .And [a] pos) (tT X.K W ta) := pw_and1 ha
theorem t_or1 (ha : PT X a (tT X.K W ta)) : PW X (.BoolOp .Or [a] pos) (tT X.K W ta) := pw_or1 ha
theorem t_and (ha : PT X a (tT X.K W ta)) (hb : PW X (.BoolOp .And (b :: rest) pos) (tT X.K W tb)) : PW X (.BoolOp .And (a :: b :: rest) pos) (tT X.K W (tAndM ta tb)) := by
  refine pw_imp (pw_and ha hb) fun σ H Q ⟨f, w, s, st, p⟩ => ?_
  refine ⟨f, w, s, st, Po.thn p fun x w1 s1 v H1 e1 st1 r1 p1 => ?_⟩
  have r1' : v = x := r1
  subst r1'
  cases v with
  | true =>
    rw [if_pos rfl]
    exact ⟨f, w1, s1, st1, p1⟩
  | false =>
    rw [if_neg Bool.false_ne_true]
    exact p1 w1 H1 false (Ext.refl _) st1 rfl
theorem t_or (ha : PT X a (tT X.K W ta)) (hb : PW X (.BoolOp .Or (b :: rest) pos) (tT X.K W tb)) : PW X (.BoolOp .Or (a :: b :: rest) pos) (tT X.K W (tOrM ta tb)) := by
  refine pw_imp (pw_or ha hb) fun σ H Q ⟨f, w, s, st, p⟩ => ?_
  refine ⟨f, w, s, st, Po.thn p fun x w1 s1 v H1 e1 st1 r1 p1 => ?_⟩
  have r1' : v = x := r1
  subst r1'
  cases v with
  | true =>
    rw [if_pos rfl]
    exact p1 w1 H1 true (Ext.refl _) st1 rfl
  | false =>
    rw [if_neg Bool.false_ne_true]
    exact ⟨f, w1, s1, st1, p1⟩
theorem t_not (ha : PT X a (tT X.K W ta)) : PT X (.UnaryOp .Not a pos) (tT X.K W (tNotM ta)) := by
  refine pt_imp (pt_not ha) fun σ H Q ⟨f, w, s, st, p⟩ => ?_
  refine ⟨f, w, s, st, Po.thn p fun x w1 s1 v H1 e1 st1 r1 p1 => ?_⟩
  have r1' : v = x := r1
  subst r1'
  exact p1 w1 H1 _ (Ext.refl _) st1 rfl
/-- as values: truths -/
def mAnd (ma mb : M D) : M D := fun s => (ma s).bind fun x s1 => match x with
  | .bl true => mb s1
  | .bl false => .ok (.bl false) s1
  | _ => .no
def mOr (ma mb : M D) : M D := fun s => (ma s).bind fun x s1 => match x with
  | .bl true => .ok (.bl true) s1
  | .bl false => mb s1
  | _ => .no
def mNot (ma : M D) : M D := fun s => (ma s).bind fun x s1 => match x with
  | .bl k => .ok (.bl (!k)) s1
  | _ => .no
theorem q_one {op} (ha : PE X a (tM X.K W ma)) : PE X (.BoolOp op [a] pos) (tM X.K W ma) := pe_one ha
theorem q_and (ha : PE X a (tM X.K W ma)) (hb : PE X (.BoolOp .And (b :: rest) pos) (tM X.K W mb)) : PE X (.BoolOp .And (a :: b :: rest) pos) (tM X.K W (mAnd ma mb)) := by
  refine pe_imp (pe_and ha hb) fun σ H Q ⟨f, w, s, st, p⟩ => ?_
  refine ⟨f, w, s, st, Po.thn p fun x w1 s1 v H1 e1 st1 r1 p1 => ?_⟩
  cases x with
  | bl k =>
    refine ⟨k, r1, ?_⟩
    cases k with
    | true =>
      rw [if_pos rfl]
      exact ⟨f, w1, s1, st1, p1⟩
    | false =>
      rw [if_neg Bool.false_ne_true]
      exact p1 w1 H1 _ (Ext.refl _) st1 rfl
  | _ => exact p1.elim
theorem q_or (ha : PE X a (tM X.K W ma)) (hb : PE X (.BoolOp .Or (b :: rest) pos) (tM X.K W mb)) : PE X (.BoolOp .Or (a :: b :: rest) pos) (tM X.K W (mOr ma mb)) := by
  refine pe_imp (pe_or ha hb) fun σ H Q ⟨f, w, s, st, p⟩ => ?_
  refine ⟨f, w, s, st, Po.thn p fun x w1 s1 v H1 e1 st1 r1 p1 => ?_⟩
  cases x with
  | bl k =>
    refine ⟨k, r1, ?_⟩
    cases k with
    | true =>
      rw [if_pos rfl]
      exact p1 w1 H1 _ (Ext.refl _) st1 rfl
    | false =>
      rw [if_neg Bool.false_ne_true]
      exact ⟨f, w1, s1, st1, p1⟩
  | _ => exact p1.elim
theorem q_not (ha : PE X a (tM X.K W ma)) : PE X (.UnaryOp .Not a pos) (tM X.K W (mNot ma)) := by
  refine pe_imp (pe_not ha) fun σ H Q ⟨f, w, s, st, p⟩ => ?_
  refine ⟨f, w, s, st, Po.thn p fun x w1 s1 v H1 e1 st1 r1 p1 => ?_⟩
  cases x with
  | bl k => exact ⟨k, r1, p1 w1 H1 _ (Ext.refl _) st1 rfl⟩
  | _ => exact p1.elim
def mIf (tc : M Bool) (ma mb : M D) : M D := fun s => (tc s).bind fun k s1 => if k then ma s1 else mb s1
theorem q_if (hc : PT X c (tT X.K W tc)) (ha : PE X a (tM X.K W ma)) (hb : PE X b (tM X.K W mb)) : PE X (.IfExp c a b pos) (tM X.K W (mIf tc ma mb)) := by
  refine pe_imp (pe_ifExp hc ha hb) fun σ H Q ⟨f, w, s, st, p⟩ => ?_
  refine ⟨f, w, s, st, Po.thn p fun x w1 s1 v H1 e1 st1 r1 p1 => ?_⟩
  have r1' : v = x := r1
  subst r1'
  cases v with
  | true =>
    rw [if_pos rfl]
    exact ⟨f, w1, s1, st1, p1⟩
  | false =>
    rw [if_neg Bool.false_ne_true]
    exact ⟨f, w1, s1, st1, p1⟩
/-- x < y < z -/
def m3b (g h : D → D → Option Bool) (a b c : M D) : M Bool := fun s => (a s).bind fun x s1 => (b s1).bind fun y s2 => (ofO (g x y) s2).bind fun k s3 => if k then (c s3).bind fun z s4 => ofO (h y z) s4 else .ok false s3
theorem t_chain {op op' : CmpOp} {r r' : R2} {g h : D → D → Option Bool} (ho : OpR X (compareOp op) r) (hr : R2Ok X.K r fun x y => oB (g x y)) (ho' : OpR X (compareOp op') r') (hr' : R2Ok X.K r' fun x y => oB (h x y))
    (ha : PE X a (tM X.K W ma)) (hb : PE X b (tM X.K W mb)) (hc : PE X c (tM X.K W mc)) (hm : lastMarks [op, op'] [b, c] = false := by with_unfolding_all rfl) : PT X (.Compare a [op, op'] [b, c] pos) (tT X.K W (m3b g h ma mb mc)) := by
  refine pt_imp (pt_chain ho ho' ha hb hc hm) fun σ H Q ⟨f, w, s, st, p⟩ => ?_
  refine ⟨f, w, s, st, Po.thn p fun x w1 s1 v H1 e1 st1 r1 p1 => ⟨f, w1, s1, st1, Po.thn p1 fun y w2 s2 u H2 e2 st2 r2 p2 => ?_⟩⟩
  cases ek : g x y with
  | none => rw [ek] at p2; exact p2.elim
  | some k =>
    rw [ek] at p2
    refine hr f w2 s2 σ H2 x y (.bl k) v u _ st2 (Rep.mono e2 r1) r2 (by show oB (g x y) = _; rw [ek]; rfl) fun w' H' t e' st' rt => ?_
    refine ⟨k, rt, ?_⟩
    cases k with
    | true =>
      rw [if_pos rfl]
      refine ⟨f, w', s2, st', (Po.thn (p2.ext e') fun z w3 s3 vz H3 e3 st3 r3 p3 => ?_)⟩
      obtain ⟨j, ej, pj⟩ := p3.ofO
      refine hr' f w3 s3 σ H3 y z (.bl j) u vz _ st3 (Rep.mono (e'.trans e3) r2) r3 (by show oB (h y z) = _; rw [ej]; rfl) fun w'' H'' t' e'' st'' rt' => ?_
      exact ⟨j, rt', pj w'' H'' j e'' st'' rfl⟩
    | false =>
      rw [if_neg Bool.false_ne_true]
      exact ⟨false, rfl, p2 w' H' false e' st' rfl⟩
theorem q_chain {op op' : CmpOp} {r r' : R2} {g h : D → D → Option Bool} (ho : OpR X (compareOp op) r) (hr : R2Ok X.K r fun x y => oB (g x y)) (ho' : OpR X (compareOp op') r') (hr' : R2Ok X.K r' fun x y => oB (h x y))
    (ha : PE X a (tM X.K W ma)) (hb : PE X b (tM X.K W mb)) (hc : PE X c (tM X.K W mc)) (hm : lastMarks [op, op'] [b, c] = false := by with_unfolding_all rfl) : PE X (.Compare a [op, op'] [b, c] pos) (tM X.K W (mB (m3b g h ma mb mc))) := by
  refine pe_imp (pe_chain ho ho' ha hb hc hm) fun σ H Q ⟨f, w, s, st, p⟩ => ?_
  have p' : Po X.K f W (RD X.K) w σ Q ((ma s).bind fun x s1 => (mb s1).bind fun y s2 => (ofO (g x y) s2).bind fun k s3 => if k then (mc s3).bind fun z s4 => (ofO (h y z) s4).bind fun k s1 => .ok (.bl k) s1 else .ok (.bl false) s3) := by
    refine cast (congrArg _ ?_) p
    unfold mB m3b
    cases ma s with
    | no => rfl
    | exc _ _ => rfl
    | ok x s1 =>
      show ((mb s1).bind _).bind _ = (mb s1).bind _
      cases mb s1 with
      | no => rfl
      | exc _ _ => rfl
      | ok y s2 =>
        show ((ofO (g x y) s2).bind _).bind _ = (ofO (g x y) s2).bind _
        cases g x y with
        | none => rfl
        | some k =>
          cases k with
          | false => rfl
          | true =>
            show ((mc s2).bind _).bind _ = (mc s2).bind _
            cases mc s2 <;> rfl
  refine ⟨f, w, s, st, Po.thn p' fun x w1 s1 v H1 e1 st1 r1 p1 => ⟨f, w1, s1, st1, Po.thn p1 fun y w2 s2 u H2 e2 st2 r2 p2 => ?_⟩⟩
  cases ek : g x y with
  | none => rw [ek] at p2; exact p2.elim
  | some k =>
    rw [ek] at p2
    refine hr f w2 s2 σ H2 x y (.bl k) v u _ st2 (Rep.mono e2 r1) r2 (by show oB (g x y) = _; rw [ek]; rfl) fun w' H' t e' st' rt => ?_
    refine ⟨k, rt, ?_⟩
    cases k with
    | true =>
      rw [if_pos rfl]
      refine ⟨f, w', s2, st', (Po.thn (p2.ext e') fun z w3 s3 vz H3 e3 st3 r3 p3 => ?_)⟩
      cases ej : h y z with
      | none => rw [ej] at p3; exact p3.elim
      | some j =>
        rw [ej] at p3
        exact hr' f w3 s3 σ H3 y z (.bl j) u vz _ st3 (Rep.mono (e'.trans e3) r2) r3 (by show oB (h y z) = _; rw [ej]; rfl) fun w'' H'' t' e'' st'' rt' => p3 w'' H'' t' e'' st'' rt'
    | false =>
      rw [if_neg Bool.false_ne_true]
      exact p2 w' H' _ e' st' rfl

/-! ### arguments, displays -/
def aNil : M (List D) := fun s => .ok [] s
def aCons (m : M D) (r : M (List D)) : M (List D) := fun s => (m s).bind fun x s1 => (r s1).bind fun xs s2 => .ok (x :: xs) s2
theorem a_nil : PA X [] (tA X.K W aNil) := by
  refine pa_imp pa_nil fun σ H Q ⟨f, w, s, st, p⟩ => ?_
  exact p w H [] (Ext.refl _) st rfl
theorem a_cons {mr : M (List D)} (ha : PE X e (tM X.K W ma)) (hr : PA X es (tA X.K W mr)) (hs : starEach (e :: es) X.env = (false, eval e X.env) :: starEach es X.env := by rfl) : PA X (e :: es) (tA X.K W (aCons ma mr)) := by
  refine pa_imp (pa_cons ha hr hs) fun σ H Q ⟨f, w, s, st, p⟩ => ?_
  refine ⟨f, w, s, st, Po.thn p fun x w1 s1 v H1 e1 st1 r1 p1 => ⟨f, w1, s1, st1, Po.thn p1 fun xs w2 s2 vs H2 e2 st2 r2 p2 => ?_⟩⟩
  exact p2 w2 H2 _ (Ext.refl _) st2 ⟨v, vs, rfl, Rep.mono e2 r1, r2⟩
def mTup (m : M (List D)) : M D := fun s => (m s).bind fun xs s1 => if xs.length ≤ sizeLine then .ok (.tup xs) s1 else .no
theorem q_tup {m : M (List D)} {x1} (h : PA X es (tA X.K W m)) : PE X (.Tuple es x1 pos) (tM X.K W (mTup m)) := by
  refine pe_imp (pe_tup h) fun σ H Q ⟨f, w, s, st, p⟩ => ?_
  refine ⟨f, w, s, st, Po.thn p fun xs w1 s1 vs H1 e1 st1 r1 p1 => ?_⟩
  split at p1
  · rename_i hz
    exact ⟨by rw [r1.length]; exact hz, st1.newT r1 fun w' H' t e' st' rt => p1 w' H' t e' st' rt⟩
  · exact p1.elim
/-- a new list, nobody's -/
def lNew (m : M (List D)) : M (List D) := fun s => (m s).bind fun xs s1 => if xs.length ≤ sizeLine then .ok xs s1 else .no
section
variable {K : PySem.W.Frag} {w : Wd} {s : S} {σ : L2.St} {H : Hp}
/-- a new object, not frozen -/
theorem StOk.lay (h : StOk K f w s σ H) {p : Addr} {o : HO} (hp : H p = none) : StOk K f w s σ (upd H p o) where
  sub := fun b u e => by
    have e' := h.sub _ _ e
    rw [upd_ne (ne_of_none e' hp)]
    exact e'
  fr := fun a u e1 e2 => by
    have e := h.fr a u e1 e2
    rw [upd_ne (ne_of_none e hp)]
    exact e
  ff := h.ff
  f0 := h.f0
  bb := h.bb
  bf := h.bf
  len := h.len
  slot := fun i x e => (h.slot i x e).ext (Ext.refl w) fun q hq e1 => by
    obtain ⟨q', e2, e3, e4, e5, e6⟩ := (h.slot i x e).at hq
    rw [e1] at e2
    cases e2
    have ne : q ≠ p := fun z => e3 (by rw [z]; exact hp)
    exact ⟨upd_ne ne, e4, e5⟩
  bx := fun q e => by
    obtain ⟨e1, e2, e3⟩ := h.bx q e
    have ne : q ≠ p := ne_of_none e1 hp
    exact ⟨by rw [upd_ne ne]; exact e1, e2, e3⟩
  dist := h.dist
theorem StOk.newF (st : StOk K f w s σ H) {Q : VK} {z : List D} {vs : List V} (r : RepAll K w z vs) (q : ∀ w' H' t, Ext w w' → StOk K f w' s σ H' → RF K f w' s σ H' z t → Q t H') :
    ∀ p, H p = none → Q (.ref p) (upd H p (.lst vs)) := fun p hp => by
  refine q _ _ _ (Ext.refl w) (st.lay hp) ⟨p, vs, rfl, upd_same, r, st.freshF hp, fun z => ?_, st.fresh0 hp, fun i x e o z => ?_⟩
  · obtain ⟨e1, _⟩ := st.bx p z
    rw [hp] at e1
    cases e1
  · obtain ⟨q', e2, e3, _⟩ := (st.slot i x e).at o
    rw [z] at e2
    cases e2
    exact e3 hp
/-- a new list is frozen -/
theorem StOk.freezeF (st : StOk K f w s σ H) {p : Addr} {o : HO} (hp : H p = some o) (h1 : w.F p = none) (h2 : w.bp ≠ some p) (h3 : f.H0 p = none) (h4 : ∀ (i : Nat) (x : SV), s.env[i]? = some x → x.own = true → σ[i]?.join ≠ some (.ref p)) :
    StOk K f (w.put p o) s σ H where
  sub := fun b u e => by
    have e' : upd w.F p o b = some u := e
    by_cases hb : b = p
    · subst hb
      rw [upd_same] at e'
      rw [← e']
      exact hp
    · rw [upd_ne hb] at e'
      exact st.sub _ _ e'
  fr := st.fr
  ff := fun a e1 e2 => by
    show upd w.F p o a = none
    have ne : a ≠ p := fun z => e1 (by rw [z]; exact h3)
    rw [upd_ne ne]
    exact st.ff a e1 e2
  f0 := st.f0.trans (ext_put h1).same
  bb := st.bb
  bf := st.bf
  len := st.len
  slot := fun i x e => (st.slot i x e).ext (ext_put h1) fun q hq e1 => by
    obtain ⟨q', e2, e3, e4, e5, e6⟩ := (st.slot i x e).at hq
    rw [e1] at e2
    cases e2
    have ne : q ≠ p := fun z => h4 i x e hq (by rw [← z]; exact e1)
    exact ⟨rfl, by show upd w.F p o q = none; rw [upd_ne ne]; exact e4, e5⟩
  bx := fun q e => by
    obtain ⟨e1, e2, e3⟩ := st.bx q e
    have ne : q ≠ p := fun z => h2 (by rw [← z]; exact e)
    exact ⟨e1, by show upd w.F p o q = none; rw [upd_ne ne]; exact e2, e3⟩
  dist := st.dist
end
theorem f_lst {m : M (List D)} (h : PA X es (tA X.K W m)) : PE X (.List es pos) (tF X.K W (lNew m)) := by
  refine pe_imp (pe_lst h) fun σ H Q ⟨f, w, s, st, p⟩ => ?_
  refine ⟨f, w, s, st, Po.thn p fun xs w1 s1 vs H1 e1 st1 r1 p1 => ?_⟩
  split at p1
  · rename_i hz
    exact ⟨by rw [r1.length]; exact hz, st1.newF r1 fun w' H' t e' st' rt => p1 w' H' t e' st' rt⟩
  · exact p1.elim
/-- a new list as a value: frozen -/
def fz (m : M (List D)) : M D := fun s => (m s).bind fun xs s1 => .ok (.lst xs) s1
theorem q_fz {m : M (List D)} (h : PE X e (tF X.K W m)) : PE X e (tM X.K W (fz m)) := by
  refine pe_imp h fun σ H Q ⟨f, w, s, st, p⟩ => ?_
  refine ⟨f, w, s, st, Po.thn p fun xs w1 s1 v H1 e1 st1 r1 p1 => ?_⟩
  obtain ⟨q, vs, rfl, h1, h2, h3, h4, h5, h6⟩ := r1
  exact p1 _ H1 _ (ext_put h3) (st1.freezeF h1 h3 h4 h5 h6) ⟨q, vs, rfl, Wd.put_at, RepAll.mono (ext_put h3) h2⟩
end
end Pv
end PvF_

section PvG_
set_option Elab.async false
set_option linter.all false
set_option maxRecDepth 100000
set_option maxHeartbeats 4000000
namespace Pv
open PySem PySem.Spec PyProof.Rows L2

/-! ### statements -/
inductive SO where
  | nx (s : S) | rt (d : D) (s : S) | bk (s : S) | ct (s : S) | exc (e : Exn) (s : S) | no
abbrev MS := S → SO
def SO.bind (x : SO) (f : S → SO) : SO := match x with
  | .nx s => f s
  | x => x
def Out.toS {α : Type} (x : Out α) (k : α → S → SO) : SO := match x with
  | .ok a s => k a s
  | .exc e s => .exc e s
  | .no => .no
def PoS (K : PySem.W.Frag) (f : Fm) (W : WX) (w : Wd) (E : Ends) : SO → Prop
  | .nx s' => ∀ w' σ' H', Ext w w' → StOk K f w' s' σ' H' → E.nx σ' H'
  | .rt d s' => ∀ w' σ' H' v, Ext w w' → StOk K f w' s' σ' H' → Rep K w' d v → E.rt v H'
  | .bk s' => ∀ w' σ' H', Ext w w' → StOk K f w' s' σ' H' → E.bk σ' H'
  | .ct s' => ∀ w' σ' H', Ext w w' → StOk K f w' s' σ' H' → E.ct σ' H'
  | .exc e s' => ∀ w' σ' H' c dd, Ext w w' → StOk K f w' s' σ' H' → RepX K w' H' e c dd → W c dd σ' H'
  | .no => False
def tS (K : PySem.W.Frag) (W : WX) (m : MS) : TS := fun E σ H => ∃ f w s, StOk K f w s σ H ∧ PoS K f W w E (m s)
section
variable {K : PySem.W.Frag} {f : Fm} {W : WX} {w w' : Wd} {s s' : S} {σ : L2.St} {H H' : Hp} {E E' : Ends}
theorem PoS.ext {o : SO} (h : PoS K f W w E o) (e : Ext w w') : PoS K f W w' E o := by
  cases o with
  | nx s => exact fun w2 σ2 H2 e2 => h w2 σ2 H2 (e.trans e2)
  | rt d s => exact fun w2 σ2 H2 v e2 => h w2 σ2 H2 v (e.trans e2)
  | bk s => exact fun w2 σ2 H2 e2 => h w2 σ2 H2 (e.trans e2)
  | ct s => exact fun w2 σ2 H2 e2 => h w2 σ2 H2 (e.trans e2)
  | exc x s => exact fun w2 σ2 H2 c dd e2 => h w2 σ2 H2 c dd (e.trans e2)
  | no => exact h
theorem PoS.thn {α β : Type} {R : Fm → Wd → S → L2.St → Hp → α → β → Prop} {Q : β → Hp → Prop} {o : Out α} {k : α → S → SO} (h : PoS K f W w E (o.toS k))
    (q : ∀ a w1 s1 b H1, Ext w w1 → StOk K f w1 s1 σ H1 → R f w1 s1 σ H1 a b → PoS K f W w1 E (k a s1) → Q b H1) : Po K f W R w σ Q o := by
  cases o with
  | ok a s => exact fun w2 H2 b e2 st r => q a w2 s b H2 e2 st r (h.ext e2)
  | exc x s => exact fun w2 H2 c dd e2 st r => h w2 σ H2 c dd e2 st r
  | no => exact h
/-- a block's statement, then the rest -/
theorem PoS.seq {o : SO} {k : S → SO} (h : PoS K f W w E (o.bind k)) : PoS K f W w { E with nx := tS K W k E } o := by
  cases o with
  | nx s => exact fun w2 σ2 H2 e2 st => ⟨f, w2, s, st, PoS.ext h e2⟩
  | rt d s => exact h
  | bk s => exact h
  | ct s => exact h
  | exc x s => exact h
  | no => exact h
theorem PoS.endsTo {o : SO} (h : PoS K f W w E o) (h1 : ∀ σ H, E.nx σ H → E'.nx σ H) (h2 : ∀ v H, E.rt v H → E'.rt v H) (h3 : ∀ σ H, E.bk σ H → E'.bk σ H) (h4 : ∀ σ H, E.ct σ H → E'.ct σ H) : PoS K f W w E' o := by
  cases o with
  | nx s => exact fun w2 σ2 H2 e2 st => h1 _ _ (h w2 σ2 H2 e2 st)
  | rt d s => exact fun w2 σ2 H2 v e2 st r => h2 _ _ (h w2 σ2 H2 v e2 st r)
  | bk s => exact fun w2 σ2 H2 e2 st => h3 _ _ (h w2 σ2 H2 e2 st)
  | ct s => exact fun w2 σ2 H2 e2 st => h4 _ _ (h w2 σ2 H2 e2 st)
  | exc x s => exact h
  | no => exact h

/-! ### slots stored -/
theorem lt_of_get {i : Nat} {x : SV} (h : s.env[i]? = some x) : i < s.env.length := (List.getElem?_eq_some_iff.mp h).1
theorem StOk.set (st : StOk K f w s σ H) {i : Nat} {x : D} {v : V} (r : Rep K w x v) : StOk K f w (setS i (.d x) s) (σ.set i (some v)) H where
  sub := st.sub
  fr := st.fr
  ff := st.ff
  f0 := st.f0
  bb := st.bb
  bf := st.bf
  len := by simpa [setS] using st.len
  slot := fun j z e => by
    rcases getElem?_set_cases e with ⟨rfl, rfl⟩ | ⟨n, e⟩
    · have hi : i < σ.length := by
        have := lt_of_get (s := setS i (.d x) s) e
        rw [← st.len]
        simpa [setS] using this
      refine ⟨v, ?_, r⟩
      rw [List.getElem?_set_self hi]
      rfl
    · rw [List.getElem?_set_ne n]
      exact st.slot j z e
  bx := st.bx
  dist := fun j k z u q n e1 e2 o1 o2 e7 => by
    rcases getElem?_set_cases e1 with ⟨rfl, rfl⟩ | ⟨n1, e1⟩
    · cases o1
    · rcases getElem?_set_cases e2 with ⟨rfl, rfl⟩ | ⟨n2, e2⟩
      · cases o2
      · rw [List.getElem?_set_ne n1] at e7
        rw [List.getElem?_set_ne n2]
        exact st.dist j k z u q n e1 e2 o1 o2 e7
theorem StOk.setF (st : StOk K f w s σ H) {i : Nat} {xs : List D} {v : V} (r : RF K f w s σ H xs v) : StOk K f w (setS i (.o xs) s) (σ.set i (some v)) H := by
  obtain ⟨p, vs, rfl, h1, h2, h3, h4, h5, h6⟩ := r
  refine ⟨st.sub, st.fr, st.ff, st.f0, st.bb, st.bf, by simpa [setS] using st.len, fun j z e => ?_, st.bx, fun j k z u q n e1 e2 o1 o2 e7 => ?_⟩
  · rcases getElem?_set_cases e with ⟨rfl, rfl⟩ | ⟨n, e⟩
    · have hi : i < σ.length := by
        have := lt_of_get (s := setS i (.o xs) s) e
        rw [← st.len]
        simpa [setS] using this
      refine ⟨p, vs, ?_, h1, h2, h3, h4, h5⟩
      rw [List.getElem?_set_self hi]
      rfl
    · rw [List.getElem?_set_ne n]
      exact st.slot j z e
  · rcases getElem?_set_cases e1 with ⟨rfl, rfl⟩ | ⟨n1, e1⟩
    · have hi : i < σ.length := by
        have := lt_of_get (s := setS i (.o xs) s) e1
        rw [← st.len]
        simpa [setS] using this
      rcases getElem?_set_cases e2 with ⟨rfl, rfl⟩ | ⟨n2, e2⟩
      · exact absurd rfl n
      · rw [List.getElem?_set_self hi] at e7
        cases e7
        rw [List.getElem?_set_ne n2]
        exact h6 k u e2 o2
    · rcases getElem?_set_cases e2 with ⟨rfl, rfl⟩ | ⟨n2, e2⟩
      · have hi : i < σ.length := by
          have := lt_of_get (s := setS i (.o xs) s) e2
          rw [← st.len]
          simpa [setS] using this
        rw [List.getElem?_set_ne n1] at e7
        rw [List.getElem?_set_self hi]
        intro hz
        have hz' : (V.ref p) = V.ref q := Option.some.inj hz
        cases hz'
        exact h6 j z e1 o1 e7
      · rw [List.getElem?_set_ne n1] at e7
        rw [List.getElem?_set_ne n2]
        exact st.dist j k z u q n e1 e2 o1 o2 e7
end

section
variable {X : Cx} {f : Fm} {W : WX} {st st' : Stmt} {sts rest : List Stmt} {pos : Pos} {e c : Expr} {m : M D} {ms mr mt : MS} {t t' : TS}
theorem ps_imp (h : PS X st t) (q : ∀ E σ H, t' E σ H → t E σ H) : PS X st t' := ⟨fun pins s σ H E I hw => h.run pins s σ H E I (q E σ H hw)⟩
theorem pss_imp (h : PSs X sts t) (q : ∀ E σ H, t' E σ H → t E σ H) : PSs X sts t' := ⟨fun pins s σ H E I hw => h.run pins s σ H E I (q E σ H hw)⟩
def sNx : MS := fun s => .nx s
def sSeq (a b : MS) : MS := fun s => (a s).bind b
theorem s_nil : PSs X [] (tS X.K W sNx) := pss_imp pss_nil fun E σ H ⟨f, w, s, st, p⟩ => p w σ H (Ext.refl _) st
theorem s_one (h : PS X st (tS X.K W ms)) : PSs X [st] (tS X.K W ms) := pss_one h
theorem s_cons (h : PS X st (tS X.K W ms)) (g : PSs X rest (tS X.K W mr)) : PSs X (st :: rest) (tS X.K W (sSeq ms mr)) :=
  pss_imp (pss_cons h g) fun E σ H ⟨f, w, s, st, p⟩ => ⟨f, w, s, st, PoS.seq p⟩
theorem s_pass : PS X (.Pass pos) (tS X.K W sNx) := ps_imp ps_pass fun E σ H ⟨f, w, s, st, p⟩ => p w σ H (Ext.refl _) st
theorem s_break : PS X (.Break pos) (tS X.K W fun s => .bk s) := ps_imp ps_break fun E σ H ⟨f, w, s, st, p⟩ => p w σ H (Ext.refl _) st
theorem s_continue : PS X (.Continue pos) (tS X.K W fun s => .ct s) := ps_imp ps_continue fun E σ H ⟨f, w, s, st, p⟩ => p w σ H (Ext.refl _) st
def sDrop (m : M D) : MS := fun s => (m s).toS fun _ s1 => .nx s1
theorem s_expr (he : PE X e (tM X.K W m)) (hs : swapsWith e none pos.line X.env = pure false := by rfl) : PS X (.Expr e pos) (tS X.K W (sDrop m)) := by
  refine ps_imp (ps_expr he hs) fun E σ H ⟨f, w, s, st, p⟩ => ?_
  exact ⟨f, w, s, st, PoS.thn p fun a w1 s1 b H1 e1 st1 r1 p1 => p1 w1 σ H1 (Ext.refl _) st1⟩
def sRet (m : M D) : MS := fun s => (m s).toS fun x s1 => .rt x s1
theorem s_ret (he : PE X e (tM X.K W m)) : PS X (.Return (some e) pos) (tS X.K W (sRet m)) := by
  refine ps_imp (ps_ret he) fun E σ H ⟨f, w, s, st, p⟩ => ?_
  exact ⟨f, w, s, st, PoS.thn p fun a w1 s1 b H1 e1 st1 r1 p1 => p1 w1 σ H1 b (Ext.refl _) st1 r1⟩
theorem s_retN : PS X (.Return none pos) (tS X.K W fun s => .rt .non s) := ps_imp ps_retN fun E σ H ⟨f, w, s, st, p⟩ => p w σ H .non (Ext.refl _) st rfl
def sIf (tc : M Bool) (a b : MS) : MS := fun s => (tc s).toS fun k s1 => if k then a s1 else b s1
theorem s_if {tc : M Bool} {ma mb : MS} {as bs : List Stmt} (hc : PT X c (tT X.K W tc)) (ha : PSs X as (tS X.K W ma)) (hb : PSs X bs (tS X.K W mb)) : PS X (.If c as bs pos) (tS X.K W (sIf tc ma mb)) := by
  refine ps_imp (ps_if hc ha hb) fun E σ H ⟨f, w, s, st, p⟩ => ?_
  refine ⟨f, w, s, st, PoS.thn p fun a w1 s1 b H1 e1 st1 r1 p1 => ?_⟩
  have r1' : b = a := r1
  subst r1'
  cases b with
  | true =>
    rw [if_pos rfl]
    exact ⟨f, w1, s1, st1, p1⟩
  | false =>
    rw [if_neg Bool.false_ne_true]
    exact ⟨f, w1, s1, st1, p1⟩

/-! ### stores -/
def sSet (i : Nat) (m : M D) : MS := fun s => (m s).toS fun x s1 => .nx (setS i (.d x) s1)
theorem s_set {i : Nat} {x : Str} {pos' : Pos} (hN : X.N.Nodup) (hi : X.N[i]? = some x) (hx : Loc X.env.scope x) (he : PE X e (tM X.K W m)) (hs : swapsWith e (some (.Name x pos')) pos.line X.env = pure false := by rfl)
    (hf : X.fn x = true ∨ X.env.scope.names.lookup x = some .local := by first | exact .inl rfl | exact .inr rfl | assumption) : PS X (.Assign [.Name x pos'] e pos) (tS X.K W (sSet i m)) := by
  refine ps_imp (ps_set hN hi hx he hs hf) fun E σ H ⟨f, w, s, st, p⟩ => ?_
  exact ⟨f, w, s, st, PoS.thn p fun a w1 s1 b H1 e1 st1 r1 p1 => p1 w1 _ H1 (Ext.refl _) (st1.set r1)⟩
/-- a new list becomes the name's own -/
def sSetF (i : Nat) (m : M (List D)) : MS := fun s => (m s).toS fun xs s1 => .nx (setS i (.o xs) s1)
theorem s_setF {i : Nat} {x : Str} {pos' : Pos} {m : M (List D)} (hN : X.N.Nodup) (hi : X.N[i]? = some x) (hx : Loc X.env.scope x) (he : PE X e (tF X.K W m)) (hs : swapsWith e (some (.Name x pos')) pos.line X.env = pure false := by rfl)
    (hf : X.fn x = true ∨ X.env.scope.names.lookup x = some .local := by first | exact .inl rfl | exact .inr rfl | assumption) : PS X (.Assign [.Name x pos'] e pos) (tS X.K W (sSetF i m)) := by
  refine ps_imp (ps_set hN hi hx he hs hf) fun E σ H ⟨f, w, s, st, p⟩ => ?_
  exact ⟨f, w, s, st, PoS.thn p fun a w1 s1 b H1 e1 st1 r1 p1 => p1 w1 _ H1 (Ext.refl _) (st1.setF r1)⟩

/-! ### targets -/
/-- the slots as they were, but those of ts -/
def Off (ts : List Nat) (σ σ' : L2.St) : Prop := σ'.length = σ.length ∧ ∀ (j : Nat), j ∉ ts → σ'[j]? = σ[j]?
def tTg (K : PySem.W.Frag) (ts : List Nat) (g : D → S → Option S) : TG := fun v σ H Q => ∃ f w s d s', StOk K f w s σ H ∧ Rep K w d v ∧ g d s = some s' ∧ ∀ σ', Off ts σ σ' → StOk K f w s' σ' H → Q σ' H
def tTgs (K : PySem.W.Frag) (ts : List Nat) (g : List D → S → Option S) : TGs := fun vs σ H Q => ∃ f w s ds s', StOk K f w s σ H ∧ RepAll K w ds vs ∧ g ds s = some s' ∧ ∀ σ', Off ts σ σ' → StOk K f w s' σ' H → Q σ' H
theorem Off.refl (ts : List Nat) (σ : L2.St) : Off ts σ σ := ⟨rfl, fun _ _ => rfl⟩
theorem Off.one {i : Nat} {x : Option V} (σ : L2.St) : Off [i] σ (σ.set i x) := ⟨by simp, fun j h => List.getElem?_set_ne (fun e => h (by simp [e]))⟩
theorem Off.app {t u : List Nat} {a b c : L2.St} (h : Off t a b) (g : Off u b c) : Off (t ++ u) a c := ⟨g.1.trans h.1, fun j n => (g.2 j fun m => n (List.mem_append_right _ m)).trans (h.2 j fun m => n (List.mem_append_left _ m))⟩
def gN (i : Nat) : D → S → Option S := fun d s => some (setS i (.d d) s)
def gNil' : List D → S → Option S := fun ds s => match ds with
  | [] => some s
  | _ => none
def gCons' (g : D → S → Option S) (h : List D → S → Option S) : List D → S → Option S := fun ds s => match ds with
  | d :: r => (g d s).bind (h r)
  | [] => none
def gT (n : Nat) (h : List D → S → Option S) : D → S → Option S := fun d s => match d with
  | .tup ds => if ds.length = n then h ds s else none
  | _ => none
theorem pg_imp {tg : Expr} {g g' : TG} (h : PG X tg g) (q : ∀ v σ H Q, g' v σ H Q → g v σ H Q) : PG X tg g' := ⟨fun pins s σ H v u Q I r hw => h.run pins s σ H v u Q I r (q v σ H Q hw)⟩
theorem pgs_imp {tg : List Expr} {g g' : TGs} (h : PGs X tg g) (q : ∀ v σ H Q, g' v σ H Q → g v σ H Q) : PGs X tg g' := ⟨fun pins s σ H v u Q I r hw => h.run pins s σ H v u Q I r (q v σ H Q hw)⟩
theorem g_name {i : Nat} {x : Str} (hN : X.N.Nodup) (hi : X.N[i]? = some x) (hx : Loc X.env.scope x) (hf : X.fn x = true ∨ X.env.scope.names.lookup x = some .local := by first | exact .inl rfl | exact .inr rfl | assumption) :
    PG X (.Name x pos) (tTg X.K [i] (gN i)) := by
  refine pg_imp (pg_name hN hi hx hf) fun v σ H Q ⟨f, w, s, d, s', st, r, e, q⟩ => ?_
  cases e
  exact q _ (Off.one σ) (st.set r)
theorem g_nil : PGs X [] (tTgs X.K [] gNil') := by
  refine pgs_imp pgs_nil fun v σ H Q ⟨f, w, s, d, s', st, r, e, q⟩ => ?_
  cases d with
  | nil =>
    cases e
    exact ⟨r, q _ (Off.refl _ σ) st⟩
  | cons _ _ => cases e
theorem g_cons {tg : Expr} {tgs : List Expr} {g : D → S → Option S} {h : List D → S → Option S} {t1 t2 : List Nat} (h1 : PG X tg (tTg X.K t1 g)) (h2 : PGs X tgs (tTgs X.K t2 h)) (hs : (assignEach (tg :: tgs) X.env).map (·.2) = assign tg X.env :: (assignEach tgs X.env).map (·.2) := by rfl) :
    PGs X (tg :: tgs) (tTgs X.K (t1 ++ t2) (gCons' g h)) := by
  refine pgs_imp (pgs_cons h1 h2 hs) fun v σ H Q ⟨f, w, s, d, s', st, r, e, q⟩ => ?_
  cases d with
  | nil => cases e
  | cons d ds =>
    obtain ⟨x, xs, e1, e2, e3⟩ := r
    cases e4 : g d s with
    | none =>
      have e' : (g d s).bind (h ds) = some s' := e
      rw [e4] at e'
      cases e'
    | some s1 =>
      have e' : (g d s).bind (h ds) = some s' := e
      rw [e4] at e'
      exact ⟨x, xs, e1, f, w, s, d, s1, st, e2, e4, fun σ1 o1 st1 => ⟨f, w, s1, ds, s', st1, e3, e', fun σ2 o2 st2 => q σ2 (Off.app o1 o2) st2⟩⟩
theorem g_tup {es : List Expr} {k : Nat} {n : Nat} {h : List D → S → Option S} {ts : List Nat} (hc : X.calm = true) (hg : PGs X es (tTgs X.K ts h))
    (hn : (assignEach es X.env).length = n := by rfl) (hst : (assignEach es X.env).findIdx? (·.1) = none := by rfl) : PG X (.Tuple es k pos) (tTg X.K ts (gT n h)) := by
  refine pg_imp (pg_tup hc hg hn hst) fun v σ H Q ⟨f, w, s, d, s', st, r, e, q⟩ => ?_
  cases d with
  | tup ds =>
    have e' : (if ds.length = n then h ds s else none) = some s' := e
    split at e'
    · rename_i hl
      obtain ⟨a, vs, rfl, h2, h3⟩ := r
      exact ⟨a, vs, rfl, st.tup h2, by rw [h3.length]; exact hl, f, w, s, ds, s', st, h3, e', q⟩
    · cases e'
  | _ => cases e
/-- target = value -/
def sAsg (g : D → S → Option S) (m : M D) : MS := fun s => (m s).toS fun x s1 => match g x s1 with
  | some s2 => .nx s2
  | none => .no
theorem s_asg {tg : Expr} {g : D → S → Option S} {ts : List Nat} (he : PE X e (tM X.K W m)) (hg : PG X tg (tTg X.K ts g)) (hs : swapsWithSole [tg] e pos.line X.env = pure false := by rfl) (hw : swappedStores [tg] e X.env = pure none := by rfl)
    (h1 : (assignEach [tg] X.env).map (·.2) = [assign tg X.env] := by rfl) : PS X (.Assign [tg] e pos) (tS X.K W (sAsg g m)) := by
  refine ps_imp (ps_asg he hg hs hw h1) fun E σ H ⟨f, w, s, st, p⟩ => ?_
  refine ⟨f, w, s, st, PoS.thn p fun a w1 s1 b H1 e1 st1 r1 p1 => ?_⟩
  cases eg : g a s1 with
  | none => rw [eg] at p1; exact p1.elim
  | some s2 =>
    rw [eg] at p1
    exact ⟨f, w1, s1, a, s2, st1, r1, eg, fun σ' _ st' => p1 w1 σ' H1 (Ext.refl _) st'⟩
/-- a, b = x, y of plain local names -/
def sPar (i j : Nat) (ma mb : M D) : MS := fun s => (ma s).toS fun x s1 => (mb s1).toS fun y s2 => .nx (setS j (.d y) (setS i (.d x) s2))
theorem s_par {i j : Nat} {x y : Str} {a b : Expr} {ma mb : M D} {px py pt : Pos} {kt k2 pt2} (hc : X.calm = true) (hN : X.N.Nodup) (hi : X.N[i]? = some x) (hj : X.N[j]? = some y) (hij : i ≠ j)
    (hx : X.env.scope.names.lookup x = some .local) (hy : X.env.scope.names.lookup y = some .local) (ha : PE X a (tM X.K W ma)) (hb : PE X b (tM X.K W mb))
    (hw : swappedStores [.Tuple [.Name x px, .Name y py] kt pt] (.Tuple [a, b] k2 pt2) X.env = pure (some [x, y]) := by rfl)
    (hs : swapsWithSole [.Tuple [.Name x px, .Name y py] kt pt] (.Tuple [a, b] k2 pt2) pos.line X.env = pure false := by rfl)
    (n1 : starEach [a, b] X.env = (false, eval a X.env) :: starEach [b] X.env := by rfl) (n2 : starEach [b] X.env = (false, eval b X.env) :: starEach [] X.env := by rfl) :
    PS X (.Assign [.Tuple [.Name x px, .Name y py] kt pt] (.Tuple [a, b] k2 pt2) pos) (tS X.K W (sPar i j ma mb)) := by
  refine ps_imp (ps_par hc hN hi hj hij hx hy (pa_cons ha (pa_cons hb pa_nil n2) n1) hw hs) fun E σ H ⟨f, w, s, st, p⟩ => ?_
  refine ⟨f, w, s, st, PoS.thn p fun x w1 s1 v H1 e1 st1 r1 p1 => ⟨f, w1, s1, st1, PoS.thn p1 fun y w2 s2 u H2 e2 st2 r2 p2 => ?_⟩⟩
  exact ⟨v, u, rfl, p2 w2 _ H2 (Ext.refl _) ((st2.set (Rep.mono e2 r1)).set r2)⟩
/-- name op= e -/
def sAug (i : Nat) (g : D → D → Option D) (m : M D) : MS := fun s => match getS i s with
  | .d x => (m s).toS fun y s1 => match g x y with
    | some z => .nx (setS i (.d z) s1)
    | none => .no
  | _ => .no
theorem s_aug {i : Nat} {x : Str} {op : Operator} {ti : TIp} {g : D → D → Option D} {pos' : Pos} (hN : X.N.Nodup) (hi : X.N[i]? = some x) (hx : Loc X.env.scope x) (he : PE X e (tM X.K W m)) (ho : PIp X op ti) (hr : R2Ok X.K ti g)
    (hf : X.fn x = true ∨ X.env.scope.names.lookup x = some .local := by first | exact .inl rfl | exact .inr rfl | assumption) : PS X (.AugAssign (.Name x pos') op e pos) (tS X.K W (sAug i g m)) := by
  refine ps_imp (ps_aug hN hi hx he ho hf) fun E σ H ⟨f, w, s, st, p⟩ => ?_
  unfold sAug at p
  cases eg : getS i s with
  | d x =>
    rw [eg] at p
    obtain ⟨u, e1, e2⟩ := st.slot i _ (getS_some eg (fun z => nomatch z))
    refine ⟨u, join_some e1, f, w, s, st, PoS.thn p fun y w1 s1 v H1 x1 st1 r1 p1 => ?_⟩
    cases ez : g x y with
    | none => rw [ez] at p1; exact p1.elim
    | some z =>
      rw [ez] at p1
      exact hr f w1 s1 σ H1 x y z u v _ st1 (Rep.mono x1 e2) r1 ez fun w' H' t e' st' rt => p1 w' _ H' e' (st'.set rt)
  | no => rw [eg] at p; exact p.elim
  | o _ => rw [eg] at p; exact p.elim
  | bx => rw [eg] at p; exact p.elim
  | ok _ => rw [eg] at p; exact p.elim
  | ot _ => rw [eg] at p; exact p.elim
theorem ip_addA : PIp X .Add (fun x y H Q => rI0 (fun i j => .int (i + j)) x y H Q ∨ ∃ i j, x = .str i ∧ y = .str j ∧ i.length + j.length ≤ sizeLine ∧ Q (.str (i ++ j)) H) := iop_add.or iop_add_str
def dIadd (x y : D) : Option D := match x, y with
  | .int i, .int j => some (.int (i + j))
  | .str a, .str b => if a.length + b.length ≤ sizeLine then some (.str (a ++ b)) else none
  | _, _ => none
theorem iadd_ok {K : PySem.W.Frag} : R2Ok K (fun x y H Q => rI0 (fun i j => .int (i + j)) x y H Q ∨ ∃ i j, x = .str i ∧ y = .str j ∧ i.length + j.length ≤ sizeLine ∧ Q (.str (i ++ j)) H) dIadd := by
  intro f w s σ H x y z v u Q st rv ru ez q
  unfold dIadd at ez
  split at ez
  · cases ez
    exact .inl ⟨_, _, rv, ru, q w H _ (Ext.refl w) st rfl⟩
  · split at ez
    · cases ez
      rename_i hz
      exact .inr ⟨_, _, rv, ru, hz, q w H _ (Ext.refl w) st rfl⟩
    · cases ez
  · cases ez
end
end Pv
end PvG_

section PvH_
set_option Elab.async false
set_option linter.all false
set_option maxRecDepth 100000
set_option maxHeartbeats 4000000
namespace Pv
open PySem PySem.Spec PyProof.Rows L2

/-! ### what is walked: its items -/
/-- at each turn the item as it stands, or a new pair of two that stand -/
structure Wk (K : PySem.W.Frag) (w : Wd) (J : It) (ds : List D) : Prop where
  ex : ∃ (G : Hp → Prop) (Y : Nat → Hp → V → Hp → Prop), Walk J ds.length G Y ∧ (∀ H, Same w.F H → G H) ∧
    ∀ i H x H1 d, Y i H x H1 → ds[i]? = some d → (H1 = H ∧ Rep K w d x) ∨ ∃ T ys as, x = .ref T ∧ H T = none ∧ H1 = upd H T (.tup ys) ∧ d = .tup as ∧ RepAll K w as ys
abbrev RI (K : PySem.W.Frag) : Fm → Wd → S → L2.St → Hp → List D → It → Prop := fun _ w _ _ _ ds J => Wk K w J ds
abbrev tI (K : PySem.W.Frag) (W : WX) (m : M (List D)) : TI := tG K W (RI K) m

section
variable {X : Cx} {tg e : Expr} {t t' : TI} {W : WX} {m : M D}
theorem pi_imp (h : PI X tg e t) (q : ∀ σ H R, t' σ H R → t σ H R) : PI X tg e t' := ⟨fun pins s σ H R I hw => h.run pins s σ H R I (q σ H R hw)⟩
theorem pi_or (h : PI X tg e t) (h' : PI X tg e t') : PI X tg e (fun σ H R => t σ H R ∨ t' σ H R) := ⟨fun pins s σ H R I hw => hw.elim (h.run pins s σ H R I) (h'.run pins s σ H R I)⟩
theorem wk_seq {K : PySem.W.Frag} {w : Wd} {J : It} {ds : List D} {vs : List V} {G : Hp → Prop} (r : RepAll K w ds vs) (h : Walk J vs.length G (YAt vs)) (g : ∀ H, Same w.F H → G H) : Wk K w J ds := by
  rw [r.length] at h
  refine ⟨G, _, h, g, fun i H x H1 d y e => .inl ⟨y.1, ?_⟩⟩
  obtain ⟨v, e1, e2⟩ := r.get e
  have e3 := y.2
  rw [e1] at e3
  cases e3
  exact e2
/-- a list, a tuple, a text -/
def iSeq (m : M D) : M (List D) := fun s => (m s).bind fun d s1 => match d with
  | .tup ds => .ok ds s1
  | .lst ds => .ok ds s1
  | .str x => .ok (x.cps.toList.map fun c => .str ⟨#[c]⟩) s1
  | _ => .no
theorem wk_str {K : PySem.W.Frag} {w : Wd} {x : Str} : Wk K w (Its x) (x.cps.toList.map fun c => D.str ⟨#[c]⟩) := by
  have wl : Walk (Its x) (x.cps.toList.map fun c => D.str ⟨#[c]⟩).length (fun _ => True) (fun i H v H' => H' = H ∧ ∃ c, x.cps[i]? = some c ∧ v = .str ⟨#[c]⟩) := by
    rw [List.length_map, Array.length_toList]
    exact walk_str
  refine ⟨_, _, wl, fun _ _ => trivial, fun i H v H1 d y e => .inl ⟨y.1, ?_⟩⟩
  obtain ⟨c, e1, e2⟩ := y.2
  rw [List.getElem?_map, Array.getElem?_toList, e1] at e
  cases e
  exact e2
theorem i_seq (h : PE X e (tM X.K W m)) : PI X tg e (tI X.K W (iSeq m)) := by
  refine pi_imp (pi_or (pi_list h) (pi_or (pi_tup h) (pi_str h))) fun σ H R ⟨f, w, s, st, p⟩ => ?_
  unfold iSeq at p
  have go : ∀ {q : V → Hp → Prop}, (∀ d s1, m s = .ok d s1 → ∀ w1 H1 v, Ext w w1 → StOk X.K f w1 s1 σ H1 → Rep X.K w1 d v → Po X.K f W (RI X.K) w1 σ R (match d with
      | .tup ds => .ok ds s1
      | .lst ds => .ok ds s1
      | .str x => .ok (x.cps.toList.map fun c => .str ⟨#[c]⟩) s1
      | _ => .no) → q v H1) → tM X.K W m σ H q := by
    intro q hq
    refine ⟨f, w, s, st, ?_⟩
    cases e1 : m s with
    | no => rw [e1] at p; exact p.elim
    | exc x s1 => rw [e1] at p; exact p
    | ok d s1 =>
      rw [e1] at p
      exact fun w1 H1 v x1 st1 r1 => hq d s1 e1 w1 H1 v x1 st1 r1 (Po.ext p x1)
  cases e1 : m s with
  | no => rw [e1] at p; exact p.elim
  | exc x s1 =>
    refine .inl (go fun d s2 e2 => ?_)
    rw [e1] at e2
    cases e2
  | ok d s1 =>
    cases d with
    | tup ds =>
      refine .inr (.inl (go fun d s2 e2 w1 H1 v x1 st1 r1 p1 => ?_))
      rw [e1] at e2
      cases e2
      obtain ⟨a, vs, h1, h2, h3⟩ := r1
      exact ⟨a, h1, ⟨vs, st1.tup h2⟩, p1 w1 H1 _ (Ext.refl _) st1 (wk_seq h3 walk_tup fun H q => same_seqT q h2)⟩
    | lst ds =>
      refine .inl (go fun d s2 e2 w1 H1 v x1 st1 r1 p1 => ?_)
      rw [e1] at e2
      cases e2
      obtain ⟨a, vs, h1, h2, h3⟩ := r1
      exact ⟨a, h1, ⟨vs, SqL.of (st1.sub _ _ h2)⟩, p1 w1 H1 _ (Ext.refl _) st1 (wk_seq h3 walk_list fun H q => SqL.of (q _ _ h2))⟩
    | str x =>
      refine .inr (.inr (go fun d s2 e2 w1 H1 v x1 st1 r1 p1 => ?_))
      rw [e1] at e2
      cases e2
      exact ⟨x, r1, p1 w1 H1 _ (Ext.refl _) st1 wk_str⟩
    | _ => rw [e1] at p; exact p.elim

/-! ### ranges -/
def rgD (a : Int) (n : Nat) : List D := (List.range n).map fun i => .int (a + (i : Nat))
theorem wk_range {K : PySem.W.Frag} {w : Wd} {a : Int} {n : Nat} : Wk K w (Itr a n) (rgD a n) := by
  have hl : (rgD a n).length = n := by unfold rgD; rw [List.length_map, List.length_range]
  have wl : Walk (Itr a n) (rgD a n).length (fun _ => True) (YFn fun i => .int (a + i)) := by
    rw [hl]
    exact walk_range
  refine ⟨_, _, wl, fun _ _ => trivial, fun i H v H1 d y e => .inl ⟨y.1, ?_⟩⟩
  have hi : i < n := by
    have := (List.getElem?_eq_some_iff.mp e).1
    rw [hl] at this
    exact this
  unfold rgD at e
  rw [List.getElem?_map, List.getElem?_range hi] at e
  cases e
  exact y.2
def iRg1 (m : M D) : M (List D) := fun s => (m s).bind fun x s1 => match x with
  | .int j => if -(2 ^ 62) ≤ j ∧ j < 2 ^ 62 then .ok (rgD 0 j.toNat) s1 else .no
  | _ => .no
def iRg2 (m m' : M D) : M (List D) := fun s => (m s).bind fun x s1 => (m' s1).bind fun y s2 => match x, y with
  | .int i, .int j => if -(2 ^ 62) ≤ i ∧ i < 2 ^ 62 ∧ -(2 ^ 62) ≤ j ∧ j < 2 ^ 62 then .ok (rgD i (j - i).toNat) s2 else .no
  | _, _ => .no
theorem i_rg1 {a : Expr} {p pos : Pos} (hg : Gl X "range") (hm : X.mg "range" = none) (ha : PE X a (tM X.K W m)) (hs : starEach [a] X.env = [(false, eval a X.env)] := by rfl) : PI X tg (.Call (.Name "range" p) [a] [] pos) (tI X.K W (iRg1 m)) := by
  refine pi_imp (pi_range1 hg hm (pa_cons ha pa_nil hs) hs) fun σ H R ⟨f, w, s, st, p⟩ => ?_
  refine ⟨f, w, s, st, Po.thn p fun x w1 s1 v H1 e1 st1 r1 p1 => ?_⟩
  cases x with
  | int j =>
    have p1' : Po X.K f W (RI X.K) w1 σ R (if -(2 ^ 62) ≤ j ∧ j < 2 ^ 62 then .ok (rgD 0 j.toNat) s1 else .no) := p1
    split at p1'
    · rename_i hb
      exact ⟨j, by rw [show v = .int j from r1], hb.1, hb.2, p1' w1 H1 _ (Ext.refl _) st1 wk_range⟩
    · exact p1'.elim
  | _ => exact p1.elim
theorem i_rg2 {a b : Expr} {m' : M D} {p pos : Pos} (hg : Gl X "range") (hm : X.mg "range" = none) (ha : PE X a (tM X.K W m)) (hb : PE X b (tM X.K W m')) (hs : starEach [a, b] X.env = [(false, eval a X.env), (false, eval b X.env)] := by rfl) (hs2 : starEach [b] X.env = [(false, eval b X.env)] := by rfl) :
    PI X tg (.Call (.Name "range" p) [a, b] [] pos) (tI X.K W (iRg2 m m')) := by
  refine pi_imp (pi_range2 hg hm (pa_cons ha (pa_cons hb pa_nil hs2) (by rw [hs, hs2])) hs hs2) fun σ H R ⟨f, w, s, st, p⟩ => ?_
  refine ⟨f, w, s, st, Po.thn p fun x w1 s1 v H1 e1 st1 r1 p1 => ⟨f, w1, s1, st1, Po.thn p1 fun y w2 s2 u H2 e2 st2 r2 p2 => ?_⟩⟩
  cases x with
  | int i =>
    cases y with
    | int j =>
      have p2' : Po X.K f W (RI X.K) w2 σ R (if -(2 ^ 62) ≤ i ∧ i < 2 ^ 62 ∧ -(2 ^ 62) ≤ j ∧ j < 2 ^ 62 then .ok (rgD i (j - i).toNat) s2 else .no) := p2
      split at p2'
      · rename_i hb
        exact ⟨i, j, by rw [show v = .int i from r1, show u = .int j from r2], hb, p2' w2 H2 _ (Ext.refl _) st2 wk_range⟩
      · exact p2'.elim
    | _ => exact p2.elim
  | _ => exact p2.elim

/-! ### while, for -/
def sWhile (tc : M Bool) (b : MS) : Nat → MS
  | 0, _ => .no
  | n + 1, s => (tc s).toS fun k s1 => if k then (match b s1 with
      | .nx s2 => sWhile tc b n s2
      | .ct s2 => sWhile tc b n s2
      | .bk s2 => .nx s2
      | o => o) else .nx s1
theorem s_while {c : Expr} {body : List Stmt} {pos : Pos} {tc : M Bool} {mb : MS} (n : Nat) (hp : PassesOwn (model X.prog X.w) X.A X.env X.xe) (hc : PT X c (tT X.K W tc)) (hb : PSs X body (tS X.K W mb)) : PS X (.While c body [] pos) (tS X.K W (sWhile tc mb n)) := by
  refine ps_imp (ps_while hp hc hb) fun E σ H ⟨f, w, s, st, p⟩ => ?_
  refine ⟨fun m σ H => ∃ f w s, StOk X.K f w s σ H ∧ PoS X.K f W w E (sWhile tc mb m s), ⟨n, f, w, s, st, p⟩, ?_⟩
  rintro m σ1 H1 ⟨f, w, s, st, p⟩
  cases m with
  | zero => exact p.elim
  | succ m =>
    refine ⟨f, w, s, st, PoS.thn (R := RB) p fun a w1 s1 b H2 e1 st1 r1 p1 => ?_⟩
    have r1' : b = a := r1
    subst r1'
    cases b with
    | false =>
      rw [if_neg Bool.false_ne_true]
      exact p1 w1 σ1 H2 (Ext.refl _) st1
    | true =>
      rw [if_pos rfl]
      refine ⟨fun σ H => ∃ f w s, StOk X.K f w s σ H ∧ PoS X.K f W w E (sWhile tc mb m s), fun σ' H' q => ⟨m, Nat.lt_succ_self m, q⟩, f, w1, s1, st1, ?_⟩
      have p1' : PoS X.K f W w1 E (match mb s1 with
        | .nx s2 => sWhile tc mb m s2
        | .ct s2 => sWhile tc mb m s2
        | .bk s2 => .nx s2
        | o => o) := p1
      cases eb : mb s1 with
      | nx s2 => rw [eb] at p1'; exact fun w' σ' H' e' st' => ⟨f, w', s2, st', PoS.ext p1' e'⟩
      | ct s2 => rw [eb] at p1'; exact fun w' σ' H' e' st' => ⟨f, w', s2, st', PoS.ext p1' e'⟩
      | bk s2 => rw [eb] at p1'; exact p1'
      | rt d s2 => rw [eb] at p1'; exact p1'
      | exc x s2 => rw [eb] at p1'; exact p1'
      | no => rw [eb] at p1'; exact p1'
def sForL (g : D → S → Option S) (b : MS) : List D → MS
  | [], s => .nx s
  | d :: r, s => match g d s with
    | none => .no
    | some s1 => match b s1 with
      | .nx s2 => sForL g b r s2
      | .ct s2 => sForL g b r s2
      | .bk s2 => .nx s2
      | o => o
def sFor (mi : M (List D)) (g : D → S → Option S) (b : MS) : MS := fun s => (mi s).toS fun ds s1 => sForL g b ds s1
theorem s_for {iter : Expr} {body : List Stmt} {pos : Pos} {mi : M (List D)} {g : D → S → Option S} {ts : List Nat} {mb : MS} (hp : PassesOwn (model X.prog X.w) X.A X.env X.xe) (hc : X.calm = true) (hi : PI X tg iter (tI X.K W mi)) (hg : PG X tg (tTg X.K ts g)) (hb : PSs X body (tS X.K W mb))
    (hs : ∀ x, foldedSetIterable iter X.env x = pure x := by intro _; rfl) : PS X (.For tg iter body [] pos) (tS X.K W (sFor mi g mb)) := by
  refine ps_imp (ps_for hp hc hi hg hb hs) fun E σ H ⟨f, w, s, st, p⟩ => ?_
  refine ⟨f, w, s, st, PoS.thn p fun ds w1 s1 J H1 e1 st1 r1 p1 => ?_⟩
  obtain ⟨G, Y, wk, hG, hY⟩ := r1.ex
  refine for_it wk (fun i σ H => ∃ w2 s2, Ext w1 w2 ∧ StOk X.K f w2 s2 σ H ∧ PoS X.K f W w2 E (sForL g mb (ds.drop i) s2)) ⟨w1, s1, Ext.refl _, st1, by simpa using p1⟩ ?_ ?_ ?_
  · rintro i σ H _ ⟨w2, s2, x2, st2, _⟩
    exact hG H (x2.same.trans st2.sub)
  · rintro i x σ2 H2 H3 hi ⟨w2, s2, x2, st2, p2⟩ y
    have hd : ds[i]? = some ds[i] := by simp [hi]
    have e2 : ds.drop i = ds[i] :: ds.drop (i + 1) := by rw [List.drop_eq_getElem_cons hi]
    rw [e2] at p2
    -- the item stands
    have it : ∃ w3, Ext w2 w3 ∧ StOk X.K f w3 s2 σ2 H3 ∧ Rep X.K w3 ds[i] x := by
      rcases hY i H2 x H3 _ y hd with ⟨rfl, r⟩ | ⟨T, ys, as, rfl, hT, rfl, h4, h5⟩
      · exact ⟨w2, Ext.refl _, st2, Rep.mono x2 r⟩
      · have e3 := ext_put (w := w2) (o := .tup ys) (st2.freshF hT)
        refine ⟨_, e3, st2.put hT, ?_⟩
        rw [h4]
        exact ⟨T, ys, rfl, .inl (.inl Wd.put_at), RepAll.mono (x2.trans e3) h5⟩
    obtain ⟨w3, x3, st3, r3⟩ := it
    have p3 : PoS X.K f W w3 E (match g ds[i] s2 with
      | none => .no
      | some s1 => match mb s1 with
        | .nx s2 => sForL g mb (ds.drop (i + 1)) s2
        | .ct s2 => sForL g mb (ds.drop (i + 1)) s2
        | .bk s2 => .nx s2
        | o => o) := PoS.ext p2 x3
    cases eg : g ds[i] s2 with
    | none => rw [eg] at p3; exact p3.elim
    | some s3 =>
      rw [eg] at p3
      refine ⟨f, w3, s2, ds[i], s3, st3, r3, eg, fun σ4 _ st4 => ⟨f, w3, s3, st4, ?_⟩⟩
      have p4 : PoS X.K f W w3 E (match mb s3 with
        | .nx s2 => sForL g mb (ds.drop (i + 1)) s2
        | .ct s2 => sForL g mb (ds.drop (i + 1)) s2
        | .bk s2 => .nx s2
        | o => o) := p3
      cases eb : mb s3 with
      | nx s4 => rw [eb] at p4; exact fun w' σ' H' e' st' => ⟨w', s4, (x2.trans x3).trans e', st', PoS.ext p4 e'⟩
      | ct s4 => rw [eb] at p4; exact fun w' σ' H' e' st' => ⟨w', s4, (x2.trans x3).trans e', st', PoS.ext p4 e'⟩
      | bk s4 => rw [eb] at p4; exact p4
      | rt d s4 => rw [eb] at p4; exact p4
      | exc x s4 => rw [eb] at p4; exact p4
      | no => rw [eb] at p4; exact p4
  · rintro σ2 H2 ⟨w2, s2, x2, st2, p2⟩
    rw [List.drop_length] at p2
    exact p2 w2 σ2 H2 (Ext.refl _) st2
end
end Pv
end PvH_

section PvI_
set_option Elab.async false
set_option linter.all false
set_option maxRecDepth 100000
set_option maxHeartbeats 4000000
namespace Pv
open PySem PySem.Spec PyProof.Rows L2

/-! ### comprehensions -/
def wipeE (vs : List Nat) (e : List SV) : List SV := vs.foldr (fun i e => e.set i .no) e
def wipeS (vs : List Nat) (s : S) : S := { s with env := wipeE vs s.env }
/-- the slots of vs as they were in e0 -/
def backE (vs : List Nat) (e0 e : List SV) : List SV := vs.foldr (fun i e => e.set i (e0.getD i .no)) e
def sCompL (g : D → S → Option S) (tt : M Bool) (me : M D) (vs : List Nat) : List D → List D → M (List D)
  | [], acc, s => .ok acc s
  | d :: r, acc, s => match g d (wipeS vs s) with
    | none => .no
    | some s1 => match tt s1 with
      | .ok false s2 => sCompL g tt me vs r acc s2
      | .ok true s2 => (match me s2 with
        | .ok x s3 => if acc.length < sizeLine then sCompL g tt me vs r (acc ++ [x]) s3 else .no
        | _ => .no)
      | _ => .no
def mComp (mi : M (List D)) (g : D → S → Option S) (tt : M Bool) (me : M D) (vs : List Nat) : M (List D) := fun s => (mi s).bind fun ds s1 =>
  if vs.all (fun i => !(getS i s1).own) = true then (sCompL g tt me vs ds [] s1).bind fun xs s2 => .ok xs { s2 with env := backE vs s1.env s2.env } else .no
theorem wipeE_get {e : List SV} : ∀ {vs : List Nat} {j : Nat} {x : SV}, (wipeE vs e)[j]? = some x → (j ∈ vs ∧ x = .no) ∨ (j ∉ vs ∧ e[j]? = some x)
  | [], j, x, h => .inr ⟨by simp, h⟩
  | v :: vs, j, x, h => by
    rcases getElem?_set_cases (show ((wipeE vs e).set v .no)[j]? = some x from h) with ⟨rfl, rfl⟩ | ⟨n, h⟩
    · exact .inl ⟨by simp, rfl⟩
    · rcases wipeE_get h with ⟨h1, h2⟩ | ⟨h1, h2⟩
      · exact .inl ⟨by simp [h1], h2⟩
      · exact .inr ⟨by simp only [List.mem_cons, not_or]; exact ⟨fun z => n z.symm, h1⟩, h2⟩
theorem wipeE_length {e : List SV} : ∀ {vs : List Nat}, (wipeE vs e).length = e.length
  | [] => rfl
  | v :: vs => by
    show ((wipeE vs e).set v .no).length = _
    rw [List.length_set, wipeE_length]
theorem backE_get {e0 e : List SV} : ∀ {vs : List Nat} {j : Nat} {x : SV}, (backE vs e0 e)[j]? = some x → (j ∈ vs ∧ x = e0.getD j .no) ∨ (j ∉ vs ∧ e[j]? = some x)
  | [], j, x, h => .inr ⟨by simp, h⟩
  | v :: vs, j, x, h => by
    rcases getElem?_set_cases (show ((backE vs e0 e).set v (e0.getD v .no))[j]? = some x from h) with ⟨rfl, rfl⟩ | ⟨n, h⟩
    · exact .inl ⟨by simp, rfl⟩
    · rcases backE_get h with ⟨h1, h2⟩ | ⟨h1, h2⟩
      · exact .inl ⟨by simp [h1], h2⟩
      · exact .inr ⟨by simp only [List.mem_cons, not_or]; exact ⟨fun z => n z.symm, h1⟩, h2⟩
theorem backE_length {e0 e : List SV} : ∀ {vs : List Nat}, (backE vs e0 e).length = e.length
  | [] => rfl
  | v :: vs => by
    show ((backE vs e0 e).set v _).length = _
    rw [List.length_set, backE_length]
theorem wipe_at {σ : L2.St} {i : Nat} : ∀ {vs : List Nat}, i ∈ vs → (wipe σ vs)[i]?.join = none
  | v :: vs, h => by
    show ((wipe σ vs).set v none)[i]?.join = none
    by_cases e : v = i
    · subst e
      rw [List.getElem?_set]
      split
      · split <;> rfl
      · contradiction
    · rw [List.getElem?_set_ne e]
      exact wipe_at ((List.mem_cons.mp h).resolve_left fun z => e z.symm)
theorem wipe_off {σ σ' : L2.St} {vs : List Nat} (o : Off vs σ σ') : wipe σ' vs = wipe σ vs := by
  apply List.ext_getElem?
  intro j
  by_cases h : j ∈ vs
  · have h1 := wipe_at (σ := σ) h
    have h2 := wipe_at (σ := σ') h
    by_cases l : j < σ.length
    · have e1 : j < (wipe σ vs).length := by rw [wipe_length]; exact l
      have e2 : j < (wipe σ' vs).length := by rw [wipe_length, o.1]; exact l
      rw [List.getElem?_eq_getElem e1] at h1 ⊢
      rw [List.getElem?_eq_getElem e2] at h2 ⊢
      have h1' : (wipe σ vs)[j] = none := h1
      have h2' : (wipe σ' vs)[j] = none := h2
      rw [h1', h2']
    · rw [List.getElem?_eq_none (by rw [wipe_length, o.1]; omega), List.getElem?_eq_none (by rw [wipe_length]; omega)]
  · rw [wipe_out h, wipe_out h]
    exact o.2 j h
theorem Off.mono {t u : List Nat} {a b : L2.St} (h : Off t a b) (g : ∀ i ∈ t, i ∈ u) : Off u a b := ⟨h.1, fun j n => h.2 j fun m => n (g j m)⟩
section
variable {K : PySem.W.Frag} {f : Fm} {w w' : Wd} {s s' : S} {σ : L2.St} {H H' : Hp}
theorem StOk.wiped (st : StOk K f w s σ H) (vs : List Nat) : StOk K f w (wipeS vs s) (wipe σ vs) H where
  sub := st.sub
  fr := st.fr
  ff := st.ff
  f0 := st.f0
  bb := st.bb
  bf := st.bf
  len := by
    show (wipeE vs s.env).length = _
    rw [wipeE_length, wipe_length]
    exact st.len
  slot := fun j x e => by
    rcases wipeE_get e with ⟨h1, rfl⟩ | ⟨h1, h2⟩
    · exact trivial
    · rw [wipe_out h1]
      exact st.slot j x h2
  bx := st.bx
  dist := fun i j x y p n e1 e2 o1 o2 e3 => by
    rcases wipeE_get e1 with ⟨h1, rfl⟩ | ⟨h1, h2⟩
    · cases o1
    · rcases wipeE_get e2 with ⟨h3, rfl⟩ | ⟨h3, h4⟩
      · cases o2
      · rw [wipe_out h1] at e3
        rw [wipe_out h3]
        exact st.dist i j x y p n h2 h4 o1 o2 e3
theorem SlotOk.plain {x : SV} {v : Option V} (h : SlotOk K f w H x v) (o : x.own = false) (e : Ext w w') : SlotOk K f w' H' x v := by
  cases x with
  | no => exact trivial
  | d x =>
    obtain ⟨u, e1, e2⟩ := h
    exact ⟨u, e1, e2.mono e⟩
  | bx =>
    obtain ⟨p, e1, e2⟩ := h
    exact ⟨p, e1, e.bp _ e2⟩
  | _ => cases o
theorem StOk.back {s1 s2 : S} {H1 : Hp} (st1 : StOk K f w s1 σ H1) (vs : List Nat) (st2 : StOk K f w' s2 (wipe σ vs) H) (e : Ext w w') (no : ∀ i ∈ vs, (getS i s1).own = false) :
    StOk K f w' { s2 with env := backE vs s1.env s2.env } σ H := by
  have key : ∀ (j : Nat) (x : SV), (backE vs s1.env s2.env)[j]? = some x → (j ∈ vs ∧ x = getS j s1) ∨ (j ∉ vs ∧ s2.env[j]? = some x) := fun j x h => by
    rcases backE_get h with h | h
    · exact .inl h
    · exact .inr h
  refine ⟨st2.sub, st2.fr, st2.ff, st2.f0, st2.bb, st2.bf, ?_, fun j x h => ?_, st2.bx, fun i j x y p n e1 e2 o1 o2 e3 => ?_⟩
  · show (backE vs s1.env s2.env).length = _
    rw [backE_length, st2.len, wipe_length]
  · rcases key j x h with ⟨h1, rfl⟩ | ⟨h1, h2⟩
    · by_cases z : getS j s1 = .no
      · rw [z]
        exact trivial
      · exact (st1.slot j _ (getS_some rfl z)).plain (no j h1) e
    · have q := st2.slot j x h2
      rw [wipe_out h1] at q
      exact q
  · rcases key i x e1 with ⟨h1, rfl⟩ | ⟨h1, h2⟩
    · rw [no i h1] at o1
      cases o1
    · rcases key j y e2 with ⟨h3, rfl⟩ | ⟨h3, h4⟩
      · rw [no j h3] at o2
        cases o2
      · have q := st2.dist i j x y p n h2 h4 o1 o2
        rw [wipe_out h1, wipe_out h3] at q
        exact q e3
/-- one more object is kept, and the box stays where it is -/
def Fm.guard (f : Fm) (p : Addr) (o : HO) (bp : Option Addr) : Fm := { f with H0 := fun a => if a = p then some o else f.H0 a, b0 := bp, fx := true }
theorem StOk.guard (st : StOk K f w s σ H) {p : Addr} {o : HO} (h1 : H p = some o) (h2 : w.F p = none) (h3 : f.H0 p = none) (h4 : w.bp ≠ some p) (h6 : ∀ (i : Nat) (x : SV), s.env[i]? = some x → x.own = true → σ[i]?.join ≠ some (.ref p)) :
    StOk K (f.guard p o w.bp) w s σ H := by
  have at0 : ∀ a, a ≠ p → (f.guard p o w.bp).H0 a = f.H0 a := fun a n => if_neg n
  refine ⟨st.sub, fun a u e n => ?_, fun a e1 e2 => ?_, st.f0, fun q e => e, fun _ => rfl, st.len, fun i x e => ?_, fun q e => ?_, st.dist⟩
  · by_cases z : a = p
    · subst z
      have e' : some o = some u := (if_pos rfl : (f.guard a o w.bp).H0 a = some o) ▸ e
      cases e'
      exact h1
    · rw [at0 a z] at e
      refine st.fr a u e fun zz => ?_
      have b := st.bb a zz
      exact n b
  · by_cases z : a = p
    · subst z
      exact h2
    · rw [at0 a z] at e1
      exact st.ff a e1 e2
  · have q := st.slot i x e
    cases x with
    | no => exact trivial
    | d x => exact q
    | bx => exact q
    | o xs =>
      obtain ⟨a, vs, q1, q2, q3, q4, q5, q6⟩ := q
      exact ⟨a, vs, q1, q2, q3, q4, q5, by rw [at0 a fun z => h6 i _ e rfl (by rw [← z]; exact q1)]; exact q6⟩
    | ok xs =>
      obtain ⟨a, vs, q1, q2, q3, q4, q5, q6⟩ := q
      exact ⟨a, vs, q1, q2, q3, q4, q5, by rw [at0 a fun z => h6 i _ e rfl (by rw [← z]; exact q1)]; exact q6⟩
    | ot xs =>
      obtain ⟨a, vs, q1, q2, q3, q4, q5, q6⟩ := q
      exact ⟨a, vs, q1, q2, q3, q4, q5, by rw [at0 a fun z => h6 i _ e rfl (by rw [← z]; exact q1)]; exact q6⟩
  · obtain ⟨e1, e2, e3⟩ := st.bx q e
    exact ⟨e1, e2, .inl e⟩
theorem StOk.unguard {p : Addr} {o : HO} {w0 : Wd} {s0 : S} {σ0 : L2.St} {H0 : Hp} (st0 : StOk K f w0 s0 σ0 H0) (st : StOk K (f.guard p o w0.bp) w s σ H) (h3 : f.H0 p = none) (h4 : w0.bp ≠ some p) (h5 : f.F0 p = none) :
    StOk K f w s σ H ∧ H p = some o ∧ w.F p = none ∧ w.bp = w0.bp ∧ ∀ (i : Nat) (x : SV), s.env[i]? = some x → x.own = true → σ[i]?.join ≠ some (.ref p) := by
  have at0 : ∀ a, a ≠ p → (f.guard p o w0.bp).H0 a = f.H0 a := fun a n => if_neg n
  have atp : (f.guard p o w0.bp).H0 p = some o := if_pos rfl
  have ge : ∀ a, (f.guard p o w0.bp).H0 a = none → f.H0 a = none := fun a e => by
    by_cases z : a = p
    · rw [z]
      exact h3
    · rw [at0 a z] at e
      exact e
  have wb : w.bp = w0.bp := st.bf rfl
  refine ⟨⟨st.sub, fun a u e n => ?_, fun a e1 e2 => st.ff a (fun z => e1 (ge a z)) e2, st.f0, fun q e => by rw [wb]; exact st0.bb q e, fun e => by rw [wb]; exact st0.bf e, st.len, fun i x e => ?_, fun q e => ?_, st.dist⟩, st.fr p o atp h4, st.ff p (by rw [atp]; exact fun z => nomatch z) h5, wb, fun i x e ow z => ?_⟩
  · have np : a ≠ p := fun z => by
      rw [z, h3] at e
      cases e
    refine st.fr a u (by rw [at0 a np]; exact e) fun z => ?_
    rcases (st0.bx a z).2.2 with q | q
    · exact n q
    · rw [q] at e
      cases e
  · have q := st.slot i x e
    cases x with
    | no => exact trivial
    | d x => exact q
    | bx => exact q
    | o xs =>
      obtain ⟨a, vs, q1, q2, q3, q4, q5, q6⟩ := q
      exact ⟨a, vs, q1, q2, q3, q4, q5, ge a q6⟩
    | ok xs =>
      obtain ⟨a, vs, q1, q2, q3, q4, q5, q6⟩ := q
      exact ⟨a, vs, q1, q2, q3, q4, q5, ge a q6⟩
    | ot xs =>
      obtain ⟨a, vs, q1, q2, q3, q4, q5, q6⟩ := q
      exact ⟨a, vs, q1, q2, q3, q4, q5, ge a q6⟩
  · obtain ⟨e1, e2, e3⟩ := st.bx q e
    refine ⟨e1, e2, ?_⟩
    rw [wb] at e
    exact (st0.bx q e).2.2
  · obtain ⟨q, e1, e2, e3, e4, e5⟩ := (st.slot i x e).at ow
    rw [z] at e1
    cases e1
    rw [atp] at e5
    cases e5
/-- a thing that is nobody's and not frozen changes -/
theorem StOk.over (h : StOk K f w s σ H) {p : Addr} {o : HO} (h1 : w.F p = none) (h2 : f.H0 p = none) (h3 : w.bp ≠ some p) (h4 : ∀ (i : Nat) (x : SV), s.env[i]? = some x → x.own = true → σ[i]?.join ≠ some (.ref p)) : StOk K f w s σ (upd H p o) where
  sub := fun b u e => by
    rw [upd_ne (ne_of_none e h1)]
    exact h.sub _ _ e
  fr := fun a u e1 e2 => by
    rw [upd_ne (ne_of_none e1 h2)]
    exact h.fr a u e1 e2
  ff := h.ff
  f0 := h.f0
  bb := h.bb
  bf := h.bf
  len := h.len
  slot := fun i x e => (h.slot i x e).ext (Ext.refl w) fun q hq e1 => by
    obtain ⟨q', e2, e3, e4, e5, e6⟩ := (h.slot i x e).at hq
    rw [e1] at e2
    cases e2
    have ne : q ≠ p := fun z => h4 i x e hq (by rw [← z]; exact e1)
    exact ⟨upd_ne ne, e4, e5⟩
  bx := fun q e => by
    obtain ⟨e1, e2, e3⟩ := h.bx q e
    have ne : q ≠ p := fun z => h3 (by rw [← z]; exact e)
    exact ⟨by rw [upd_ne ne]; exact e1, e2, e3⟩
  dist := h.dist
theorem backE_wipe {e0 e : List SV} {vs : List Nat} : backE vs e0 (wipeE vs e) = backE vs e0 e := by
  apply List.ext_getElem?
  intro j
  have hl : (backE vs e0 (wipeE vs e)).length = (backE vs e0 e).length := by rw [backE_length, backE_length, wipeE_length]
  by_cases l : j < (backE vs e0 e).length
  · have e1 : (backE vs e0 e)[j]? = some (backE vs e0 e)[j] := List.getElem?_eq_getElem l
    have e2 : (backE vs e0 (wipeE vs e))[j]? = some ((backE vs e0 (wipeE vs e))[j]'(by rw [hl]; exact l)) := List.getElem?_eq_getElem _
    rw [e1, e2]
    congr 1
    rcases backE_get e1 with ⟨a1, a2⟩ | ⟨a1, a2⟩
    · rcases backE_get e2 with ⟨b1, b2⟩ | ⟨b1, b2⟩
      · rw [a2, b2]
      · exact absurd a1 b1
    · rcases backE_get e2 with ⟨b1, b2⟩ | ⟨b1, b2⟩
      · exact absurd b1 a1
      · rcases wipeE_get b2 with ⟨c1, c2⟩ | ⟨c1, c2⟩
        · exact absurd c1 b1
        · rw [a2] at c2
          exact (Option.some.inj c2).symm
  · rw [List.getElem?_eq_none (by rw [hl]; omega), List.getElem?_eq_none (by omega)]
end
theorem Off.wipe {σ : L2.St} {vs : List Nat} : Off vs σ (L2.wipe σ vs) := ⟨wipe_length σ vs, fun j h => wipe_out h⟩

section
variable {X : Cx} {W : WX}
def mYes : M Bool := fun s => .ok true s
abbrev W0 : WX := fun _ _ _ _ => False
theorem ts_nil : PTs X [] (tT X.K W mYes) := ⟨fun pins s σ H Q I h => pts_nil.run pins s σ H Q I (by
  obtain ⟨f, w, s, st, p⟩ := h
  exact p w H true (Ext.refl _) st rfl)⟩
theorem ts_one {c : Expr} {t : M Bool} (h : PT X c (tT X.K W t)) : PTs X [c] (tT X.K W t) := pts_one h
theorem c_comp {K : PySem.W.Frag} {mi : M (List Pv.D)} {g : Pv.D → S → Option S} {ts vs : List Nat} {tt : M Bool} {me : M Pv.D} (hts : ∀ i ∈ ts, i ∈ vs) : ∀ σ H Q, tF K W (mComp mi g tt me vs) σ H Q → tLc (tI K W mi) (tTg K ts g) (tT K W0 tt) (tM K W0 me) vs σ H Q := fun σ H Q ⟨f, w, s, st, p⟩ => by
  refine ⟨f, w, s, st, Po.thn p fun ds w1 s1 J H1 e1 st1 r1 p1 => ?_⟩
  split at p1
  · rename_i hno
    have no : ∀ i ∈ vs, (getS i s1).own = false := fun i m => by
      have := List.all_eq_true.mp hno i m
      simpa using this
    intro D hD
    obtain ⟨G, Y, wk, hG, hY⟩ := r1.ex
    have f3 : f.H0 D = none := st1.fresh0 hD
    have f5 : f.F0 D = none := Same.free st1.f0 (st1.freshF hD)
    refine lc_it wk (fun i H => ∃ w2 s2 acc accv, Ext w1 w2 ∧ StOk K f w2 (wipeS vs s2) (wipe σ vs) H ∧ H D = some (.lst accv) ∧ RepAll K w2 acc accv ∧ w2.F D = none ∧ w2.bp ≠ some D ∧
      (∀ (i : Nat) (x : SV), (wipeE vs s2.env)[i]? = some x → x.own = true → (wipe σ vs)[i]?.join ≠ some (.ref D)) ∧
      Po K f W (RF K) w2 σ Q ((sCompL g tt me vs (ds.drop i) acc s2).bind fun xs s2 => .ok xs { s2 with env := backE vs s1.env s2.env })) ?_ ?_ ?_ ?_
    · refine ⟨w1, s1, [], [], Ext.refl _, (st1.lay hD).wiped vs, upd_same, rfl, st1.freshF hD, fun z => ?_, fun i x e o z => ?_, by simpa using p1⟩
      · obtain ⟨q, _⟩ := st1.bx D z
        rw [hD] at q
        cases q
      · rcases wipeE_get e with ⟨h1, rfl⟩ | ⟨h1, h2⟩
        · cases o
        · rw [wipe_out h1] at z
          obtain ⟨q, q1, q2, _⟩ := (st1.slot i x h2).at o
          rw [z] at q1
          cases q1
          exact q2 hD
    · rintro i H _ ⟨w2, s2, acc, accv, x2, st2, _⟩
      exact hG H (x2.same.trans st2.sub)
    · rintro i x H2 H3 hi2 ⟨w2, s2, acc, accv, x2, st2, d1, d2, d3, d4, d5, p2⟩ y
      have hd : ds[i]? = some ds[i] := by simp [hi2]
      have e2 : ds.drop i = ds[i] :: ds.drop (i + 1) := by rw [List.drop_eq_getElem_cons hi2]
      rw [e2] at p2
      have it : ∃ w3, Ext w2 w3 ∧ StOk K f w3 (wipeS vs s2) (wipe σ vs) H3 ∧ Rep K w3 ds[i] x ∧ H3 D = some (.lst accv) ∧ w3.F D = none ∧ w3.bp = w2.bp := by
        rcases hY i H2 x H3 _ y hd with ⟨rfl, r⟩ | ⟨T, ys, as, rfl, hT, rfl, h4, h5⟩
        · exact ⟨w2, Ext.refl _, st2, Rep.mono x2 r, d1, d3, rfl⟩
        · have e3 := ext_put (w := w2) (o := .tup ys) (st2.freshF hT)
          have nT : D ≠ T := ne_of_none d1 hT
          refine ⟨_, e3, st2.put hT, ?_, by rw [upd_ne nT]; exact d1, by show upd w2.F T _ D = none; rw [upd_ne nT]; exact d3, rfl⟩
          rw [h4]
          exact ⟨T, ys, rfl, .inl (.inl Wd.put_at), RepAll.mono (x2.trans e3) h5⟩
      obtain ⟨w3, x3, st3, r3, c1, c3, c4⟩ := it
      have c4' : w3.bp ≠ some D := by rw [c4]; exact d4
      have stg := st3.guard c1 c3 f3 c4' d5
      -- what comes of the turn
      cases eg : g ds[i] (wipeS vs s2) with
      | none =>
        have : sCompL g tt me vs (ds[i] :: ds.drop (i + 1)) acc s2 = .no := by
          show (match g ds[i] (wipeS vs s2) with
            | none => _
            | some s1 => _) = _
          rw [eg]
        rw [this] at p2
        exact p2.elim
      | some s3 =>
        refine ⟨f.guard D (.lst accv) w3.bp, w3, wipeS vs s2, ds[i], s3, stg, r3, eg, fun σ4 o4 st4 => ?_⟩
        have hw : wipe σ4 vs = wipe σ vs := by
          rw [wipe_off (o4.mono hts)]
          exact wipe_off Off.wipe
        refine ⟨hw, f.guard D (.lst accv) w3.bp, w3, s3, st4, ?_⟩
        cases et : tt s3 with
        | no =>
          have : sCompL g tt me vs (ds[i] :: ds.drop (i + 1)) acc s2 = .no := by
            show (match g ds[i] (wipeS vs s2) with
              | none => _
              | some s1 => _) = _
            rw [eg]
            show (match tt s3 with
              | .ok false s2 => _
              | .ok true s2 => _
              | _ => _) = _
            rw [et]
          rw [this] at p2
          exact p2.elim
        | exc z s4 =>
          have : sCompL g tt me vs (ds[i] :: ds.drop (i + 1)) acc s2 = .no := by
            show (match g ds[i] (wipeS vs s2) with
              | none => _
              | some s1 => _) = _
            rw [eg]
            show (match tt s3 with
              | .ok false s2 => _
              | .ok true s2 => _
              | _ => _) = _
            rw [et]
          rw [this] at p2
          exact p2.elim
        | ok b s4 =>
          intro w4 H4 b' x4 st5 rb
          have rb' : b' = b := rb
          subst rb'
          obtain ⟨u1, u2, u3, u4, u5⟩ := StOk.unguard st3 st5 f3 c4' f5
          cases b' with
          | false =>
            rw [if_neg Bool.false_ne_true]
            have : sCompL g tt me vs (ds[i] :: ds.drop (i + 1)) acc s2 = sCompL g tt me vs (ds.drop (i + 1)) acc s4 := by
              show (match g ds[i] (wipeS vs s2) with
                | none => _
                | some s1 => _) = _
              rw [eg]
              show (match tt s3 with
                | .ok false s2 => _
                | .ok true s2 => _
                | _ => _) = _
              rw [et]
            rw [this] at p2
            have stw := u1.wiped vs
            rw [hw] at stw
            refine ⟨w4, s4, acc, accv, (x2.trans x3).trans x4, stw, u2, RepAll.mono (x3.trans x4) d2, u3, by rw [u4]; exact c4', fun j z e o => ?_, Po.ext p2 (x3.trans x4)⟩
            rcases wipeE_get e with ⟨h1, rfl⟩ | ⟨h1, h2⟩
            · cases o
            · rw [← hw, wipe_out h1]
              exact u5 j z h2 o
          | true =>
            rw [if_pos rfl]
            refine ⟨f.guard D (.lst accv) w3.bp, w4, s4, st5, ?_⟩
            have step : sCompL g tt me vs (ds[i] :: ds.drop (i + 1)) acc s2 = (match me s4 with
                | .ok x s3 => if acc.length < sizeLine then sCompL g tt me vs (ds.drop (i + 1)) (acc ++ [x]) s3 else .no
                | _ => .no) := by
              show (match g ds[i] (wipeS vs s2) with
                | none => _
                | some s1 => _) = _
              rw [eg]
              show (match tt s3 with
                | .ok false s2 => _
                | .ok true s2 => _
                | _ => _) = _
              rw [et]
            rw [step] at p2
            cases em : me s4 with
            | no => rw [em] at p2; exact p2.elim
            | exc z s5 => rw [em] at p2; exact p2.elim
            | ok z s5 =>
              rw [em] at p2
              intro w5 H5 v x5 st6 r6
              have p2' : Po K f W (RF K) w2 σ Q (((if acc.length < sizeLine then sCompL g tt me vs (ds.drop (i + 1)) (acc ++ [z]) s5 else .no) : Out (List Pv.D)).bind fun xs s2 => .ok xs { s2 with env := backE vs s1.env s2.env }) := p2
              split at p2'
              · rename_i hz
                obtain ⟨y1, y2, y3, y4, y5⟩ := StOk.unguard st3 st6 f3 c4' f5
                have x5' := (x3.trans x4).trans x5
                have ra : RepAll K w5 acc accv := RepAll.mono x5' d2
                refine ⟨accv, y2, by rw [d2.length]; exact hz, w5, s5, acc ++ [z], accv ++ [v], x2.trans x5', ?_, upd_same, RepAll.append ra (RepAll.one r6), y3, by rw [y4]; exact c4', fun j u e o => ?_, Po.ext p2' x5'⟩
                · have stw := (y1.over (o := .lst (accv ++ [v])) y3 f3 (by rw [y4]; exact c4') y5).wiped vs
                  rw [hw] at stw
                  exact stw
                · rcases wipeE_get e with ⟨h1, rfl⟩ | ⟨h1, h2⟩
                  · cases o
                  · rw [← hw, wipe_out h1]
                    exact y5 j u h2 o
              · exact p2'.elim
    · rintro H2 ⟨w2, s2, acc, accv, x2, st2, d1, d2, d3, d4, d5, p2⟩
      rw [List.drop_length] at p2
      have stb := StOk.back st1 vs st2 x2 no
      have eb : ({ wipeS vs s2 with env := backE vs s1.env (wipeS vs s2).env } : S) = { s2 with env := backE vs s1.env s2.env } := by
        show ({ s2 with env := backE vs s1.env (wipeE vs s2.env) } : S) = _
        rw [backE_wipe]
      rw [eb] at stb
      refine p2 w2 H2 _ (Ext.refl _) stb ⟨D, accv, rfl, d1, d2, d3, d4, f3, fun j x e o => ?_⟩
      rcases backE_get e with ⟨h1, h2⟩ | ⟨h1, h2⟩
      · have := no j h1
        rw [h2] at o
        rw [show s1.env.getD j .no = getS j s1 from rfl, this] at o
        cases o
      · have hx : (wipeE vs s2.env)[j]? = some x := by
          have hl : j < (wipeE vs s2.env).length := by
            rw [wipeE_length]
            exact (List.getElem?_eq_some_iff.mp h2).1
          have e1 : (wipeE vs s2.env)[j]? = some (wipeE vs s2.env)[j] := List.getElem?_eq_getElem hl
          rcases wipeE_get e1 with ⟨c1, _⟩ | ⟨_, c2⟩
          · exact absurd c1 h1
          · rw [e1, ← c2, h2]
        have q := d5 j x hx o
        rw [wipe_out h1] at q
        exact q
  · exact p1.elim
theorem f_comp {elt tg iter : Expr} {ifs : List Expr} {scope : Scope} {own : List (Str × Nat)} {pos : Pos} {mi : M (List D)} {g : D → S → Option S} {ts : List Nat} {tt : M Bool} {me : M D} (hc : X.calm = true) (hN : X.N.Nodup)
    (hi : PI X tg iter (tI X.K W mi)) (ok : BlkOk X.N X.env.scope scope own) (hts : ∀ i ∈ ts, i ∈ own.map (·.2))
    (hg : ∀ (s : Shared) (H : Hp) (C : Addr) (cl : List (Str × Addr)) (fp : List Addr), PG (X.blk s H scope (compEnvC scope cl C X.env) fp) tg (tTg X.K ts g))
    (ht : ∀ (s : Shared) (H : Hp) (C : Addr) (cl : List (Str × Addr)) (fp : List Addr), PTs (X.blk s H scope (compEnvC scope cl C X.env) fp) ifs (tT X.K W0 tt))
    (he : ∀ (s : Shared) (H : Hp) (C : Addr) (cl : List (Str × Addr)) (fp : List Addr), PE (X.blk s H scope (compEnvC scope cl C X.env) fp) elt (tM X.K W0 me)) (hs : ∀ x, foldedSetIterable iter X.env x = pure x := by intro _; rfl) :
    PE X (.ListComp elt [⟨tg, iter, ifs, 0⟩] scope pos) (tF X.K W (mComp mi g tt me (own.map (·.2)))) :=
  pe_imp (pe_lc hc hN hi ok hg ht he hs) (c_comp hts)
end
end Pv
end PvI_

section PvJ_
set_option Elab.async false
set_option linter.all false
set_option maxRecDepth 100000
set_option maxHeartbeats 4000000
namespace Pv
open PySem PySem.Spec PyProof.Rows L2

/-! ### defs -/
abbrev Box := Int × Int × Int
inductive RO where
  | ok (d : D) (b : Box) | exc (e : Exn) (b : Box) | no
/-- what a def is worth: of its arguments and the box -/
abbrev Fn := List D → Box → RO
structure EndOk (w : Wd) (H : Hp) (w' : Wd) (H' : Hp) (b' : Box) : Prop where
  sub : Same w'.F H'
  bp : w'.bp = w.bp
  fr : ∀ a o, H a = some o → w.bp ≠ some a → H' a = some o
  ff : ∀ a, H a ≠ none → w.F a = none → w'.F a = none
  bx : ∀ p, w.bp = some p → H' p = some (boxV b')
def spF (K : PySem.W.Frag) (F : Fn) (n : Nat) : Sp := fun vs H Q E => ∃ ds w b, ds.length = n ∧ Same w.F H ∧ RepAll K w ds vs ∧ (∀ p, w.bp = some p → H p = some (boxV b) ∧ w.F p = none) ∧ match F ds b with
  | .ok d b' => ∀ w' H' v, Ext w w' → EndOk w H w' H' b' → Rep K w' d v → Q v H'
  | .exc e b' => ∀ w' H' c dd, Ext w w' → EndOk w H w' H' b' → RepX K w' H' e c dd → E c dd H'
  | .no => False
section
variable {K : PySem.W.Frag} {f : Fm} {w w' : Wd} {s s' : S} {σ : L2.St} {H H' : Hp} {b' : Box}
theorem StOk.call (h : StOk K f w s σ H) (e : Ext w w') (r : EndOk w H w' H' b') : StOk K f w' { s with box := b' } σ H' where
  sub := r.sub
  fr := fun a o e1 e2 => by
    refine r.fr a o (h.fr a o e1 e2) fun z => ?_
    rcases (h.bx a z).2.2 with q | q
    · exact e2 q
    · rw [q] at e1
      cases e1
  ff := fun a e1 e2 => by
    refine r.ff a ?_ (h.ff a e1 e2)
    cases q : f.H0 a with
    | none => exact absurd q e1
    | some o =>
      by_cases z : f.b0 = some a
      · rw [(h.bx a (h.bb a z)).1]
        exact fun z => nomatch z
      · rw [h.fr a o q z]
        exact fun z => nomatch z
  f0 := h.f0.trans e.same
  bb := fun p q => e.bp p (h.bb p q)
  bf := fun q => by rw [r.bp]; exact h.bf q
  len := h.len
  slot := fun i x q => (h.slot i x q).ext e fun p o e1 => by
    obtain ⟨p', e2, e3, e4, e5, e6⟩ := (h.slot i x q).at o
    rw [e1] at e2
    cases e2
    refine ⟨?_, r.ff p e3 e4, by rw [r.bp]; exact e5⟩
    cases z : H p with
    | none => exact absurd z e3
    | some o => exact r.fr p o z e5
  bx := fun p q => by
    rw [r.bp] at q
    obtain ⟨e1, e2, e3⟩ := h.bx p q
    exact ⟨r.bx p q, r.ff p (by rw [e1]; exact fun z => nomatch z) e2, e3⟩
  dist := h.dist
theorem StOk.endOk {vs : List V} {ds : List D} {w0 : Wd} {H0 : Hp} (h : StOk K ⟨H0, w0.F, w0.bp, true⟩ w s σ H) : EndOk w0 H0 w H s.box :=
  ⟨h.sub, h.bf rfl, fun a o e n => h.fr a o e n, fun a e1 e2 => h.ff a e1 e2, fun p e => (h.bx p (h.bb p e)).1⟩
end

def ofRO (x : RO) (s : S) : Out D := match x with
  | .ok d b => .ok d { s with box := b }
  | .exc e b => .exc e { s with box := b }
  | .no => .no
def mCall (F : Fn) (m : M (List D)) : M D := fun s => (m s).bind fun ds s1 => ofRO (F ds s1.box) s1
section
variable {X : Cx} {W : WX} {e : Expr} {es : List Expr} {m : M (List D)} {F : Fn} {x : Str} {p pos : Pos} {fa : Addr} {fd : FuncData} {ps : List Str} {n k : Nat}
theorem call_sp {f : Fm} {w : Wd} {s : S} {σ : L2.St} {H : Hp} {Q : VK} {E : XK} {ds : List D} {vs : List V} (st : StOk X.K f w s σ H) (r : RepAll X.K w ds vs) (hn : ds.length = n) (hE : ∀ c dd H, W c dd σ H → E c dd H)
    (p : Po X.K f W (RD X.K) w σ Q (ofRO (F ds s.box) s)) : spF X.K F n vs H Q E := by
  refine ⟨ds, w, s.box, hn, st.sub, r, fun q e => ⟨(st.bx q e).1, (st.bx q e).2.1⟩, ?_⟩
  cases ef : F ds s.box with
  | no => rw [ef] at p; exact p.elim
  | ok d b => rw [ef] at p; exact fun w' H' v e1 e2 rv => p w' H' v e1 (st.call e1 e2) rv
  | exc y b => rw [ef] at p; exact fun w' H' c dd e1 e2 rx => hE _ _ _ (p w' H' c dd e1 (st.call e1 e2) rx)
theorem q_call (G : FnOk X.prog X.w X.K X.mg X.base (L2.CX X.prog X.w) k fa fd ps (spF X.K F n)) (hr : Room k X.A) (tk : Takes X W) (hg : Gl X x) (hm : X.mg x = some (.ref fa)) (hk : PySem.W.keepIn X.K (.ref fa) = true) (hb : Binds X.K fd ps [])
    (ha : PA X (e :: es) (tA X.K W m)) (hn : ∀ s ds s1, m s = .ok ds s1 → ds.length = n) (hdb : (x == ("__debug__" : Str)) = false := by decide) (he : starEach (e :: es) X.env = (false, eval e X.env) :: starEach es X.env := by rfl)
    (hpl : (backTo pos (starEach es X.env)).any (·.1) = false := by rfl) : PE X (.Call (.Name x p) (e :: es) [] pos) (tM X.K W (mCall F m)) := by
  refine pe_imp (pe_callS (E := WE W) G hr hg hm hk hb (passAt tk) ha hdb he hpl) fun σ H Q ⟨f, w, s, st, p⟩ => ?_
  refine ⟨f, w, s, st, ?_⟩
  cases em : m s with
  | no => unfold mCall at p; rw [em] at p; exact p.elim
  | exc y s1 => unfold mCall at p; rw [em] at p; exact p
  | ok ds s1 =>
    unfold mCall at p
    rw [em] at p
    exact fun w1 H1 vs e1 st1 r1 => call_sp st1 r1 (hn _ _ _ em) (fun _ _ _ h => h) (Po.ext p e1)
theorem aCons_len {ma : M D} {mr : M (List D)} {n : Nat} (h : ∀ s ds s1, mr s = .ok ds s1 → ds.length = n) : ∀ s ds s1, aCons ma mr s = .ok ds s1 → ds.length = n + 1 := by
  intro s ds s1 e
  unfold aCons at e
  cases e1 : ma s with
  | no => rw [e1] at e; cases e
  | exc _ _ => rw [e1] at e; cases e
  | ok x s2 =>
    rw [e1] at e
    have e' : ((mr s2).bind fun xs s2 => .ok (x :: xs) s2) = .ok ds s1 := e
    cases e2 : mr s2 with
    | no => rw [e2] at e'; cases e'
    | exc _ _ => rw [e2] at e'; cases e'
    | ok xs s3 =>
      rw [e2] at e'
      cases e'
      rw [List.length_cons, h _ _ _ e2]
theorem aNil_len : ∀ s ds s1, aNil s = .ok ds s1 → ds.length = 0 := by
  intro s ds s1 e
  cases e
  rfl

/-! ### keywords -/
theorem k_nil : PK X [] (tA X.K W aNil) := ⟨fun pos pins s σ H Q I h => by
  obtain ⟨f, w, s', st, p⟩ := h
  exact pk_nil.run pos pins s σ H Q I (p w H [] (Ext.refl _) st rfl)⟩
theorem k_cons {nm : Option Str} {kpos : Pos} {kws : List Keyword} {ma : M D} {mr : M (List D)} (ha : PE X e (tM X.K W ma)) (hr : PK X kws (tA X.K W mr)) : PK X (⟨nm, e, kpos⟩ :: kws) (tA X.K W (aCons ma mr)) := ⟨fun pos pins s σ H Q I h => by
  obtain ⟨f, w, s', st, p⟩ := h
  refine (pk_cons ha hr).run pos pins s σ H Q I ⟨f, w, s', st, Po.thn p fun x w1 s1 v H1 e1 st1 r1 p1 => ⟨f, w1, s1, st1, Po.thn p1 fun xs w2 s2 vs H2 e2 st2 r2 p2 => ?_⟩⟩
  exact p2 w2 H2 _ (Ext.refl _) st2 ⟨v, vs, rfl, Rep.mono e2 r1, r2⟩⟩

/-! ### a def's body -/
def outOf (x : SO) : RO := match x with
  | .nx s => .ok .non s.box
  | .rt d s => .ok d s.box
  | .exc e s => .exc e s.box
  | _ => .no
def s0 (N : List Str) (ds : List D) (b : Box) : S := { env := ds.map SV.d ++ List.replicate (N.length - ds.length) SV.no, box := b }
theorem st0 {K : PySem.W.Frag} {w : Wd} {H : Hp} {ds : List D} {vs : List V} {b : Box} (N : List Str) (h1 : Same w.F H) (h2 : RepAll K w ds vs) (h3 : ∀ p, w.bp = some p → H p = some (boxV b) ∧ w.F p = none) :
    StOk K ⟨H, w.F, w.bp, true⟩ w (s0 N ds b) (start N vs) H where
  sub := h1
  fr := fun a o e _ => e
  ff := fun a _ e => e
  f0 := Same.refl _
  bb := fun p e => e
  bf := fun _ => rfl
  len := by
    show (ds.map SV.d ++ List.replicate (N.length - ds.length) SV.no).length = (vs.map some ++ List.replicate (N.length - vs.length) none).length
    rw [List.length_append, List.length_append, List.length_map, List.length_map, List.length_replicate, List.length_replicate, h2.length]
  slot := fun i x e => by
    have e' : (ds.map SV.d ++ List.replicate (N.length - ds.length) SV.no)[i]? = some x := e
    by_cases hi : i < ds.length
    · rw [List.getElem?_append_left (by rw [List.length_map]; exact hi), List.getElem?_map, List.getElem?_eq_getElem hi] at e'
      cases e'
      obtain ⟨v, q1, q2⟩ := h2.get (List.getElem?_eq_getElem hi)
      refine ⟨v, ?_, q2⟩
      show ((vs.map some ++ List.replicate (N.length - vs.length) none)[i]?).join = some v
      rw [List.getElem?_append_left (by rw [List.length_map, h2.length]; exact hi), List.getElem?_map, q1]
      rfl
    · rw [List.getElem?_append_right (by rw [List.length_map]; omega)] at e'
      have := List.eq_of_mem_replicate (List.mem_of_getElem? e')
      rw [this]
      exact trivial
  bx := fun p e => ⟨(h3 p e).1, (h3 p e).2, .inl e⟩
  dist := fun i j x y p n e1 e2 o1 o2 => by
    have none_own : ∀ (i : Nat) (x : SV), (s0 N ds b).env[i]? = some x → x.own = false := fun i x e => by
      rcases List.mem_append.mp (List.mem_of_getElem? e) with m | m
      · obtain ⟨d, _, rfl⟩ := List.mem_map.mp m
        rfl
      · rw [List.eq_of_mem_replicate m]
        rfl
    rw [none_own i x e1] at o1
    cases o1
theorem body_end {P0 : MS → Prop} {K : PySem.W.Frag} {N : List Str} {F : Fn} {vs : List V} {H : Hp} {Q : VK} {E : XK} (h : spF K F n vs H Q E) (q : ∀ ds b, ds.length = n → F ds b ≠ .no → ∃ ms : MS, P0 ms ∧ outOf (ms (s0 N ds b)) = F ds b) :
    ∃ ms : MS, P0 ms ∧ tS K (fun c d _ H => E c d H) ms { nx := fun _ H' => Q .non H', rt := Q } (start N vs) H := by
  obtain ⟨ds, w, b, hn, h1, h2, h3, h4⟩ := h
  obtain ⟨ms, hp, hm⟩ := q ds b hn (fun e => by rw [e] at h4; exact h4)
  refine ⟨ms, hp, _, w, s0 N ds b, st0 N h1 h2 h3, ?_⟩
  rw [← hm] at h4
  cases em : ms (s0 N ds b) with
  | nx s' =>
    rw [em] at h4
    exact fun w' σ' H' e st => h4 w' H' .non e (StOk.endOk (vs := vs) (ds := ds) st) rfl
  | rt d s' =>
    rw [em] at h4
    exact fun w' σ' H' v e st r => h4 w' H' v e (StOk.endOk (vs := vs) (ds := ds) st) r
  | exc y s' =>
    rw [em] at h4
    exact fun w' σ' H' c dd e st r => h4 w' H' c dd e (StOk.endOk (vs := vs) (ds := ds) st) r
  | bk s' => rw [em] at h4; exact h4.elim
  | ct s' => rw [em] at h4; exact h4.elim
  | no => rw [em] at h4; exact h4.elim
end
/-- a body's context: all that a derivation leans on -/
structure Bd (X : Cx) (W : WX) (k : Nat) : Prop where
  tk : Takes X W
  po : PassesOwn (model X.prog X.w) X.A X.env X.xe
  hr : Room k X.A
section
variable {P : Program} {w : World} {K : PySem.W.Frag} {mg : Str → Option Value} {base : Heap}
theorem def_ok {x qual : Str} {st : Stmt} {f : Addr} {fd : FuncData} {N ps : List Str} {k : Nat} {G : Fn} (F : L2.Fun K x qual st f fd) (S : FnScope N ps (defScope st)) (n : Nat) (hn : ps.length = n)
    (body : ∀ ds b, ds.length = n → G ds b ≠ .no → ∃ ms : MS, (∀ (cdv : Value) (A : Around) (outer : List Env) (s : Shared) (H : Hp) (E : XK), Bd (cxOf (L2.CX P w) P w K mg base N qual (defScope st) f cdv A outer s H E) (fun c d _ H => E c d H) k →
      PSs (cxOf (L2.CX P w) P w K mg base N qual (defScope st) f cdv A outer s H E) (defBody st) (tS K (fun c d _ H => E c d H) ms)) ∧ outOf (ms (s0 N ds b)) = G ds b) :
    FnOk P w K mg base (L2.CX P w) (k + 1) f fd ps (spF K G n) := by
  refine F.okX S (fun vs H Q E h => ?_) fun cdv A outer s H vs Q E hr h => ?_
  · obtain ⟨ds, w, b, h1, _, h2, _⟩ := h
    rw [h2.length, h1, hn]
  · obtain ⟨ms, h1, h2⟩ := body_end (P0 := fun ms => ∀ (cdv : Value) (A : Around) (outer : List Env) (s : Shared) (H : Hp) (E : XK), Bd (cxOf (L2.CX P w) P w K mg base N qual (defScope st) f cdv A outer s H E) (fun c d _ H => E c d H) k →
      PSs (cxOf (L2.CX P w) P w K mg base N qual (defScope st) f cdv A outer s H E) (defBody st) (tS K (fun c d _ H => E c d H) ms)) (N := N) h body
    exact ⟨_, h1 cdv A outer s H E ⟨takes_of rfl rfl rfl rfl, passes_of rfl, hr⟩, h2⟩
end
end Pv
end PvJ_

section PvK_
set_option Elab.async false
set_option linter.all false
set_option maxRecDepth 100000
set_option maxHeartbeats 4000000
namespace Pv
open PySem PySem.Spec PyProof.Rows L2

/-! ### values that are only lent: a slot's own list stays its own -/
def RL (K : PySem.W.Frag) : Fm → Wd → S → L2.St → Hp → D → V → Prop := fun f w s σ H d v => Rep K w d v ∨ ∃ p vs xs, d = .lst xs ∧ v = .ref p ∧ H p = some (.lst vs) ∧ RepAll K w xs vs
abbrev tL (K : PySem.W.Frag) (W : WX) (m : M D) : TE := tG K W (RL K) m
def lend (i : Nat) : M D := fun s => match getS i s with
  | .d x => .ok x s
  | .o xs => .ok (.lst xs) s
  | .bx => .ok .box s
  | _ => .no
section
variable {K : PySem.W.Frag} {f : Fm} {w : Wd} {s : S} {σ : L2.St} {H : Hp}
theorem RL.lst {xs : List D} {v : V} (st : StOk K f w s σ H) (r : RL K f w s σ H (.lst xs) v) : ∃ p vs, v = .ref p ∧ H p = some (.lst vs) ∧ RepAll K w xs vs := by
  rcases r with ⟨p, vs, e1, e2, e3⟩ | ⟨p, vs, ys, e0, e1, e2, e3⟩
  · exact ⟨p, vs, e1, st.sub _ _ e2, e3⟩
  · cases e0
    exact ⟨p, vs, e1, e2, e3⟩
theorem RL.tup {xs : List D} {v : V} (st : StOk K f w s σ H) (r : RL K f w s σ H (.tup xs) v) : ∃ p vs, v = .ref p ∧ SqT K H p vs ∧ RepAll K w xs vs := by
  rcases r with ⟨p, vs, e1, e2, e3⟩ | ⟨p, vs, ys, e0, _⟩
  · exact ⟨p, vs, e1, st.tup e2, e3⟩
  · cases e0
theorem RL.rep {d : D} {v : V} (r : RL K f w s σ H d v) (h : ∀ xs, d ≠ .lst xs) : Rep K w d v := by
  rcases r with r | ⟨p, vs, ys, e0, _⟩
  · exact r
  · exact absurd e0 (h ys)
theorem StOk.scr {ns : List Int} {v : V} (st : StOk K f w s σ H) (r : Rep K w (.scr ns) v) : ∃ p, v = .ref p ∧ SqL K H p (ns.map V.int) := by
  obtain ⟨p, e1, e2⟩ := r
  exact ⟨p, e1, st.sub.seq e2⟩
end
section
variable {X : Cx} {W : WX} {e : Expr} {m : M D} {x : Str} {p pos : Pos} {id : String}
theorem q_lend (h : PE X e (tM X.K W m)) : PE X e (tL X.K W m) := by
  refine pe_imp h fun σ H Q ⟨f, w, s, st, q⟩ => ⟨f, w, s, st, ?_⟩
  cases em : m s with
  | ok a s1 => rw [em] at q; exact fun w' H' b e1 st1 r => q w' H' b e1 st1 (.inl r)
  | exc y s1 => rw [em] at q; exact q
  | no => rw [em] at q; exact q.elim
theorem q_lendN (i : Nat) {x : Str} {pos : Pos} (hN : X.N[i]? = some x := by rfl) (hv : Vis X.env.scope x := by first | exact Or.inl rfl | exact Or.inr (Or.inl rfl) | exact Or.inr (Or.inr rfl)) (hd : (x == ("__debug__" : Str)) = false := by decide)
    (hcd : (x == ("__classdict__" : Str)) = false := by decide) : PE X (.Name x pos) (tL X.K W (lend i)) := by
  refine pe_imp (pe_var hN hv hd hcd) fun σ H Q ⟨f, w, s, st, p⟩ => ?_
  unfold lend at p
  cases e : getS i s with
  | no => rw [e] at p; exact p.elim
  | d y =>
    rw [e] at p
    obtain ⟨u, e1, e2⟩ := st.slot i _ (getS_some e (fun z => nomatch z))
    exact ⟨u, join_some e1, p w H u (Ext.refl w) st (.inl e2)⟩
  | o xs =>
    rw [e] at p
    obtain ⟨q, vs, e1, e2, e3, e4, e5, e6⟩ := st.slot i _ (getS_some e (fun z => nomatch z))
    exact ⟨_, join_some e1, p w H _ (Ext.refl w) st (.inr ⟨q, vs, xs, rfl, rfl, e2, e3⟩)⟩
  | bx =>
    rw [e] at p
    obtain ⟨q, e1, e2⟩ := st.slot i _ (getS_some e (fun z => nomatch z))
    exact ⟨_, join_some e1, p w H _ (Ext.refl w) st (.inl ⟨q, rfl, e2⟩)⟩
  | ok xs => rw [e] at p; exact p.elim
  | ot xs => rw [e] at p; exact p.elim
def mLst (m : M (List D)) : M D := fun s => (m s).bind fun xs s1 => .ok (.lst xs) s1
theorem q_lendF {m : M (List D)} (h : PE X e (tF X.K W m)) : PE X e (tL X.K W (mLst m)) := by
  refine pe_imp h fun σ H Q ⟨f, w, s, st, q⟩ => ⟨f, w, s, st, Po.thn q fun xs w1 s1 v H1 e1 st1 r1 p1 => ?_⟩
  obtain ⟨a, vs, rfl, h1, h2, _⟩ := r1
  exact p1 w1 H1 _ (Ext.refl _) st1 (.inr ⟨a, vs, xs, rfl, rfl, h1, h2⟩)

/-! ### a built-in of one lent value -/
def mB1 (g : D → Option D) (m : M D) : M D := fun s => (m s).bind fun x s1 => ofO (g x) s1
def mB1F (g : D → Option (List D)) (m : M D) : M (List D) := fun s => (m s).bind fun x s1 => ofO (g x) s1
def B1 (K : PySem.W.Frag) (r : List V → Hp → VK → Prop) (g : D → Option D) : Prop := ∀ (f : Fm) (w : Wd) (s : S) (σ : L2.St) (H : Hp) (d z : D) (v : V) (Q : VK), StOk K f w s σ H → RL K f w s σ H d v → g d = some z →
  (∀ w' H' t, Ext w w' → StOk K f w' s σ H' → Rep K w' z t → Q t H') → r [v] H Q
def B1F (K : PySem.W.Frag) (r : List V → Hp → VK → Prop) (g : D → Option (List D)) : Prop := ∀ (f : Fm) (w : Wd) (s : S) (σ : L2.St) (H : Hp) (d : D) (z : List D) (v : V) (Q : VK), StOk K f w s σ H → RL K f w s σ H d v → g d = some z →
  (∀ w' H' t, Ext w w' → StOk K f w' s σ H' → RF K f w' s σ H' z t → Q t H') → r [v] H Q
def tL1 (K : PySem.W.Frag) (W : WX) (m : M D) : TA := tG K W (fun f w s σ H d vs => ∃ v, vs = [v] ∧ RL K f w s σ H d v) m
theorem a_lend (h : PE X e (tL X.K W m)) (hs : starEach [e] X.env = (false, eval e X.env) :: starEach [] X.env := by rfl) : PA X [e] (tL1 X.K W m) := by
  refine pa_imp (pa_cons h pa_nil hs) fun σ H Q ⟨f, w, s, st, q⟩ => ⟨f, w, s, st, ?_⟩
  cases em : m s with
  | ok a s1 => rw [em] at q; exact fun w' H' b e1 st1 r => q w' H' [b] e1 st1 ⟨b, rfl, r⟩
  | exc y s1 => rw [em] at q; exact q
  | no => rw [em] at q; exact q.elim
variable {r : List V → Hp → VK → Prop}
theorem c_1 {g : D → Option D} (hb : B1 X.K r g) : ∀ σ H Q, tM X.K W (mB1 g m) σ H Q → tCB r (tL1 X.K W m) σ H Q := fun σ H Q ⟨f, w, s, st, q⟩ => by
  refine ⟨f, w, s, st, Po.thn q fun x w1 s1 vs H1 e1 st1 r1 p1 => ?_⟩
  obtain ⟨v, rfl, r1⟩ := r1
  obtain ⟨z, ez, pz⟩ := p1.ofO
  exact hb f w1 s1 σ H1 x z v Q st1 r1 ez pz
theorem c_1F {g : D → Option (List D)} (hb : B1F X.K r g) : ∀ σ H Q, tF X.K W (mB1F g m) σ H Q → tCB r (tL1 X.K W m) σ H Q := fun σ H Q ⟨f, w, s, st, q⟩ => by
  refine ⟨f, w, s, st, Po.thn q fun x w1 s1 vs H1 e1 st1 r1 p1 => ?_⟩
  obtain ⟨v, rfl, r1⟩ := r1
  obtain ⟨z, ez, pz⟩ := p1.ofO
  exact hb f w1 s1 σ H1 x z v Q st1 r1 ez pz
theorem CallR.or {c : Value} {r r' : List V → Hp → VK → Prop} (h : CallR X c r) (h' : CallR X c r') : CallR X c (fun vs H Q => r vs H Q ∨ r' vs H Q) := by
  intro pins s σ H xs us Q I rr q
  rcases q with q | q
  · exact h pins s σ H xs us Q I rr q
  · exact h' pins s σ H xs us Q I rr q

/-! ### len -/
def dLen : D → Option D
  | .lst xs => some (.int xs.length)
  | .tup xs => some (.int xs.length)
  | .str z => if z.length ≤ sizeLine then some (.int z.length) else none
  | .scr ns => some (.int ns.length)
  | _ => none
theorem len_ok {K : PySem.W.Frag} : B1 K (fun xs H Q => ∃ x n, xs = [x] ∧ LenV K x H n ∧ Q (.int (n : Nat)) H) dLen := by
  intro f w s σ H d z v Q st rv ez q
  unfold dLen at ez
  split at ez
  · cases ez
    obtain ⟨p, vs, rfl, h1, h2⟩ := rv.lst st
    exact ⟨_, _, rfl, .inl ⟨vs, .inl (.inl h1), rfl⟩, q w H _ (Ext.refl w) st (by show _ = _; rw [h2.length])⟩
  · cases ez
    obtain ⟨p, vs, rfl, h1, h2⟩ := rv.tup st
    exact ⟨_, _, rfl, .inr ⟨vs, h1, rfl⟩, q w H _ (Ext.refl w) st (by show _ = _; rw [h2.length])⟩
  · split at ez
    · rename_i hz
      cases ez
      have hv := rv.rep (fun _ z => nomatch z)
      exact ⟨_, _, rfl, by rw [show v = _ from hv]; exact ⟨hz, rfl⟩, q w H _ (Ext.refl w) st rfl⟩
    · cases ez
  · cases ez
    obtain ⟨p, rfl, h1⟩ := st.scr (rv.rep (fun _ z => nomatch z))
    exact ⟨_, _, rfl, .inl ⟨_, h1, rfl⟩, q w H _ (Ext.refl w) st (by show _ = _; rw [List.length_map])⟩
  · cases ez
theorem q_len {m : M D} (hg : Gl X "len") (hm : X.mg "len" = none) (ha : PE X e (tL X.K W m)) (he : starEach [e] X.env = (false, eval e X.env) :: starEach [] X.env := by rfl) (hpl : (backTo pos (starEach [] X.env)).any (·.1) = false := by rfl) :
    PE X (.Call (.Name "len" p) [e] [] pos) (tM X.K W (mB1 dLen m)) :=
  pe_imp (pe_callB call_len hg hm (by decide +kernel) (a_lend ha he) (he := he) (hpl := hpl)) (c_1 len_ok)
end
end Pv
end PvK_

section PvL_
set_option Elab.async false
set_option linter.all false
set_option maxRecDepth 100000
set_option maxHeartbeats 4000000
namespace Pv
open PySem PySem.Spec PyProof.Rows L2

/-! ### max, min, sum of a tuple of ints -/
section
variable {P : Program} {w : World} {A : Around} {E : Value → Shared → Prop} {s : Shared} {l : Addr} {its : List Value} {ns : List Int} {Q : Value → Shared → Prop}
theorem tup_walked {xs : Array (Int × Tok)} {Qi : Value → Shared → Prop} (hl : s.heap.IsTuple l (intItems xs))
    (h : ∀ s₂ : Shared, (∃ o : Obj, s₂ = { s with heap := s.heap.push o }) → (s₂.heap.IsTupleIter s.heap.objs.size l 0 ∧ s₂.heap.IsTuple l (intItems xs)) → (∀ b ∈ [s.heap.objs.size, l], b < s₂.heap.objs.size) → l ≠ s.heap.objs.size →
      Qi (.ref s.heap.objs.size) s₂) : wpAny (model P w) A (pyIter (.ref l)) Qi E s := by
  obtain ⟨o, eo, rest⟩ := id hl
  have small : l < s.heap.objs.size := Heap.lt_size eo
  refine wpAny_pyIter_tuple hl (h _ ⟨_, rfl⟩ (And.intro ⟨_, Heap.get?_push_size _ rfl, rfl, rfl⟩ (hl.push _)) (fun b mem => ?_) (Nat.ne_of_lt small))
  show b < (s.heap.push _).objs.size
  rw [Heap.size_push]
  have two : b = s.heap.objs.size ∨ b = l := by simpa using mem
  rcases two with z | z
  · rw [z]; exact Nat.lt_succ_self _
  · rw [z]; exact Nat.lt_succ_of_lt small
theorem still_there {o : Obj} {h' : Heap} (hk : ∀ b u, b ∉ [s.heap.objs.size] → (s.heap.push o).get? b = some u → h'.get? b = some u) (b : Addr) (u : Obj) (e : s.heap.get? b = some u) : h'.get? b = some u := by
  have lt := Heap.lt_size e
  exact hk b u (fun mem => Nat.ne_of_lt lt (List.mem_singleton.mp mem)) (Heap.get?_push_of_some _ e)
theorem sum_tup (hh : A.handled = none) (hl : s.heap.IsTuple l its.toArray) (hi : IntsAre its ns) (h : ∀ h' tk t', (∀ b o, s.heap.get? b = some o → h'.get? b = some o) → Q (.int ns.sum t') { s with heap := h', toks := tk }) :
    wpAny (model P w) A (call (.builtin "sum") [.ref l]) Q E s := by
  obtain ⟨xs, ex⟩ := hi.allInts.items
  have hn : xs.toList.map (·.1) = ns := by rw [← nums_intItems, ← ex]; exact hi.numsOf
  rw [ex] at hl
  refine call_sum_walkG (tup_walked hl fun s₂ ⟨o, e2⟩ st fp ne => ?_)
  subst e2
  refine ⟨_, _, _, _, _, _, numAt xs, rfl, Walks.tuple (A := A.in1) hh _ l ne (intItems xs), st, fp, fun _ _ => intItems_at, fun h' tk t' hk => ?_⟩
  have g := h h' tk t' (still_there hk)
  have z : preSum (numAt xs) (intItems xs).size = ns.sum := by
    rw [preSum_eq, List.take_of_length_le (by simp [intItems]), hn]
  rw [z]
  exact g
theorem max_tup (hh : A.handled = none) (hl : s.heap.IsTuple l its.toArray) (hi : IntsAre its ns) (hne : 0 < ns.length)
    (h : ∀ h' tk m t', (∀ b o, s.heap.get? b = some o → h'.get? b = some o) → m ∈ ns → (∀ a, a ∈ ns → a ≤ m) → Q (.int m t') { s with heap := h', toks := tk }) : wpAny (model P w) A (call (.builtin "max") [.ref l]) Q E s := by
  obtain ⟨xs, ex⟩ := hi.allInts.items
  have hn : xs.toList.map (·.1) = ns := by rw [← nums_intItems, ← ex]; exact hi.numsOf
  rw [ex] at hl
  have size : xs.size = ns.length := by rw [← hn]; simp
  have isz : (intItems xs).size = xs.size := by simp [intItems]
  refine call_max_walk (tup_walked hl fun s₂ ⟨o, e2⟩ st fp ne => ?_)
  subst e2
  refine ⟨_, _, _, _, _, _, _, rfl, Walks.tuple (A := A.in1) hh _ l ne (intItems xs), st, fp, by rw [isz, size]; exact hne, CmpOf.ints_gt (numAt xs) fun _ _ => intItems_at, fun v h' tk hP hk => ?_⟩
  obtain ⟨t, rfl⟩ := intItems_at hP
  rw [isz]
  have best := argBest_gt (numAt xs) (xs.size - 1)
  refine h h' tk _ t (still_there hk) ?_ fun a ma => ?_
  · rw [numAt_eq, hn]
    exact PySem.getD_mem (by omega)
  · obtain ⟨j, lt, rfl⟩ := mem_getD ma
    have := best.2 j (by omega)
    rw [← hn, ← numAt_eq]
    exact this
theorem min_tup (hh : A.handled = none) (hl : s.heap.IsTuple l its.toArray) (hi : IntsAre its ns) (hne : 0 < ns.length)
    (h : ∀ h' tk m t', (∀ b o, s.heap.get? b = some o → h'.get? b = some o) → m ∈ ns → (∀ a, a ∈ ns → m ≤ a) → Q (.int m t') { s with heap := h', toks := tk }) : wpAny (model P w) A (call (.builtin "min") [.ref l]) Q E s := by
  obtain ⟨xs, ex⟩ := hi.allInts.items
  have hn : xs.toList.map (·.1) = ns := by rw [← nums_intItems, ← ex]; exact hi.numsOf
  rw [ex] at hl
  have size : xs.size = ns.length := by rw [← hn]; simp
  have isz : (intItems xs).size = xs.size := by simp [intItems]
  refine call_min_walk (tup_walked hl fun s₂ ⟨o, e2⟩ st fp ne => ?_)
  subst e2
  refine ⟨_, _, _, _, _, _, _, rfl, Walks.tuple (A := A.in1) hh _ l ne (intItems xs), st, fp, by rw [isz, size]; exact hne, CmpOf.ints_lt (numAt xs) fun _ _ => intItems_at, fun v h' tk hP hk => ?_⟩
  obtain ⟨t, rfl⟩ := intItems_at hP
  rw [isz]
  have best := argBest_lt (numAt xs) (xs.size - 1)
  refine h h' tk _ t (still_there hk) ?_ fun a ma => ?_
  · rw [numAt_eq, hn]
    exact PySem.getD_mem (by omega)
  · obtain ⟨j, lt, rfl⟩ := mem_getD ma
    have := best.2 j (by omega)
    rw [← hn, ← numAt_eq]
    exact this
end
section
variable {X : Cx}
def rSumT (K : PySem.W.Frag) : List V → Hp → VK → Prop := fun vs H Q => ∃ (a : Addr) (ns : List Int), vs = [V.ref a] ∧ SqT K H a (ns.map V.int) ∧ Q (.int ns.sum) H
def rMaxT (K : PySem.W.Frag) : List V → Hp → VK → Prop := fun vs H Q => ∃ (a : Addr) (ns : List Int), vs = [V.ref a] ∧ SqT K H a (ns.map V.int) ∧ 0 < ns.length ∧ ∀ m, m ∈ ns → (∀ y, y ∈ ns → y ≤ m) → Q (.int m) H
def rMinT (K : PySem.W.Frag) : List V → Hp → VK → Prop := fun vs H Q => ∃ (a : Addr) (ns : List Int), vs = [V.ref a] ∧ SqT K H a (ns.map V.int) ∧ 0 < ns.length ∧ ∀ m, m ∈ ns → (∀ y, y ∈ ns → m ≤ y) → Q (.int m) H
theorem cr_sumT (hc : X.calm = true) : CallR X (.builtin "sum") (rSumT X.K) := by
  intro pins s σ H vs us Q I r ⟨a, ns, e, hs, q⟩
  subst e
  obtain ⟨its, rv, ht, _⟩ := I.tuple hs
  rw [Vals.ref1 r]
  exact sum_tup (I.ok.hd hc) (show s.heap.IsTuple a its.toArray from ht) rv.ints fun h' tk t' hk => ⟨V.int _, H, I.kept hk, ⟨_, rfl⟩, q⟩
theorem cr_maxT (hc : X.calm = true) : CallR X (.builtin "max") (rMaxT X.K) := by
  intro pins s σ H vs us Q I r ⟨a, ns, e, hs, hne, q⟩
  subst e
  obtain ⟨its, rv, ht, _⟩ := I.tuple hs
  rw [Vals.ref1 r]
  exact max_tup (I.ok.hd hc) (show s.heap.IsTuple a its.toArray from ht) rv.ints hne fun h' tk m t' hk h1 h2 => ⟨V.int _, H, I.kept hk, ⟨_, rfl⟩, q m h1 h2⟩
theorem cr_minT (hc : X.calm = true) : CallR X (.builtin "min") (rMinT X.K) := by
  intro pins s σ H vs us Q I r ⟨a, ns, e, hs, hne, q⟩
  subst e
  obtain ⟨its, rv, ht, _⟩ := I.tuple hs
  rw [Vals.ref1 r]
  exact min_tup (I.ok.hd hc) (show s.heap.IsTuple a its.toArray from ht) rv.ints hne fun h' tk m t' hk h1 h2 => ⟨V.int _, H, I.kept hk, ⟨_, rfl⟩, q m h1 h2⟩
end

/-! ### data that are all ints, truths, texts -/
def intsD : List D → Option (List Int)
  | [] => some []
  | .int i :: r => (intsD r).map (i :: ·)
  | _ :: _ => none
def blsD : List D → Option (List Bool)
  | [] => some []
  | .bl i :: r => (blsD r).map (i :: ·)
  | _ :: _ => none
def strsD : List D → Option (List Str)
  | [] => some []
  | .str i :: r => (strsD r).map (i :: ·)
  | _ :: _ => none
theorem intsD_eq : ∀ {xs : List D} {ns : List Int}, intsD xs = some ns → xs = ns.map D.int
  | [], ns, h => by cases h; rfl
  | .int i :: r, ns, h => by
    have h' : (intsD r).map (i :: ·) = some ns := h
    cases e : intsD r with
    | none => rw [e] at h'; cases h'
    | some m => rw [e] at h'; cases h'; rw [intsD_eq e]; rfl
theorem blsD_eq : ∀ {xs : List D} {ns : List Bool}, blsD xs = some ns → xs = ns.map D.bl
  | [], ns, h => by cases h; rfl
  | .bl i :: r, ns, h => by
    have h' : (blsD r).map (i :: ·) = some ns := h
    cases e : blsD r with
    | none => rw [e] at h'; cases h'
    | some m => rw [e] at h'; cases h'; rw [blsD_eq e]; rfl
theorem strsD_eq : ∀ {xs : List D} {ns : List Str}, strsD xs = some ns → xs = ns.map D.str
  | [], ns, h => by cases h; rfl
  | .str i :: r, ns, h => by
    have h' : (strsD r).map (i :: ·) = some ns := h
    cases e : strsD r with
    | none => rw [e] at h'; cases h'
    | some m => rw [e] at h'; cases h'; rw [strsD_eq e]; rfl
@[simp] theorem intsD_map : ∀ (ns : List Int), intsD (ns.map D.int) = some ns
  | [] => rfl
  | n :: ns => by show (intsD (ns.map D.int)).map (n :: ·) = _; rw [intsD_map ns]; rfl
@[simp] theorem blsD_map : ∀ (ns : List Bool), blsD (ns.map D.bl) = some ns
  | [] => rfl
  | n :: ns => by show (blsD (ns.map D.bl)).map (n :: ·) = _; rw [blsD_map ns]; rfl
@[simp] theorem strsD_map : ∀ (ns : List Str), strsD (ns.map D.str) = some ns
  | [] => rfl
  | n :: ns => by show (strsD (ns.map D.str)).map (n :: ·) = _; rw [strsD_map ns]; rfl

/-- the greatest of a list, the least -/
def maxL : List Int → Option Int
  | [] => none
  | a :: r => some (r.foldl max a)
def minL : List Int → Option Int
  | [] => none
  | a :: r => some (r.foldl min a)
theorem foldl_max_ge : ∀ (r : List Int) (a : Int), a ≤ r.foldl max a ∧ ∀ y ∈ r, y ≤ r.foldl max a
  | [], a => ⟨Int.le_refl _, fun _ h => by cases h⟩
  | b :: r, a => by
    obtain ⟨h1, h2⟩ := foldl_max_ge r (max a b)
    refine ⟨by show a ≤ r.foldl max (max a b); omega, fun y hy => ?_⟩
    show y ≤ r.foldl max (max a b)
    rcases List.mem_cons.mp hy with z | z
    · omega
    · exact h2 y z
theorem foldl_max_mem : ∀ (r : List Int) (a : Int), r.foldl max a ∈ a :: r
  | [], a => by simp
  | b :: r, a => by
    have h := foldl_max_mem r (max a b)
    show r.foldl max (max a b) ∈ _
    rcases List.mem_cons.mp h with z | z
    · rw [z]
      rcases Int.le_total a b with q | q
      · rw [Int.max_eq_right q]; simp
      · rw [Int.max_eq_left q]; simp
    · simp [z]
theorem foldl_min_le : ∀ (r : List Int) (a : Int), r.foldl min a ≤ a ∧ ∀ y ∈ r, r.foldl min a ≤ y
  | [], a => ⟨Int.le_refl _, fun _ h => by cases h⟩
  | b :: r, a => by
    obtain ⟨h1, h2⟩ := foldl_min_le r (min a b)
    refine ⟨by show r.foldl min (min a b) ≤ a; omega, fun y hy => ?_⟩
    show r.foldl min (min a b) ≤ y
    rcases List.mem_cons.mp hy with z | z
    · omega
    · exact h2 y z
theorem foldl_min_mem : ∀ (r : List Int) (a : Int), r.foldl min a ∈ a :: r
  | [], a => by simp
  | b :: r, a => by
    have h := foldl_min_mem r (min a b)
    show r.foldl min (min a b) ∈ _
    rcases List.mem_cons.mp h with z | z
    · rw [z]
      rcases Int.le_total a b with q | q
      · rw [Int.min_eq_left q]; simp
      · rw [Int.min_eq_right q]; simp
    · simp [z]
theorem maxL_spec {ns : List Int} {m : Int} (h : maxL ns = some m) : m ∈ ns ∧ ∀ y ∈ ns, y ≤ m := by
  cases ns with
  | nil => cases h
  | cons a r =>
    cases h
    obtain ⟨h1, h2⟩ := foldl_max_ge r a
    exact ⟨foldl_max_mem r a, fun y hy => by rcases List.mem_cons.mp hy with z | z; · rw [z]; exact h1
                                             · exact h2 y z⟩
theorem minL_spec {ns : List Int} {m : Int} (h : minL ns = some m) : m ∈ ns ∧ ∀ y ∈ ns, m ≤ y := by
  cases ns with
  | nil => cases h
  | cons a r =>
    cases h
    obtain ⟨h1, h2⟩ := foldl_min_le r a
    exact ⟨foldl_min_mem r a, fun y hy => by rcases List.mem_cons.mp hy with z | z; · rw [z]; exact h1
                                             · exact h2 y z⟩
theorem maxL_of {ns : List Int} {m : Int} (h1 : m ∈ ns) (h2 : ∀ y ∈ ns, y ≤ m) : maxL ns = some m := by
  cases e : maxL ns with
  | none =>
    cases ns with
    | nil => cases h1
    | cons a r => cases e
  | some k =>
    obtain ⟨q1, q2⟩ := maxL_spec e
    have := h2 k q1
    have := q2 m h1
    congr 1
    omega
theorem minL_of {ns : List Int} {m : Int} (h1 : m ∈ ns) (h2 : ∀ y ∈ ns, m ≤ y) : minL ns = some m := by
  cases e : minL ns with
  | none =>
    cases ns with
    | nil => cases h1
    | cons a r => cases e
  | some k =>
    obtain ⟨q1, q2⟩ := minL_spec e
    have := h2 k q1
    have := q2 m h1
    congr 1
    omega

/-! ### their built-ins over data -/
def itemsD : D → Option (List D)
  | .lst xs => some xs
  | .tup xs => some xs
  | _ => none
def dSum (d : D) : Option D := ((itemsD d).bind intsD).map fun ns => .int ns.sum
def dMax (d : D) : Option D := (((itemsD d).bind intsD).bind maxL).map .int
def dMin (d : D) : Option D := (((itemsD d).bind intsD).bind minL).map .int
section
variable {K : PySem.W.Frag} {f : Fm} {w : Wd} {s : S} {σ : L2.St} {H : Hp}
/-- a lent list or tuple of ints -/
theorem RL.ints {d : D} {v : V} {xs : List D} {ns : List Int} (st : StOk K f w s σ H) (r : RL K f w s σ H d v) (e1 : itemsD d = some xs) (e2 : intsD xs = some ns) :
    ∃ p, v = .ref p ∧ (SqL K H p (ns.map V.int) ∨ SqT K H p (ns.map V.int)) := by
  have := intsD_eq e2
  subst this
  cases d with
  | lst ys =>
    cases e1
    obtain ⟨p, vs, rfl, h1, h2⟩ := r.lst st
    rw [h2.ints] at h1
    exact ⟨p, rfl, .inl (.inl (.inl h1))⟩
  | tup ys =>
    cases e1
    obtain ⟨p, vs, rfl, h1, h2⟩ := r.tup st
    rw [h2.ints] at h1
    exact ⟨p, rfl, .inr h1⟩
  | _ => cases e1
theorem sum_ok : B1 K (fun vs H Q => rSum K vs H Q ∨ rSumT K vs H Q) dSum := by
  intro f w s σ H d z v Q st rv ez q
  unfold dSum at ez
  cases e1 : itemsD d with
  | none => rw [e1] at ez; cases ez
  | some xs =>
    rw [e1] at ez
    cases e2 : intsD xs with
    | none => simp [e2] at ez
    | some ns =>
      simp [e2] at ez
      subst ez
      obtain ⟨p, rfl, h | h⟩ := rv.ints st e1 e2
      · exact .inl ⟨p, ns, rfl, h, q w H _ (Ext.refl w) st rfl⟩
      · exact .inr ⟨p, ns, rfl, h, q w H _ (Ext.refl w) st rfl⟩
theorem max_ok : B1 K (fun vs H Q => rMax K vs H Q ∨ rMaxT K vs H Q) dMax := by
  intro f w s σ H d z v Q st rv ez q
  unfold dMax at ez
  cases e1 : itemsD d with
  | none => rw [e1] at ez; cases ez
  | some xs =>
    rw [e1] at ez
    cases e2 : intsD xs with
    | none => simp [e2] at ez
    | some ns =>
      simp [e2] at ez
      obtain ⟨m, em, rfl⟩ := ez
      obtain ⟨h1, h2⟩ := maxL_spec em
      have ne : 0 < ns.length := List.length_pos_of_mem h1
      have eq : ∀ k, k ∈ ns → (∀ y, y ∈ ns → y ≤ k) → k = m := fun k a b => by
        have := b m h1
        have := h2 k a
        omega
      obtain ⟨p, rfl, h | h⟩ := rv.ints st e1 e2
      · exact .inl ⟨p, ns, rfl, h, ne, fun k a b => by rw [eq k a b]; exact q w H _ (Ext.refl w) st rfl⟩
      · exact .inr ⟨p, ns, rfl, h, ne, fun k a b => by rw [eq k a b]; exact q w H _ (Ext.refl w) st rfl⟩
theorem min_ok : B1 K (fun vs H Q => rMin K vs H Q ∨ rMinT K vs H Q) dMin := by
  intro f w s σ H d z v Q st rv ez q
  unfold dMin at ez
  cases e1 : itemsD d with
  | none => rw [e1] at ez; cases ez
  | some xs =>
    rw [e1] at ez
    cases e2 : intsD xs with
    | none => simp [e2] at ez
    | some ns =>
      simp [e2] at ez
      obtain ⟨m, em, rfl⟩ := ez
      obtain ⟨h1, h2⟩ := minL_spec em
      have ne : 0 < ns.length := List.length_pos_of_mem h1
      have eq : ∀ k, k ∈ ns → (∀ y, y ∈ ns → k ≤ y) → k = m := fun k a b => by
        have := b m h1
        have := h2 k a
        omega
      obtain ⟨p, rfl, h | h⟩ := rv.ints st e1 e2
      · exact .inl ⟨p, ns, rfl, h, ne, fun k a b => by rw [eq k a b]; exact q w H _ (Ext.refl w) st rfl⟩
      · exact .inr ⟨p, ns, rfl, h, ne, fun k a b => by rw [eq k a b]; exact q w H _ (Ext.refl w) st rfl⟩
def dAll (d : D) : Option D := match d with
  | .lst xs => (blsD xs).map fun bs => .bl (bs.all id)
  | _ => none
def dAny (d : D) : Option D := match d with
  | .lst xs => (blsD xs).map fun bs => .bl (bs.any id)
  | _ => none
theorem all_ok : B1 K (rAll K) dAll := by
  intro f w s σ H d z v Q st rv ez q
  unfold dAll at ez
  split at ez
  · rename_i xs
    cases e : blsD xs with
    | none => rw [e] at ez; cases ez
    | some bs =>
      rw [e] at ez
      cases ez
      have := blsD_eq e
      subst this
      obtain ⟨p, vs, rfl, h1, h2⟩ := rv.lst st
      rw [h2.bls] at h1
      exact ⟨p, bs, rfl, .inl (.inl h1), q w H _ (Ext.refl w) st rfl⟩
  · cases ez
theorem any_ok : B1 K (rAny K) dAny := by
  intro f w s σ H d z v Q st rv ez q
  unfold dAny at ez
  split at ez
  · rename_i xs
    cases e : blsD xs with
    | none => rw [e] at ez; cases ez
    | some bs =>
      rw [e] at ez
      cases ez
      have := blsD_eq e
      subst this
      obtain ⟨p, vs, rfl, h1, h2⟩ := rv.lst st
      rw [h2.bls] at h1
      exact ⟨p, bs, rfl, .inl (.inl h1), q w H _ (Ext.refl w) st rfl⟩
  · cases ez
/-- tuple(x), list(x) -/
def dTuple (d : D) : Option D := match d with
  | .lst xs => some (.tup xs)
  | .tup xs => some (.tup xs)
  | _ => none
theorem tuple_ok : B1 K (fun xs H Q => ∃ p ys, xs = [V.ref p] ∧ ((SqL K H p ys ∧ ∀ (l : Addr), H l = none → Q (V.ref l) (upd H l (HO.tup ys))) ∨ SqT K H p ys ∧ Q (V.ref p) H)) dTuple := by
  intro f w s σ H d z v Q st rv ez q
  unfold dTuple at ez
  split at ez
  · cases ez
    obtain ⟨p, vs, rfl, h1, h2⟩ := rv.lst st
    exact ⟨p, vs, rfl, .inl ⟨.inl (.inl h1), st.newT h2 q⟩⟩
  · cases ez
    obtain ⟨p, vs, e1, h1, h2⟩ := rv.rep (fun _ z => nomatch z)
    subst e1
    exact ⟨p, vs, rfl, .inr ⟨st.tup h1, q w H _ (Ext.refl w) st ⟨p, vs, rfl, h1, h2⟩⟩⟩
  · cases ez
def dList (d : D) : Option (List D) := match d with
  | .lst xs => some xs
  | .tup xs => some xs
  | .scr ns => some (ns.map .int)
  | _ => none
theorem list_ok : B1F K (fun xs H Q => ∃ p ys, xs = [V.ref p] ∧ (SqL K H p ys ∨ SqT K H p ys) ∧ ∀ (l : Addr), H l = none → Q (V.ref l) (upd H l (HO.lst ys))) dList := by
  intro f w s σ H d z v Q st rv ez q
  unfold dList at ez
  split at ez
  · cases ez
    obtain ⟨p, vs, rfl, h1, h2⟩ := rv.lst st
    exact ⟨p, vs, rfl, .inl (.inl (.inl h1)), st.newF h2 q⟩
  · cases ez
    obtain ⟨p, vs, rfl, h1, h2⟩ := rv.tup st
    exact ⟨p, vs, rfl, .inr h1, st.newF h2 q⟩
  · cases ez
    obtain ⟨p, rfl, h1⟩ := st.scr (rv.rep (fun _ z => nomatch z))
    exact ⟨p, _, rfl, .inl h1, st.newF (RepAll.of_ints _) q⟩
  · cases ez
def dAbs (d : D) : Option D := match d with
  | .int i => some (.int (if i < 0 then -i else i))
  | _ => none
def dInt (d : D) : Option D := match d with
  | .int i => some (.int i)
  | .bl k => some (.int (if k = true then 1 else 0))
  | _ => none
def dStr (d : D) : Option D := match d with
  | .int i => if i.natAbs.log2 < 1920 then some (.str (Str.ofString (toString i))) else none
  | _ => none
theorem abs_ok : B1 K (fun xs H Q => ∃ i, xs = [V.int i] ∧ Q (V.int (if i < 0 then -i else i)) H) dAbs := by
  intro f w s σ H d z v Q st rv ez q
  unfold dAbs at ez
  split at ez
  · cases ez
    have hv := rv.rep (fun _ z => nomatch z)
    exact ⟨_, by rw [show v = _ from hv], q w H _ (Ext.refl w) st rfl⟩
  · cases ez
theorem int_ok : B1 K (fun xs H Q => (∃ i, xs = [V.int i] ∧ Q (V.int i) H) ∨ ∃ k, xs = [V.bl k] ∧ Q (V.int (if k = true then 1 else 0)) H) dInt := by
  intro f w s σ H d z v Q st rv ez q
  unfold dInt at ez
  split at ez
  · cases ez
    have hv := rv.rep (fun _ z => nomatch z)
    exact .inl ⟨_, by rw [show v = _ from hv], q w H _ (Ext.refl w) st rfl⟩
  · cases ez
    have hv := rv.rep (fun _ z => nomatch z)
    exact .inr ⟨_, by rw [show v = _ from hv], q w H _ (Ext.refl w) st rfl⟩
  · cases ez
theorem str_ok : B1 K (fun xs H Q => ∃ i, xs = [V.int i] ∧ i.natAbs.log2 < 1920 ∧ Q (V.str (Str.ofString (toString i))) H) dStr := by
  intro f w s σ H d z v Q st rv ez q
  unfold dStr at ez
  split at ez
  · split at ez
    · rename_i hz
      cases ez
      have hv := rv.rep (fun _ z => nomatch z)
      exact ⟨_, by rw [show v = _ from hv], hz, q w H _ (Ext.refl w) st rfl⟩
    · cases ez
  · cases ez
end
section
variable {X : Cx} {W : WX} {e : Expr} {m : M D} {p pos : Pos}
theorem q_sum (hc : X.calm = true) (hg : Gl X "sum") (hm : X.mg "sum" = none) (ha : PE X e (tL X.K W m)) (he : starEach [e] X.env = (false, eval e X.env) :: starEach [] X.env := by rfl) (hpl : (backTo pos (starEach [] X.env)).any (·.1) = false := by rfl) :
    PE X (.Call (.Name "sum" p) [e] [] pos) (tM X.K W (mB1 dSum m)) := pe_imp (pe_callB ((cr_sum hc).or (cr_sumT hc)) hg hm (by decide +kernel) (a_lend ha he) (he := he) (hpl := hpl)) (c_1 sum_ok)
theorem q_max (hc : X.calm = true) (hg : Gl X "max") (hm : X.mg "max" = none) (ha : PE X e (tL X.K W m)) (he : starEach [e] X.env = (false, eval e X.env) :: starEach [] X.env := by rfl) (hpl : (backTo pos (starEach [] X.env)).any (·.1) = false := by rfl) :
    PE X (.Call (.Name "max" p) [e] [] pos) (tM X.K W (mB1 dMax m)) := pe_imp (pe_callB ((cr_max hc).or (cr_maxT hc)) hg hm (by decide +kernel) (a_lend ha he) (he := he) (hpl := hpl)) (c_1 max_ok)
theorem q_min (hc : X.calm = true) (hg : Gl X "min") (hm : X.mg "min" = none) (ha : PE X e (tL X.K W m)) (he : starEach [e] X.env = (false, eval e X.env) :: starEach [] X.env := by rfl) (hpl : (backTo pos (starEach [] X.env)).any (·.1) = false := by rfl) :
    PE X (.Call (.Name "min" p) [e] [] pos) (tM X.K W (mB1 dMin m)) := pe_imp (pe_callB ((cr_min hc).or (cr_minT hc)) hg hm (by decide +kernel) (a_lend ha he) (he := he) (hpl := hpl)) (c_1 min_ok)
theorem q_all (hc : X.calm = true) (hg : Gl X "all") (hm : X.mg "all" = none) (ha : PE X e (tL X.K W m)) (he : starEach [e] X.env = (false, eval e X.env) :: starEach [] X.env := by rfl) (hpl : (backTo pos (starEach [] X.env)).any (·.1) = false := by rfl) :
    PE X (.Call (.Name "all" p) [e] [] pos) (tM X.K W (mB1 dAll m)) := pe_imp (pe_callB (cr_all hc) hg hm (by decide +kernel) (a_lend ha he) (he := he) (hpl := hpl)) (c_1 all_ok)
theorem q_any (hc : X.calm = true) (hg : Gl X "any") (hm : X.mg "any" = none) (ha : PE X e (tL X.K W m)) (he : starEach [e] X.env = (false, eval e X.env) :: starEach [] X.env := by rfl) (hpl : (backTo pos (starEach [] X.env)).any (·.1) = false := by rfl) :
    PE X (.Call (.Name "any" p) [e] [] pos) (tM X.K W (mB1 dAny m)) := pe_imp (pe_callB (cr_any hc) hg hm (by decide +kernel) (a_lend ha he) (he := he) (hpl := hpl)) (c_1 any_ok)
theorem q_abs (hg : Gl X "abs") (hm : X.mg "abs" = none) (ha : PE X e (tL X.K W m)) (he : starEach [e] X.env = (false, eval e X.env) :: starEach [] X.env := by rfl) (hpl : (backTo pos (starEach [] X.env)).any (·.1) = false := by rfl) :
    PE X (.Call (.Name "abs" p) [e] [] pos) (tM X.K W (mB1 dAbs m)) := pe_imp (pe_callB call_abs hg hm (by decide +kernel) (a_lend ha he) (he := he) (hpl := hpl)) (c_1 abs_ok)
theorem q_tint (hg : Gl X "int") (hm : X.mg "int" = none) (ha : PE X e (tL X.K W m)) (he : starEach [e] X.env = (false, eval e X.env) :: starEach [] X.env := by rfl) (hpl : (backTo pos (starEach [] X.env)).any (·.1) = false := by rfl) :
    PE X (.Call (.Name "int" p) [e] [] pos) (tM X.K W (mB1 dInt m)) := pe_imp (pe_callTy call_int1 hg hm (by decide +kernel) (a_lend ha he) (he := he) (hpl := hpl)) (c_1 int_ok)
theorem q_tstr (hg : Gl X "str") (hm : X.mg "str" = none) (ha : PE X e (tL X.K W m)) (he : starEach [e] X.env = (false, eval e X.env) :: starEach [] X.env := by rfl) (hpl : (backTo pos (starEach [] X.env)).any (·.1) = false := by rfl) :
    PE X (.Call (.Name "str" p) [e] [] pos) (tM X.K W (mB1 dStr m)) := pe_imp (pe_callTy call_str_int hg hm (by decide +kernel) (a_lend ha he) (he := he) (hpl := hpl)) (c_1 str_ok)
theorem q_tuple (hg : Gl X "tuple") (hm : X.mg "tuple" = none) (ha : PE X e (tL X.K W m)) (he : starEach [e] X.env = (false, eval e X.env) :: starEach [] X.env := by rfl) (hpl : (backTo pos (starEach [] X.env)).any (·.1) = false := by rfl) :
    PE X (.Call (.Name "tuple" p) [e] [] pos) (tM X.K W (mB1 dTuple m)) := pe_imp (pe_callTy call_tuple_of hg hm (by decide +kernel) (a_lend ha he) (he := he) (hpl := hpl)) (c_1 tuple_ok)
theorem f_list (hg : Gl X "list") (hm : X.mg "list" = none) (ha : PE X e (tL X.K W m)) (he : starEach [e] X.env = (false, eval e X.env) :: starEach [] X.env := by rfl) (hpl : (backTo pos (starEach [] X.env)).any (·.1) = false := by rfl) :
    PE X (.Call (.Name "list" p) [e] [] pos) (tF X.K W (mB1F dList m)) := pe_imp (pe_callTy call_list_of hg hm (by decide +kernel) (a_lend ha he) (he := he) (hpl := hpl)) (c_1F list_ok)
end
end Pv
end PvL_

section PvM_
set_option Elab.async false
set_option linter.all false
set_option maxRecDepth 100000
set_option maxHeartbeats 4000000
namespace Pv
open PySem PySem.Spec PyProof.Rows L2

/-! ### subscripts -/
def look (i : Nat) (s : S) : Option D := match getS i s with
  | .d x => some x
  | .o xs => some (.lst xs)
  | .bx => some .box
  | _ => none
section
variable {K : PySem.W.Frag} {f : Fm} {w : Wd} {s : S} {σ : L2.St} {H : Hp}
theorem StOk.look (st : StOk K f w s σ H) {i : Nat} {x : D} (h : Pv.look i s = some x) : ∃ u, σ[i]? = some (some u) ∧ RL K f w s σ H x u := by
  unfold Pv.look at h
  cases e : getS i s with
  | d y =>
    rw [e] at h
    cases h
    obtain ⟨u, e1, e2⟩ := st.slot i _ (getS_some e (fun z => nomatch z))
    exact ⟨u, join_some e1, .inl e2⟩
  | o xs =>
    rw [e] at h
    cases h
    obtain ⟨q, vs, e1, e2, e3, e4, e5, e6⟩ := st.slot i _ (getS_some e (fun z => nomatch z))
    exact ⟨_, join_some e1, .inr ⟨q, vs, xs, rfl, rfl, e2, e3⟩⟩
  | bx =>
    rw [e] at h
    cases h
    obtain ⟨q, e1, e2⟩ := st.slot i _ (getS_some e (fun z => nomatch z))
    exact ⟨_, join_some e1, .inl ⟨q, rfl, e2⟩⟩
  | no => rw [e] at h; cases h
  | ok _ => rw [e] at h; cases h
  | ot _ => rw [e] at h; cases h
def boxL (b : Int × Int × Int) : List Int := [b.1, b.2.1, b.2.2]
/-- x[y] -/
def dIx (x y : D) (s : S) : Option D := match x, y with
  | .lst xs, .int i => atI xs i
  | .tup xs, .int i => atI xs i
  | .str z, .int i => if z.length ≤ sizeLine then (atI z.cps.toList i).map fun c => .str ⟨#[c]⟩ else none
  | .scr ns, .int i => (atI ns i).map .int
  | .box, .int i => (atI (boxL s.box) i).map .int
  | _, _ => none
theorem atI_rep {xs : List D} {vs : List V} {i : Int} {d : D} (r : RepAll K w xs vs) (h : atI xs i = some d) : ∃ v, atI vs i = some v ∧ Rep K w d v := by
  unfold atI at h ⊢
  rw [r.length]
  cases e : ixN xs.length i with
  | none => rw [e] at h; cases h
  | some j =>
    rw [e] at h
    exact r.get h
theorem atI_map {α β : Type} {xs : List α} {g : α → β} {i : Int} {d : α} (h : atI xs i = some d) : atI (xs.map g) i = some (g d) := by
  unfold atI at h ⊢
  rw [List.length_map]
  cases e : ixN xs.length i with
  | none => rw [e] at h; cases h
  | some j =>
    rw [e] at h
    have h' : xs[j]? = some d := h
    show (xs.map g)[j]? = _
    rw [List.getElem?_map, h']
    rfl
theorem ix_ok {x y z : D} {v u : V} {Q : VK} (st : StOk K f w s σ H) (rx : RL K f w s σ H x v) (ry : Rep K w y u) (h : dIx x y s = some z) (q : ∀ t, Rep K w z t → Q t H) : rIx K v u H Q := by
  unfold dIx at h
  split at h
  · obtain ⟨p, vs, rfl, h1, h2⟩ := rx.lst st
    obtain ⟨t, e, r⟩ := atI_rep h2 h
    exact .inl ⟨p, vs, _, t, rfl, ry, .inl (.inl h1), e, q t r⟩
  · obtain ⟨p, vs, rfl, h1, h2⟩ := rx.tup st
    obtain ⟨t, e, r⟩ := atI_rep h2 h
    exact .inr (.inl ⟨p, vs, _, t, rfl, ry, h1, e, q t r⟩)
  · split at h
    · rename_i hz
      obtain ⟨c, e, rfl⟩ := Option.map_eq_some_iff.mp h
      exact .inr (.inr ⟨_, _, c, rx.rep (fun _ z => nomatch z), ry, hz, e, q _ rfl⟩)
    · cases h
  · obtain ⟨n, e, rfl⟩ := Option.map_eq_some_iff.mp h
    obtain ⟨p, rfl, h1⟩ := st.scr (rx.rep (fun _ z => nomatch z))
    exact .inl ⟨p, _, _, _, rfl, ry, h1, atI_map e, q _ rfl⟩
  · obtain ⟨n, e, rfl⟩ := Option.map_eq_some_iff.mp h
    obtain ⟨p, rfl, h1⟩ := rx.rep (fun _ z => nomatch z)
    exact .inl ⟨p, (boxL s.box).map V.int, _, _, rfl, ry, .inl (.inl (st.bx p h1).1), atI_map e, q _ rfl⟩
  · cases h
/-- xs[lo:hi] -/
def cutD {α : Type} (xs : List α) (lo hi : Option Int) : List α := (xs.drop (HT.sIx xs.length 0 lo)).take (HT.sIx xs.length xs.length hi - HT.sIx xs.length 0 lo)
def dSl (x : D) (lo hi : Option Int) : Option D := match x with
  | .lst xs => some (.lst (cutD xs lo hi))
  | .tup xs => some (.tup (cutD xs lo hi))
  | .str z => if z.length ≤ sizeLine then some (.str (cutS z lo hi)) else none
  | .scr ns => some (.lst ((cutD ns lo hi).map .int))
  | _ => none
theorem RepAll.cut {xs : List D} {vs : List V} (r : RepAll K w xs vs) (lo hi : Option Int) : RepAll K w (cutD xs lo hi) (cutV vs lo hi) := by
  unfold cutD cutV
  rw [r.length]
  exact RepAll.take _ (RepAll.drop _ r)
theorem sl_ok {x z : D} {v : V} {lo hi : Option Int} {Q : VK} (st : StOk K f w s σ H) (rx : Rep K w x v) (h : dSl x lo hi = some z) (q : ∀ w' H' t, Ext w w' → StOk K f w' s σ H' → Rep K w' z t → Q t H') :
    rSlL K v lo hi H Q ∨ rSlA K v lo hi H Q ∨ rSlS v lo hi H Q := by
  unfold dSl at h
  split at h
  · cases h
    obtain ⟨p, vs, rfl, h1, h2⟩ := rx
    exact .inl ⟨p, vs, rfl, .inl (.inl (st.sub _ _ h1)), st.newL (h2.cut lo hi) q⟩
  · cases h
    obtain ⟨p, vs, rfl, h1, h2⟩ := rx
    refine .inr (.inl ⟨p, vs, rfl, st.tup h1, fun hw => q w H _ (Ext.refl w) st ⟨p, vs, rfl, h1, ?_⟩, fun _ => st.newT (h2.cut lo hi) q⟩)
    have e : cutV vs lo hi = vs := by
      unfold cutV
      rw [hw.1, hw.2]
      simp
    have g := h2.cut lo hi
    rw [e] at g
    exact g
  · split at h
    · rename_i hz
      cases h
      exact .inr (.inr ⟨_, rx, hz, q w H _ (Ext.refl w) st rfl⟩)
    · cases h
  · cases h
    obtain ⟨p, rfl, h1⟩ := st.scr rx
    refine .inl ⟨p, _, rfl, h1, st.newL ?_ q⟩
    have e : ∀ ns : List Int, cutV (ns.map V.int) lo hi = (cutD ns lo hi).map V.int := fun ns => by
      unfold cutV cutD
      rw [List.length_map, List.map_take, List.map_drop]
    rw [e]
    exact RepAll.of_ints _
  · cases h
end
section
variable {X : Cx} {W : WX} {a b e : Expr} {pos p2 : Pos} {ma mb m : M D}
def mIxN (i : Nat) (mb : M D) : M D := fun s => match look i s with
  | none => .no
  | some _ => (mb s).bind fun y s1 => match look i s1 with
    | none => .no
    | some x => ofO (dIx x y s1) s1
/-- a name's item -/
theorem q_ixN (i : Nat) {x : Str} {p : Pos} (hb : PE X b (tM X.K W mb)) (hN : X.N[i]? = some x := by rfl) (hv : Vis X.env.scope x := by first | exact Or.inl rfl | exact Or.inr (Or.inl rfl) | exact Or.inr (Or.inr rfl)) (hd : (x == ("__debug__" : Str)) = false := by decide)
    (hcd : (x == ("__classdict__" : Str)) = false := by decide) (hs : PlainIx b := by exact fun _ _ => rfl) : PE X (.Subscript (.Name x p) b pos) (tM X.K W (mIxN i mb)) := by
  refine pe_imp (pe_ix ix_seq (pe_var hN hv hd hcd) hb hs) fun σ H Q ⟨f, w, s, st, q⟩ => ?_
  unfold mIxN at q
  cases e0 : look i s with
  | none => rw [e0] at q; exact q.elim
  | some x0 =>
    rw [e0] at q
    obtain ⟨u, eu, _⟩ := st.look e0
    refine ⟨u, eu, f, w, s, st, Po.thn q fun y w1 s1 v H1 e1 st1 r1 p1 => ?_⟩
    cases e2 : look i s1 with
    | none => rw [e2] at p1; exact p1.elim
    | some x1 =>
      rw [e2] at p1
      obtain ⟨u1, eu1, rx⟩ := st1.look e2
      rw [eu] at eu1
      cases eu1
      obtain ⟨z, ez, pz⟩ := p1.ofO
      exact ix_ok st1 rx r1 ez fun t rt => pz w1 H1 t (Ext.refl _) st1 rt
def mIx (ma mb : M D) : M D := fun s => (ma s).bind fun x s1 => (mb s1).bind fun y s2 => ofO (dIx x y s2) s2
theorem q_ix (ha : PE X a (tM X.K W ma)) (hb : PE X b (tM X.K W mb)) (hs : PlainIx b := by exact fun _ _ => rfl) : PE X (.Subscript a b pos) (tM X.K W (mIx ma mb)) := by
  refine pe_imp (pe_ix ix_seq ha hb hs) fun σ H Q ⟨f, w, s, st, q⟩ => ?_
  refine ⟨f, w, s, st, Po.thn q fun x w1 s1 v H1 e1 st1 r1 p1 => ⟨f, w1, s1, st1, Po.thn p1 fun y w2 s2 u H2 e2 st2 r2 p2 => ?_⟩⟩
  obtain ⟨z, ez, pz⟩ := p2.ofO
  exact ix_ok st2 (.inl (Rep.mono e2 r1)) r2 ez fun t rt => pz w2 H2 t (Ext.refl _) st2 rt

/-! ### slices -/
abbrev tOI (K : PySem.W.Frag) (W : WX) (m : M (Option Int)) : TO := tG K W (fun _ _ _ _ _ a b => b = a) m
def oNo : M (Option Int) := fun s => .ok none s
def oIn (m : M D) : M (Option Int) := fun s => (m s).bind fun x s1 => match x with
  | .int i => .ok (some i) s1
  | _ => .no
theorem o_no : PO X none (tOI X.K W oNo) := ⟨fun pins s σ H Q I ⟨f, w, s', st, q⟩ => po_none.run pins s σ H Q I (q w H none (Ext.refl _) st rfl)⟩
theorem o_in (h : PE X e (tM X.K W m)) : PO X (some e) (tOI X.K W (oIn m)) := ⟨fun pins s σ H Q I ⟨f, w, s', st, q⟩ => (po_some h).run pins s σ H Q I ⟨f, w, s', st, Po.thn q fun x w1 s1 v H1 e1 st1 r1 p1 => by
  cases x with
  | int i => exact ⟨i, r1, p1 w1 H1 _ (Ext.refl _) st1 rfl⟩
  | _ => exact p1.elim⟩⟩
def mSl (ma : M D) (ml mh : M (Option Int)) : M D := fun s => (ma s).bind fun x s1 => (ml s1).bind fun lo s2 => (mh s2).bind fun hi s3 => ofO (dSl x lo hi) s3
theorem q_sl {lo hi : Option Expr} {ml mh : M (Option Int)} (ha : PE X a (tM X.K W ma)) (hl : PO X lo (tOI X.K W ml)) (hh : PO X hi (tOI X.K W mh)) : PE X (.Subscript a (.Slice lo hi none p2) pos) (tM X.K W (mSl ma ml mh)) := by
  refine pe_imp (pe_slice (sl_list.or (sl_tupA.or sl_str)) ha hl hh) fun σ H Q ⟨f, w, s, st, q⟩ => ?_
  refine ⟨f, w, s, st, Po.thn q fun x w1 s1 v H1 e1 st1 r1 p1 => ⟨f, w1, s1, st1, Po.thn p1 fun l w2 s2 l' H2 e2 st2 r2 p2 => ⟨f, w2, s2, st2, Po.thn p2 fun h w3 s3 h' H3 e3 st3 r3 p3 => ?_⟩⟩⟩
  have r2' : l' = l := r2
  have r3' : h' = h := r3
  subst r2' r3'
  obtain ⟨z, ez, pz⟩ := p3.ofO
  exact sl_ok st3 (Rep.mono (e2.trans e3) r1) ez pz
end

/-! ### t[::-1] -/
section
variable {P : Program} {w : World} {A : Around} {E : Value → Shared → Prop} {s : Shared}
theorem places_back (n : Nat) : Builtin.Slice.slicePlaces ((n : Int) - 1) (-1) (-1) = n := by
  unfold Builtin.Slice.slicePlaces
  rw [if_neg (by decide)]
  by_cases h : (n : Int) - 1 > -1
  · rw [if_pos h, show (- -1 : Int) = 1 from rfl, Int.ediv_one]
    omega
  · rw [if_neg h]
    omega
theorem pick_back (xs : Array Value) : ((List.range xs.size).filterMap fun (k : Nat) => xs[((xs.size : Int) - 1 + (k : Int) * (-1)).toNat]?).toArray = xs.toList.reverse.toArray := by
  congr 1
  have e : (List.range xs.size).filterMap (fun (k : Nat) => xs[((xs.size : Int) - 1 + (k : Int) * (-1)).toNat]?) = ((List.range xs.size).map fun k => xs.size - 1 - k).filterMap (xs[·]?) := by
    rw [List.filterMap_map]
    have g : ∀ l : List Nat, (∀ k ∈ l, k < xs.size) → l.filterMap (fun (k : Nat) => xs[((xs.size : Int) - 1 + (k : Int) * (-1)).toNat]?) = l.filterMap ((xs[·]?) ∘ fun k => xs.size - 1 - k) := fun l => by
      induction l with
      | nil => intro _; rfl
      | cons k r ih =>
        intro hk
        have lt := hk k (by simp)
        have en : ((xs.size : Int) - 1 + (k : Int) * (-1)).toNat = xs.size - 1 - k := by omega
        rw [List.filterMap_cons, List.filterMap_cons, ih fun j hj => hk j (by simp [hj]), en]
        rfl
    exact g _ fun k hk => List.mem_range.mp hk
  rw [e, PySem.W.krv_range, List.filterMap_reverse, PySem.W.krv_all]
theorem tuple_back {t sl : Addr} {items : Array Value} {vs : Value} {Q : Value → Shared → Prop} (tt : IsTup s.heap t items) (hs : s.heap.IsSliceOf sl .none .none vs) (ps : IsPart vs (some (-1)))
    (h : Q (.ref s.heap.objs.size) { s with heap := s.heap.push { cls := .type "tuple", data := .seq items.toList.reverse.toArray } }) (hsz : items.size ≤ sizeLine) : wpAny (model P w) A (getItem (.ref t) (.ref sl)) Q E s := by
  have fits : sizeOk (.seq items.toList.reverse.toArray) := by
    show items.toList.reverse.toArray.size ≤ sizeLine
    simpa using hsz
  obtain ⟨os, hos, hcs, hds⟩ := id hs
  have slT : s.TypeIs (.ref sl) "slice" := ⟨os, hos, hcs⟩
  unfold getItem
  try with_reducible refine wpAny_holding ?_
  first | refine wpAny_bind (wpAny_pure ?_) | skip
  refine wpAny_bind (wpAny_sequenceKey tt.typeIs (by decide) ?_)
  refine wpAny_bind (wpAny_callSpecial?_slot (name := Str.ofString "__getitem__") tt.typeIs PyProof.Rows.slot_tuple_getitem (wpAny_call_entry PyProof.Rows.slot_tuple_getitem tt.typeIs entry_tuple_getitem ?_ (args_tuple_getitem _ _)))
  show wpAny _ _ (Builtin.Tuple.tupleItemsOf (.ref t) >>= _) _ _ s
  refine wpAny_bind (tupleItemsOf_ tt ?_)
  refine wpAny_bind (wpAny_typeOf slT ?_)
  rw [if_pos (by decide)]
  refine wpAny_bind (m := Builtin.Slice.sliceApplied _ _) ?_
  unfold Builtin.Slice.sliceApplied Builtin.Slice.sliceFields
  refine wpAny_bind (wpAny_bind (wpAny_field hos hds (x := .none) rfl (wpAny_bind (wpAny_field hos hds (x := .none) rfl (wpAny_bind (wpAny_field hos hds (x := vs) rfl (wpAny_pure ?_)))))))
  refine wpAny_bind (HT.slicePart_ ps ?_)
  show wpAny _ _ (if ((-1 : Int) == 0) = true then _ else _) _ _ s
  rw [if_neg (by decide)]
  refine wpAny_bind (slicePart_none (wpAny_bind (slicePart_none (wpAny_bind (wpAny_pure ?_)))))
  show wpAny _ _ (pure (((items.size : Int) - 1), (-1 : Int), Builtin.Slice.slicePlaces ((items.size : Int) - 1) (-1) (-1))) _ _ s
  rw [places_back]
  refine wpAny_pure ?_
  have hno : ¬ ((((items.size : Int) - 1) == 0 && (-1 : Int) == 1 && items.size == items.size) = true) := by simp
  show wpAny _ _ (if (((items.size : Int) - 1) == 0 && (-1 : Int) == 1 && items.size == items.size) = true then _ else _) _ _ s
  rw [if_neg hno, pick_back]
  first
    | exact wpAny_bind (m := Builtin.Tuple.tupleExact _) (wpAny_newObj_type (wpAny_pure ⟨_, rfl, wpAny_pure h⟩) fits)
    | exact wpAny_bind (m := Builtin.Tuple.tupleExact _) (wpAny_newObj_type (wpAny_bind (wpAny_pure (wpAny_pure ⟨_, rfl, wpAny_pure h⟩))) fits)
    | exact wpAny_bind (wpAny_bind (m := Builtin.Tuple.tupleExact _) (wpAny_newObj_type (wpAny_pure (wpAny_pure ⟨_, rfl, wpAny_pure h⟩)) fits))
    | exact wpAny_bind (wpAny_bind (m := Builtin.Tuple.tupleExact _) (wpAny_newObj_type (wpAny_pure ⟨_, rfl, wpAny_pure h⟩) fits))
end
def tBack (K : PySem.W.Frag) (te : TE) : TE := fun σ H Q => te σ H fun x H1 => ∃ a xs, x = .ref a ∧ ((SqL K H1 a xs ∧ ∀ p, H1 p = none → Q (.ref p) (upd H1 p (.lst xs.reverse))) ∨ (SqT K H1 a xs ∧ ∀ p, H1 p = none → Q (.ref p) (upd H1 p (.tup xs.reverse))))
theorem pe_back {X : Cx} {e : Expr} {te : TE} {k : Nat} {p1 p2 p3 pos : Pos} (he : PE X e te) : PE X (.Subscript e (.Slice none none (some (.UnaryOp .USub (.Constant (.int 1) k p1) p2)) p3) pos) (tBack X.K te) := by
  refine ⟨fun pins s σ H Q I h => ?_⟩
  refine Subscript_ (thn (he.run pins s σ H _ I h) fun v s1 ⟨x, H1, I1, r1, a, xs, ex, q⟩ => ?_)
  subst ex
  cases r1
  have step : PO X (some (.UnaryOp .USub (.Constant (.int 1) k p1) p2)) (tPart (tUn (rU fun i => .int (-i)) (tC (.int 1)))) := po_some (pe_un un_neg pe_int)
  refine wpAny_Slice (thn (po_none.run pins s1 σ H1 (fun o G => o = none ∧ G = H1) I1 ⟨rfl, rfl⟩) fun vl s2 ⟨l, H2, I2, pl, el, e2⟩ => ?_)
  subst el e2
  refine thn (po_none.run pins s2 σ H2 (fun o G => o = none ∧ G = H2) I2 ⟨rfl, rfl⟩) fun vu s3 ⟨u, H3, I3, pu, eu, e3⟩ => ?_
  subst eu e3
  refine thn (step.run pins s3 σ H3 (fun o G => o = some (-1) ∧ G = H3) I3 ⟨1, rfl, -1, rfl, rfl, rfl⟩) fun vs s4 ⟨o, H4, I4, ps, eo, e4⟩ => ?_
  subst eo e4
  have I5 : Inv X pins σ H4 { s4 with heap := s4.heap.push { cls := .type "slice", data := .fields #[vl, vu, vs] } } := I4.kept (t' := s4.toks) fun b ob z => Heap.get?_push_of_some _ z
  show wpAny (model X.prog X.w) X.A (subscriptTail e (.Slice none none (some (.UnaryOp .USub (.Constant (.int 1) k p1) p2)) p3) (.ref a) (.ref s4.heap.objs.size)) (EP X pins σ Q) X.xe { s4 with heap := s4.heap.push { cls := .type "slice", data := .fields #[vl, vu, vs] } }
  rcases q with ⟨hx, q⟩ | ⟨hx, q⟩
  · obtain ⟨its, r, ht, hz⟩ := I5.list hx
    have ln := r.length
    refine tail_any (ops := [.ref a, .ref s4.heap.objs.size]) ht.isList.typeIs (PySem.slot_list_getitem.lookup) ?_ (by with_unfolding_all rfl)
    refine wpAny_getItem_list_slice ht.isList (Heap.IsSliceOf.new _ vl vu vs) pl pu ps (by decide) ?_ (by rw [List.size_toArray]; omega)
    rw [PySem.W.krv_pick]
    exact ⟨.ref _, _, I5.laid (t' := s4.toks) (o := .lst xs.reverse) (fun b ob z => Heap.get?_push_of_some _ z) (Nat.le_refl _) ⟨by rw [List.length_reverse]; exact hz, _, 0, r.reverse, Heap.get?_push_size _ rfl⟩, rfl, q _ (I5.hok.fresh (Nat.le_refl _))⟩
  · obtain ⟨its, r, ht, hz⟩ := I5.tuple hx
    have ln := r.length
    cases pl
    cases pu
    refine tail_any (ops := [.ref a, .ref s4.heap.objs.size]) ht.typeIs PyProof.Rows.slot_tuple_getitem.lookup ?_ (by with_unfolding_all rfl)
    refine tuple_back ht (Heap.IsSliceOf.new _ _ _ vs) ps ?_ (by rw [List.size_toArray]; omega)
    exact ⟨.ref _, _, I5.laid (t' := s4.toks) (o := .tup xs.reverse) (fun b ob z => Heap.get?_push_of_some _ z) (Nat.le_refl _) ⟨by rw [List.length_reverse]; exact hz, _, r.reverse, IsTup.new _ _⟩, rfl, q _ (I5.hok.fresh (Nat.le_refl _))⟩
def dBack (x : D) : Option D := match x with
  | .lst xs => some (.lst xs.reverse)
  | .tup xs => some (.tup xs.reverse)
  | _ => none
def m1 (g : D → Option D) (m : M D) : M D := fun s => (m s).bind fun x s1 => ofO (g x) s1
theorem q_back {X : Cx} {W : WX} {e : Expr} {m : M D} {k : Nat} {p1 p2 p3 pos : Pos} (he : PE X e (tM X.K W m)) : PE X (.Subscript e (.Slice none none (some (.UnaryOp .USub (.Constant (.int 1) k p1) p2)) p3) pos) (tM X.K W (m1 dBack m)) := by
  refine pe_imp (pe_back he) fun σ H Q ⟨f, w, s, st, q⟩ => ⟨f, w, s, st, Po.thn q fun x w1 s1 v H1 e1 st1 r1 p1 => ?_⟩
  obtain ⟨z, ez, pz⟩ := p1.ofO
  unfold dBack at ez
  split at ez
  · cases ez
    obtain ⟨p, vs, rfl, h1, h2⟩ := r1
    exact ⟨p, vs, rfl, .inl ⟨.inl (.inl (st1.sub _ _ h1)), st1.newL h2.reverse pz⟩⟩
  · cases ez
    obtain ⟨p, vs, rfl, h1, h2⟩ := r1
    exact ⟨p, vs, rfl, .inr ⟨st1.tup h1, st1.newT h2.reverse pz⟩⟩
  · cases ez
end Pv
end PvM_

section PvN_
set_option Elab.async false
set_option linter.all false
set_option maxRecDepth 100000
set_option maxHeartbeats 4000000
namespace Pv
open PySem PySem.Spec PyProof.Rows L2

/-! ### a slot's own list changes -/
section
variable {K : PySem.W.Frag} {f : Fm} {w : Wd} {s : S} {σ : L2.St} {H : Hp}
theorem StOk.ownSet (h : StOk K f w s σ H) {i : Nat} {x y : SV} {p : Addr} {o : HO} (hi : s.env[i]? = some x) (hx : x.own = true) (hv : σ[i]?.join = some (.ref p)) (hy : y.own = true) (hn : SlotOk K f w (upd H p o) y (some (.ref p))) :
    StOk K f w (setS i y s) σ (upd H p o) := by
  obtain ⟨q, e2, e3, e4, e5, e6⟩ := (h.slot i x hi).at hx
  rw [hv] at e2
  cases e2
  refine ⟨fun b u e => ?_, fun a u e1 e2 => ?_, h.ff, h.f0, h.bb, h.bf, by simpa [setS] using h.len, fun j z e => ?_, fun q e => ?_, fun j k z u q n e1 e2 o1 o2 e7 => ?_⟩
  · rw [upd_ne (ne_of_none e e4)]
    exact h.sub _ _ e
  · rw [upd_ne (ne_of_none e1 e6)]
    exact h.fr a u e1 e2
  · rcases getElem?_set_cases e with ⟨rfl, rfl⟩ | ⟨n, e⟩
    · rw [hv]; exact hn
    · refine (h.slot j z e).ext (Ext.refl w) fun q hq e1 => ?_
      obtain ⟨q', e7, e8, e9, e10, e11⟩ := (h.slot j z e).at hq
      rw [e1] at e7
      cases e7
      have ne : q ≠ p := fun zz => h.dist i j x z p n hi e hx hq hv (by rw [← zz]; exact e1)
      exact ⟨upd_ne ne, e9, e10⟩
  · obtain ⟨e1, e2, e3⟩ := h.bx q e
    have ne : q ≠ p := fun z => e5 (by rw [← z]; exact e)
    exact ⟨by rw [upd_ne ne]; exact e1, e2, e3⟩
  · have back : ∀ {k : Nat} {z : SV}, (s.env.set i y)[k]? = some z → z.own = true → ∃ z', s.env[k]? = some z' ∧ z'.own = true := fun {k z} e o => by
      rcases getElem?_set_cases e with ⟨rfl, rfl⟩ | ⟨n, e⟩
      · exact ⟨x, hi, hx⟩
      · exact ⟨z, e, o⟩
    obtain ⟨z', a1, a2⟩ := back e1 o1
    obtain ⟨u', b1, b2⟩ := back e2 o2
    exact h.dist j k z' u' q n a1 b1 a2 b2 e7
theorem StOk.boxSet (h : StOk K f w s σ H) {p : Addr} {b : Int × Int × Int} (hp : w.bp = some p) : StOk K f w { s with box := b } σ (upd H p (boxV b)) := by
  obtain ⟨q1, q2, q3⟩ := h.bx p hp
  refine ⟨fun b u e => ?_, fun a u e1 e2 => ?_, h.ff, h.f0, h.bb, h.bf, h.len, fun j z e => ?_, fun q e => ?_, h.dist⟩
  · rw [upd_ne (ne_of_none e q2)]
    exact h.sub _ _ e
  · have ne : a ≠ p := fun z => by
      rcases q3 with q3 | q3
      · exact e2 (by rw [z]; exact q3)
      · rw [z, q3] at e1
        cases e1
    rw [upd_ne ne]
    exact h.fr a u e1 e2
  · refine (h.slot j z e).ext (Ext.refl w) fun q hq e1 => ?_
    obtain ⟨q', e7, e8, e9, e10, e11⟩ := (h.slot j z e).at hq
    rw [e1] at e7
    cases e7
    have ne : q ≠ p := fun zz => e10 (by rw [zz]; exact hp)
    exact ⟨upd_ne ne, e9, e10⟩
  · have e' : w.bp = some q := e
    rw [hp] at e'
    cases e'
    exact ⟨upd_same, q2, q3⟩
/-- an own list's slot -/
theorem StOk.own (h : StOk K f w s σ H) {i : Nat} {xs : List D} (e : getS i s = .o xs) : ∃ p vs, σ[i]? = some (some (.ref p)) ∧ H p = some (.lst vs) ∧ RepAll K w xs vs ∧
    ∀ ys us, RepAll K w ys us → StOk K f w (setS i (.o ys) s) σ (upd H p (.lst us)) := by
  have gi := getS_some e (fun z => nomatch z)
  obtain ⟨q, vs, e1, e2, e3, e4, e5, e6⟩ := h.slot i _ gi
  exact ⟨q, vs, join_some e1, e2, e3, fun ys us r => h.ownSet gi rfl e1 rfl ⟨q, us, rfl, upd_same, r, e4, e5, e6⟩⟩
end
section
variable {X : Cx} {W : WX} {a b e : Expr} {pos cpos apos p : Pos} {ma mb m : M D} {x : Str}
theorem tyV_own {K : PySem.W.Frag} {H : Hp} {p : Addr} {vs : List V} (h : H p = some (.lst vs)) : tyV K "list" (.ref p) H := .inl ⟨rfl, vs, .inl (.inl h)⟩
def mApp (i : Nat) (m : M D) : M D := fun s => match getS i s with
  | .o _ => (m s).bind fun y s1 => match getS i s1 with
    | .o xs => if xs.length < sizeLine then .ok .non (setS i (.o (xs ++ [y])) s1) else .no
    | _ => .no
  | _ => .no
theorem q_append (i : Nat) (ha : PE X e (tM X.K W m)) (hN : X.N[i]? = some x := by rfl) (hv : Vis X.env.scope x := by first | exact Or.inl rfl | exact Or.inr (Or.inl rfl) | exact Or.inr (Or.inr rfl)) (hd : (x == ("__debug__" : Str)) = false := by decide)
    (hcd : (x == ("__classdict__" : Str)) = false := by decide) (hbase : attributeBase (.Name x p) "append" X.env (eval (.Name x p) X.env) = eval (.Name x p) X.env := by rfl)
    (hfew : ((((backTo cpos (starEach [e] X.env)).all fun x => !x.fst) && (backToKw cpos (keywordEach [] X.env)).all fun x => x.fst.isSome) && decide (([e].length + ([] : List Keyword).length + if ([] : List Keyword).isEmpty = true then 0 else 1) < 30)) = true := by rfl)
    (hline : (apos.endLine == cpos.line) = true := by rfl) (he : starEach [e] X.env = (false, eval e X.env) :: starEach [] X.env := by rfl) (hpl : (backTo cpos (starEach [] X.env)).any (·.1) = false := by rfl) :
    PE X (.Call (.Attribute (.Name x p) "append" apos) [e] [] cpos) (tM X.K W (mApp i m)) := by
  refine pe_imp (pe_bm PySem.F.plainAttrs_list PySem.F.slot_list_append PySem.F.type_list_append mt_append (pe_var hN hv hd hcd) (pa_cons ha pa_nil he) hbase hfew hline he hpl) fun σ H Q ⟨f, w, s, st, q⟩ => ?_
  unfold mApp at q
  cases e0 : getS i s with
  | o zs =>
    rw [e0] at q
    obtain ⟨a, vs, ea, eh, er, _⟩ := st.own e0
    refine ⟨.ref a, ea, tyV_own eh, f, w, s, st, Po.thn q fun y w1 s1 v H1 e1 st1 r1 p1 => ?_⟩
    cases e2 : getS i s1 with
    | o xs =>
      rw [e2] at p1
      have p1 : Po X.K f W (RD X.K) w1 σ Q (if xs.length < sizeLine then .ok .non (setS i (.o (xs ++ [y])) s1) else .no) := p1
      split at p1
      · rename_i hz
        obtain ⟨a', us, ea', eh', er', upd1⟩ := st1.own e2
        rw [ea] at ea'
        cases ea'
        exact ⟨a, us, v, rfl, rfl, eh', by rw [er'.length]; exact hz, p1 w1 _ .non (Ext.refl _) (upd1 _ _ (RepAll.append er' (RepAll.one r1))) rfl⟩
      · exact p1.elim
    | no => rw [e2] at p1; exact p1.elim
    | d _ => rw [e2] at p1; exact p1.elim
    | bx => rw [e2] at p1; exact p1.elim
    | ok _ => rw [e2] at p1; exact p1.elim
    | ot _ => rw [e2] at p1; exact p1.elim
  | no => rw [e0] at q; exact q.elim
  | d _ => rw [e0] at q; exact q.elim
  | bx => rw [e0] at q; exact q.elim
  | ok _ => rw [e0] at q; exact q.elim
  | ot _ => rw [e0] at q; exact q.elim
def popO (i : Nat) (xs : List D) (s : S) : Out D := match xs[xs.length - 1]? with
  | some y => .ok y (setS i (.o xs.dropLast) s)
  | none => .no
def mPop (i : Nat) : M D := fun s => match getS i s with
  | .o xs => popO i xs s
  | _ => .no
theorem q_pop (i : Nat) (hN : X.N[i]? = some x := by rfl) (hv : Vis X.env.scope x := by first | exact Or.inl rfl | exact Or.inr (Or.inl rfl) | exact Or.inr (Or.inr rfl)) (hd : (x == ("__debug__" : Str)) = false := by decide)
    (hcd : (x == ("__classdict__" : Str)) = false := by decide) (hbase : attributeBase (.Name x p) "pop" X.env (eval (.Name x p) X.env) = eval (.Name x p) X.env := by rfl)
    (hline : (apos.endLine == cpos.line) = true := by rfl) :
    PE X (.Call (.Attribute (.Name x p) "pop" apos) [] [] cpos) (tM X.K W (mPop i)) := by
  refine pe_imp (pe_bm0 PySem.F.plainAttrs_list PySem.F.slot_list_pop PySem.F.type_list_pop mt_pop (pe_var hN hv hd hcd) hbase hline) fun σ H Q ⟨f, w, s, st, q⟩ => ?_
  unfold mPop at q
  cases e0 : getS i s with
  | o xs =>
    rw [e0] at q
    obtain ⟨a, vs, ea, eh, er, upd1⟩ := st.own e0
    refine ⟨.ref a, ea, tyV_own eh, ?_⟩
    have q : Po X.K f W (RD X.K) w σ Q (popO i xs s) := q
    unfold popO at q
    cases e1 : xs[xs.length - 1]? with
    | none => rw [e1] at q; exact q.elim
    | some y =>
      rw [e1] at q
      obtain ⟨v, ev, rv⟩ := er.get e1
      exact ⟨a, vs, v, rfl, rfl, eh, by rw [er.length]; exact ev, q w _ v (Ext.refl _) (upd1 _ _ er.dropLast) rv⟩
  | no => rw [e0] at q; exact q.elim
  | d _ => rw [e0] at q; exact q.elim
  | bx => rw [e0] at q; exact q.elim
  | ok _ => rw [e0] at q; exact q.elim
  | ot _ => rw [e0] at q; exact q.elim
/-- xs.extend(e), e a list -/
def mExt (i : Nat) (m : M D) : M D := fun s => match getS i s with
  | .o _ => (m s).bind fun y s1 => match y, getS i s1 with
    | .lst ys, .o xs => if xs.length + ys.length ≤ sizeLine then .ok .non (setS i (.o (xs ++ ys)) s1) else .no
    | _, _ => .no
  | _ => .no
theorem q_extend (i : Nat) (ha : PE X e (tL X.K W m)) (hN : X.N[i]? = some x := by rfl) (hv : Vis X.env.scope x := by first | exact Or.inl rfl | exact Or.inr (Or.inl rfl) | exact Or.inr (Or.inr rfl)) (hd : (x == ("__debug__" : Str)) = false := by decide)
    (hcd : (x == ("__classdict__" : Str)) = false := by decide) (hbase : attributeBase (.Name x p) "extend" X.env (eval (.Name x p) X.env) = eval (.Name x p) X.env := by rfl)
    (hfew : ((((backTo cpos (starEach [e] X.env)).all fun x => !x.fst) && (backToKw cpos (keywordEach [] X.env)).all fun x => x.fst.isSome) && decide (([e].length + ([] : List Keyword).length + if ([] : List Keyword).isEmpty = true then 0 else 1) < 30)) = true := by rfl)
    (hline : (apos.endLine == cpos.line) = true := by rfl) (he : starEach [e] X.env = (false, eval e X.env) :: starEach [] X.env := by rfl) (hpl : (backTo cpos (starEach [] X.env)).any (·.1) = false := by rfl) :
    PE X (.Call (.Attribute (.Name x p) "extend" apos) [e] [] cpos) (tM X.K W (mExt i m)) := by
  refine pe_imp (pe_bm PySem.F.plainAttrs_list PySem.F.slot_list_extend PySem.F.type_list_extend mt_extend (pe_var hN hv hd hcd) (a_lend ha he) hbase hfew hline he hpl) fun σ H Q ⟨f, w, s, st, q⟩ => ?_
  unfold mExt at q
  cases e0 : getS i s with
  | o zs =>
    rw [e0] at q
    obtain ⟨a, vs, ea, eh, er, _⟩ := st.own e0
    refine ⟨.ref a, ea, tyV_own eh, f, w, s, st, Po.thn q fun y w1 s1 v' H1 e1 st1 r1 p1 => ?_⟩
    obtain ⟨v, rfl, r1⟩ := r1
    split at p1
    · rename_i ys xs e2
      split at p1
      · rename_i hz
        obtain ⟨a', us, ea', eh', er', upd1⟩ := st1.own e2
        rw [ea] at ea'
        cases ea'
        obtain ⟨b, bs, rfl, hb, rb⟩ := r1.lst st1
        exact ⟨a, b, us, bs, rfl, rfl, eh', hb, by rw [er'.length, rb.length]; exact hz, p1 w1 _ .non (Ext.refl _) (upd1 _ _ (RepAll.append er' rb)) rfl⟩
      · exact p1.elim
    · exact p1.elim
  | no => rw [e0] at q; exact q.elim
  | d _ => rw [e0] at q; exact q.elim
  | bx => rw [e0] at q; exact q.elim
  | ok _ => rw [e0] at q; exact q.elim
  | ot _ => rw [e0] at q; exact q.elim

/-! ### x[i] = e -/
def boxPut (b : Int × Int × Int) (j : Nat) (v : Int) : Int × Int × Int := match j with
  | 0 => (v, b.2.1, b.2.2)
  | 1 => (b.1, v, b.2.2)
  | _ => (b.1, b.2.1, v)
theorem boxPut_ok (b : Int × Int × Int) {j : Nat} {k : Int} (v : Int) (h : ixN 3 k = some j) : boxV (boxPut b j v) = .lst ([V.int b.1, .int b.2.1, .int b.2.2].set j (.int v)) := by
  have lt : j < 3 := by
    unfold ixN at h
    split at h
    · split at h
      · cases h; omega
      · cases h
    · split at h
      · cases h; omega
      · cases h
  match j, lt with
  | 0, _ => rfl
  | 1, _ => rfl
  | 2, _ => rfl
def putBox (k : Int) (x : D) (s : S) : SO := match ixN 3 k, x with
  | some j, .int v => .nx { s with box := boxPut s.box j v }
  | _, _ => .no
def putL (i : Nat) (k : Int) (x : D) (xs : List D) (s : S) : SO := match ixN xs.length k with
  | some j => .nx (setS i (.o (xs.set j x)) s)
  | none => .no
/-- slot i, place y, new item x -/
def putIx (i : Nat) (y x : D) (s : S) : SO := match getS i s, y with
  | .o xs, .int k => putL i k x xs s
  | .bx, .int k => putBox k x s
  | .d .box, .int k => putBox k x s
  | _, _ => .no
def sPutIx (i : Nat) (mi me : M D) : MS := fun s => (me s).toS fun x s1 => match look i s1 with
  | none => .no
  | some _ => (mi s1).toS fun y s2 => putIx i y x s2
theorem box_put {K : PySem.W.Frag} {f : Fm} {w : Wd} {s : S} {σ : L2.St} {H : Hp} {E : Ends} {W : WX} {x : D} {u v t : V} {k : Int} (st : StOk K f w s σ H) (hu : ∃ a, u = .ref a ∧ w.bp = some a) (hy : t = .int k) (rx : Rep K w x v)
    (p : PoS K f W w E (putBox k x s)) : rSetL u t v H (fun H3 => E.nx σ H3) := by
  obtain ⟨a, rfl, ha⟩ := hu
  unfold putBox at p
  split at p
  · rename_i j n ej
    have rx' : v = .int n := rx
    subst rx'
    have b := (st.bx a ha).1
    have p' := p w σ _ (Ext.refl _) (st.boxSet (b := boxPut s.box j n) ha)
    rw [boxPut_ok s.box n ej] at p'
    exact ⟨a, _, k, j, rfl, hy, b, ej, p'⟩
  · exact p.elim
theorem s_putIx (i : Nat) {px : Pos} {mi me : M D} (he : PE X e (tM X.K W me)) (hi : PE X b (tM X.K W mi)) (hN : X.N[i]? = some x := by rfl) (hv : Vis X.env.scope x := by first | exact Or.inl rfl | exact Or.inr (Or.inl rfl) | exact Or.inr (Or.inr rfl)) (hd : (x == ("__debug__" : Str)) = false := by decide)
    (hcd : (x == ("__classdict__" : Str)) = false := by decide)
    (ha : ∀ v, assign (.Subscript (.Name x px) b apos) X.env v = (do
      let ov ← holding [v] (eval (.Name x px) X.env)
      let iv ← holding [v, ov] (eval b X.env)
      standAt apos
      holding [v, ov, iv] (setItem ov iv v)
      release [v, ov, iv] []) := by intro _; rfl)
    (hs : swapsWithSole [.Subscript (.Name x px) b apos] e pos.line X.env = pure false := by rfl) (hw : swappedStores [.Subscript (.Name x px) b apos] e X.env = pure none := by rfl)
    (h1 : (assignEach [.Subscript (.Name x px) b apos] X.env).map (·.2) = [assign (.Subscript (.Name x px) b apos) X.env] := by rfl) : PS X (.Assign [.Subscript (.Name x px) b apos] e pos) (tS X.K W (sPutIx i mi me)) := by
  refine ps_imp (ps_asg he (pg_sub (pe_var hN hv hd hcd) hi set_list ha) hs hw h1) fun E σ H ⟨f, w, s, st, q⟩ => ?_
  refine ⟨f, w, s, st, PoS.thn q fun x0 w1 s1 v H1 e1 st1 r1 p1 => ?_⟩
  cases e0 : look i s1 with
  | none => rw [e0] at p1; exact p1.elim
  | some z0 =>
    rw [e0] at p1
    obtain ⟨u, eu, _⟩ := st1.look e0
    refine ⟨u, eu, f, w1, s1, st1, PoS.thn p1 fun y w2 s2 t H2 e2 st2 r2 p2 => ?_⟩
    have rx := Rep.mono e2 r1
    unfold putIx at p2
    split at p2
    · rename_i xs k eg
      unfold putL at p2
      split at p2
      · rename_i j ej
        obtain ⟨a, us, ea, eh, er, upd1⟩ := st2.own eg
        rw [eu] at ea
        cases ea
        exact ⟨a, us, k, j, rfl, r2, eh, by rw [er.length]; exact ej, p2 w2 σ _ (Ext.refl _) (upd1 _ _ (RepAll.set j er rx))⟩
      · exact p2.elim
    · rename_i k eg
      obtain ⟨a, ea, hb⟩ := st2.slot i _ (getS_some eg (fun z => nomatch z))
      have ea' := join_some ea
      rw [eu] at ea'
      cases ea'
      exact box_put st2 ⟨a, rfl, hb⟩ r2 rx p2
    · rename_i k eg
      obtain ⟨u', ea, a, hb1, hb2⟩ := st2.slot i _ (getS_some eg (fun z => nomatch z))
      have ea' := join_some ea
      rw [eu] at ea'
      cases ea'
      exact box_put st2 ⟨a, hb1, hb2⟩ r2 rx p2
    · exact p2.elim
end
end Pv
end PvN_

section PvO_
set_option Elab.async false
set_option linter.all false
set_option maxRecDepth 100000
set_option maxHeartbeats 4000000
namespace Pv
open PySem PySem.Spec PyProof.Rows L2

/-! ### a list (true) or a tuple (false) that is walked -/
def Sq (K : PySem.W.Frag) (b : Bool) (H : Hp) (a : Addr) (xs : List V) : Prop := match b with
  | true => SqL K H a xs
  | false => SqT K H a xs
def HIs (b : Bool) (h : Heap) (a : Addr) (its : Array Value) : Prop := match b with
  | true => h.IsList a its
  | false => h.IsTuple a its
def HIt (b : Bool) (h : Heap) (it a : Addr) (i : Nat) : Prop := match b with
  | true => h.IsListIter it a i
  | false => h.IsTupleIter it a i
def itO (b : Bool) (a : Addr) : Obj := match b with
  | true => { cls := .type "list_iterator", data := .fields #[.ref a, .int 0 0] }
  | false => { cls := .type "tuple_iterator", data := .fields #[.ref a, .int 0 0] }
section
variable {b : Bool} {h h' : Heap} {it a : Addr} {i : Nat}
theorem HIt.obj (x : HIt b h it a i) : ∃ o, h.get? it = some o ∧ ∀ v, o.data ≠ .cell v := by
  cases b with
  | true =>
    obtain ⟨o, e, c, d⟩ := x
    exact ⟨o, e, fun v z => by rw [d] at z; cases z⟩
  | false =>
    obtain ⟨o, e, c, d⟩ := x
    exact ⟨o, e, fun v z => by rw [d] at z; cases z⟩
theorem HIt.keep (x : HIt b h it a i) (k : ∀ o, h.get? it = some o → h'.get? it = some o) : HIt b h' it a i := by
  cases b with
  | true => exact Heap.IsListIter.at x k
  | false => exact Heap.IsTupleIter.at x k
theorem HIt.first (e : h.get? it = some (itO b a)) : HIt b h it a 0 := by
  cases b with
  | true => exact ⟨_, e, rfl, rfl⟩
  | false => exact ⟨_, e, rfl, rfl⟩
theorem HIs.lt {its : Array Value} (x : HIs b h a its) : a < h.objs.size := by
  cases b with
  | true =>
    obtain ⟨o, e, _⟩ := x
    exact Heap.lt_size e
  | false =>
    obtain ⟨o, e, _⟩ := x
    exact Heap.lt_size e
theorem draws {P : Program} {w : World} {A : Around} (b : Bool) (hh : A.handled = none) (it a : Addr) (ne : a ≠ it) (its : Array Value) :
    Draws P w A it [it, a] its.size (fun i v => its[i]? = some v) (fun i h => HIt b h it a i ∧ HIs b h a its) := by
  cases b with
  | true => exact Draws.list hh it a ne its
  | false => exact Draws.tuple hh it a ne its
theorem beg (b : Bool) (a : Addr) (its : Array Value) : Begins (.ref a) (itO b a) fun h => HIs b h a its := by
  cases b with
  | true => exact begins_list a its
  | false => exact begins_tuple a its
variable {X : Cx} {pins : List (Addr × Obj)} {σ : L2.St} {H : Hp} {s : Shared} {xs ys : List V}
theorem inv_sq (I : L2.Inv X pins σ H s) (q : Sq X.K b H a xs) : ∃ its : List Value, Vals xs its ∧ HIs b s.heap a its.toArray ∧ xs.length ≤ sizeLine := by
  cases b with
  | true =>
    obtain ⟨its, r, p, z⟩ := I.list q
    exact ⟨its, r, p.isList, z⟩
  | false =>
    obtain ⟨its, r, p, z⟩ := I.tuple q
    exact ⟨its, r, p, z⟩
theorem inv_inj (I : L2.Inv X pins σ H s) (q : Sq X.K b H a xs) (q' : Sq X.K b H a ys) : xs = ys := by
  cases b with
  | true => exact I.list_inj q q'
  | false => exact I.tuple_inj q q'
end

/-! ### enumerate -/
def JEn (K : PySem.W.Frag) (b : Bool) (a : Addr) : It :=
  ⟨fun i H => ∃ (xs : List V) (x : V), Sq K b H a xs ∧ xs[i]? = some x, fun i H v H' => ∃ T x, v = .ref T ∧ H T = none ∧ H' = upd H T (.tup [.int (i : Nat), x]) ∧ ∀ xs, Sq K b H a xs → xs[i]? = some x, fun i H => ∃ xs : List V, Sq K b H a xs ∧ xs.length = i⟩
theorem turn_en {P : Program} {w : World} {K : PySem.W.Frag} {elts : List Expr} {kk : Nat} {tpos : Pos} (b : Bool) (a e it : Addr) :
    Turn P w K (.Tuple elts kk tpos) (JEn K b a) [e, it] e (fun i h => (∃ old, IsEnum h e it ((i : Nat) : Int) old) ∧ HIt b h it a i ∧ e ≠ it ∧ a ≠ it ∧ a ≠ e) where
  mem := by simp
  obj := fun i h st c hc => by
    obtain ⟨⟨old, he⟩, ho, _⟩ := st
    have two : c = e ∨ c = it := by simpa using hc
    rcases two with z | z
    · rw [z]; exact ⟨_, he, fun v q => nomatch q⟩
    · rw [z]; exact ho.obj
  keep := fun i h h' st k => let ⟨⟨old, he⟩, hi, hne⟩ := st; ⟨⟨old, k e (by simp) _ he⟩, hi.keep fun o q => k it (by simp) o q, hne⟩
  item := by
    intro X hP hw hK hc i pins s σ H E I hf st hg
    subst hP hw hK
    obtain ⟨⟨old, he⟩, hit, hne, an, ae⟩ := st
    obtain ⟨xs, x, hq, hx⟩ := hg
    obtain ⟨its, rv, p, hz⟩ := inv_sq I hq
    obtain ⟨u, hu, ru⟩ := rv.get hx
    have lti : i < its.toArray.size := by rw [List.size_toArray]; exact (List.getElem?_eq_some_iff.mp hu).1
    have el : e < s.heap.objs.size := Heap.lt_size he
    have il : it < s.heap.objs.size := by obtain ⟨_, q, _⟩ := hit.obj; exact Heap.lt_size q
    refine wpAny_pyNext_enum_itemC (draws b (A := X.A.in1) (I.ok.hd hc) it a an its.toArray) he ⟨hit, p⟩ lti hne (by simp; exact ⟨hne, Ne.symm ae⟩) fun x1 h' tk px ho st' hT hsz hk => ?_
    have ex : x1 = u := by
      have px' : its.toArray[i]? = some x1 := px
      rw [List.getElem?_toArray, hu] at px'
      exact (Option.some.inj px').symm
    subst ex
    refine ⟨_, rfl, wpAny_letOwnedTupleGo_enum (s := { s with heap := h', toks := tk + 1 }) ho fun h'' he' sb => ?_⟩
    have hT2 : h''.get? s.heap.objs.size = some { cls := .type "tuple", data := .seq #[.int i tk, x1] } := (sb.2 _ (Nat.ne_of_gt el)).trans hT
    have new : ObjOk X.prog X.w (upd H s.heap.objs.size (.tup [.int (i : Nat), x])) h'' s.heap.objs.size (.tup [.int (i : Nat), x]) := ⟨by show 2 ≤ sizeLine; decide, [.int i tk, x1], .cons ⟨_, rfl⟩ (.cons ru .nil), ⟨_, hT2, rfl, _, rfl⟩⟩
    have I1 : Inv X pins σ (upd H s.heap.objs.size (.tup [.int (i : Nat), x])) { s with heap := h'', toks := tk + 1 } :=
      I.turnedNew (ch := [e, it]) (fun c ob hc q => (sb.2 c (fun z => hc (by simp [z]))).trans (hk c ob (fun z => hc (by simp [z])) (fun z => hc (by simp [z])) q)) hf (Nat.le_refl _) new
    refine ⟨.ref s.heap.objs.size, _, I1, rfl, ⟨_, x, rfl, I.hok.fresh (Nat.le_refl _), rfl, fun ys hy => by rw [inv_inj I hy hq]; exact hx⟩, ⟨⟨x1, ?_⟩, st'.1.keep fun o q => (sb.2 it (Ne.symm hne)).trans q, hne, an, ae⟩, fun c hc => ?_⟩
    · have e1 : ((i + 1 : Nat) : Int) = (i : Int) + 1 := by omega
      rw [e1]; exact he'
    · have lt : c < s.heap.objs.size := by
        have two : c = e ∨ c = it := by simpa using hc
        rcases two with z | z
        · rw [z]; exact el
        · rw [z]; exact il
      rw [upd_ne (Nat.ne_of_lt lt)]
      exact (hf c hc).1
  done := by
    intro X hP hw hK hc i pins s σ H E I hf st hg
    subst hP hw hK
    obtain ⟨⟨old, he⟩, hit, hne, an, ae⟩ := st
    obtain ⟨xs, hq, hx⟩ := hg
    obtain ⟨its, rv, p, hz⟩ := inv_sq I hq
    obtain ⟨f0, f1, f2, f3, f4, f5⟩ := hf it (by simp)
    have size : i = its.toArray.size := by rw [List.size_toArray, ← hx]; exact rv.length
    rw [size] at hit
    exact wpAny_pyNext_enum_endD (draws b (A := X.A.in1) (I.ok.hd hc) it a an its.toArray) he ⟨hit, p⟩ fun h' eb => ⟨rfl, I.turned (t' := s.toks) (fun c o hc q => eb c o hc q) f0 f1 f3 f4 f5⟩
  self := fun A i s Q E st h => let ⟨⟨_, he⟩, _⟩ := st; wpAny_pyIter_enum he h
theorem meets_en {v : Value} {o : Obj} {H : Heap → Prop} (B : Begins v o H) :
    Meets (Builtin.«enumerate.__new__» ⟨[.type "enumerate", v], []⟩) (fun _ R s => H s.heap ∧
      R (.ok (.ret (.ref (s.heap.push o).objs.size))) { s with heap := (s.heap.push o).push { cls := .type "enumerate", data := .fields #[.none, .bool false, .ref s.heap.objs.size, rawInt 0, .none, .none] } }) :=
  .of_wp fun prog w A R s hyp => by
    obtain ⟨hp, g, d, tk, os⟩ := s; obtain ⟨h1, hyp⟩ := hyp
    have hsub := sub_enumerate
    have walked : ∀ {A' : Around} {E : Value → Shared → Prop} {Q : Value → Shared → Prop}, Q (.ref hp.objs.size) ⟨hp.push o, g, d, tk, os⟩ → wpAny (model prog w) A' (pyIter v) Q E ⟨hp, g, d, tk, os⟩ :=
      fun q => B.iter prog w _ _ ⟨hp, g, d, tk, os⟩ _ h1 q
    wp_walk using walked
    refine wpAny_stack_any fun st => wpAny_pure ?_
    split
    · rename_i c _ _ _ _ _
      cases (c == Value.type "enumerate")
      · wp_walk using walked
        exact ⟨_, rfl, hyp⟩
      · wp_walk using walked
        exact ⟨_, rfl, hyp⟩
    · wp_walk using walked
      exact ⟨_, rfl, hyp⟩
theorem en_begins {prog : Program} {w : World} {A : Around} {E : Value → Shared → Prop} {s : Shared} {v : Value} {o : Obj} {H : Heap → Prop} {Q : Value → Shared → Prop} (B : Begins v o H) (h1 : H s.heap)
    (hyp : ∀ h', IsEnum h' (s.heap.objs.size + 1) s.heap.objs.size 0 .none → h'.get? s.heap.objs.size = some o → h'.objs.size = s.heap.objs.size + 2 → (∀ b o, s.heap.get? b = some o → h'.get? b = some o) → Q (.ref (s.heap.objs.size + 1)) { s with heap := h' }) :
    wpAny (model prog w) A (call (.type "enumerate") [v]) Q E s := by
  refine callType_new F.called_enumerate (by decide) (F.typeCall_enumerate_1 _) (F.newCall_enumerate_1 _) (fun obj => F.args_object_init_2 obj _) F.entry_enumerate_new (meets_en B) ⟨h1, ?_⟩
  have size1 : (s.heap.push o).objs.size = s.heap.objs.size + 1 := Heap.size_push ..
  show _ ∧ _
  rw [size1]
  have he : IsEnum ((s.heap.push o).push { cls := .type "enumerate", data := .fields #[.none, .bool false, .ref s.heap.objs.size, rawInt 0, .none, .none] }) (s.heap.objs.size + 1) s.heap.objs.size 0 .none := by
    have got := Heap.get?_push_size (s.heap.push o) (o := { cls := .type "enumerate", data := .fields #[.none, .bool false, .ref s.heap.objs.size, rawInt 0, .none, .none] }) rfl
    rw [size1] at got
    exact got
  exact ⟨⟨_, he, rfl⟩, hyp _ he (Heap.get?_push_of_some _ (Heap.get?_push_size _ B.free)) (by rw [Heap.size_push, size1]) fun b o x => Heap.get?_push_of_some _ (Heap.get?_push_of_some _ x)⟩
def iEn (K : PySem.W.Frag) (ta : TA) : TI := fun σ H R => ta σ H fun vs H1 => ∃ a b xs, vs = [.ref a] ∧ Sq K b H1 a xs ∧ R (JEn K b a) H1
theorem pi_en {X : Cx} {e : Expr} {ta : TA} {p pos tpos : Pos} {elts : List Expr} {kk : Nat} (hg : Gl X "enumerate") (hm : X.mg "enumerate" = none) (ha : PA X [e] ta) (hs : starEach [e] X.env = [(false, eval e X.env)] := by rfl) :
    PI X (.Tuple elts kk tpos) (.Call (.Name "enumerate" p) [e] [] pos) (iEn X.K ta) := by
  refine ⟨fun pins s σ H R I hyp => ?_⟩
  refine Call_ (ld_blt I hg hm boot_enumerate (PyProof.Rows.callWith_type1 (thn (ha.run pos pins s σ H _ I hyp) fun us s1 ⟨vs, H1, I1, r1, a, b, xs, ex, hq, q⟩ => ?_) hs rfl))
  subst ex
  cases r1 with
  | cons r rr =>
    cases rr
    cases r
    obtain ⟨its, rv, p', hz⟩ := inv_sq I1 hq
    have lt := p'.lt
    refine en_begins (beg b a its.toArray) p' fun h' he hit hsz hk => wpAny_pyIter_enum he ?_
    have I2 : Inv X pins σ H1 { s1 with heap := h' } := I1.kept (t' := s1.toks) hk
    refine ⟨s1.heap.objs.size + 1, [s1.heap.objs.size + 1, s1.heap.objs.size], _, _, H1, rfl, I2, turn_en b a (s1.heap.objs.size + 1) s1.heap.objs.size, ⟨⟨.none, he⟩, HIt.first hit, Nat.succ_ne_self _, Nat.ne_of_lt lt, Nat.ne_of_lt (Nat.lt_succ_of_lt lt)⟩, fun c hc => ?_, q⟩
    have two : c = s1.heap.objs.size + 1 ∨ c = s1.heap.objs.size := by simpa using hc
    have hle : s1.heap.objs.size ≤ c := by
      rcases two with z | z
      · rw [z]; exact Nat.le_add_right _ _
      · rw [z]; exact Nat.le_refl _
    exact I1.fpOk hle (I1.hok.fresh hle)
theorem walk_en {K : PySem.W.Frag} {b : Bool} {a : Addr} {xs : List V} : Walk (JEn K b a) xs.length (fun H => Sq K b H a xs) (YPair (fun i => some (.int (i : Nat))) (fun i => xs[i]?)) := by
  refine ⟨fun i _ hi q => ⟨xs, xs[i], q, by simp [hi]⟩, fun _ q => ⟨xs, q, rfl⟩, fun i H v H' _ q y => ?_⟩
  obtain ⟨T, x, h1, h2, h3, h4⟩ := y
  exact ⟨T, .int (i : Nat), x, h1, h2, h3, rfl, h4 xs q⟩

/-! ### zip of two -/
def JZp (K : PySem.W.Frag) (b1 b2 : Bool) (a1 a2 : Addr) : It :=
  ⟨fun i H => ∃ (xs ys : List V) (x y : V), Sq K b1 H a1 xs ∧ Sq K b2 H a2 ys ∧ xs[i]? = some x ∧ ys[i]? = some y,
    fun i H v H' => ∃ T x y, v = .ref T ∧ H T = none ∧ H' = upd H T (.tup [x, y]) ∧ (∀ xs, Sq K b1 H a1 xs → xs[i]? = some x) ∧ ∀ ys, Sq K b2 H a2 ys → ys[i]? = some y,
    fun i H => ∃ xs ys : List V, Sq K b1 H a1 xs ∧ Sq K b2 H a2 ys ∧ i = min xs.length ys.length⟩
theorem turn_zp {P : Program} {w : World} {K : PySem.W.Frag} {elts : List Expr} {kk : Nat} {tpos : Pos} {a1 a2 z TI TO i1 i2 : Addr} (b1 b2 : Bool) (S : ZipSep2 z TI TO i1 i2 [i1, a1] [i2, a2]) :
    Turn P w K (.Tuple elts kk tpos) (JZp K b1 b2 a1 a2) [z, TI, TO, i1, i2] z (fun i h => IsZip h z TI TO .none ∧ IsTupOf2 h TI (.ref i1) (.ref i2) ∧ (∃ x y, IsTupOf2 h TO x y) ∧ HIt b1 h i1 a1 i ∧ HIt b2 h i2 a2 i ∧ a1 ≠ i1 ∧ a2 ≠ i2) where
  mem := by simp
  obj := fun i h st c hc => by
    obtain ⟨hz, hTI, ⟨x, y, hTO⟩, o1, o2, _⟩ := st
    have five : c = z ∨ c = TI ∨ c = TO ∨ c = i1 ∨ c = i2 := by simpa using hc
    rcases five with q | q | q | q | q
    · rw [q]; exact ⟨_, hz, fun v q => nomatch q⟩
    · rw [q]; exact ⟨_, hTI, fun v q => nomatch q⟩
    · rw [q]; exact ⟨_, hTO, fun v q => nomatch q⟩
    · rw [q]; exact o1.obj
    · rw [q]; exact o2.obj
  keep := fun i h h' st k => by
    obtain ⟨hz, hTI, ⟨x, y, hTO⟩, h1, h2, ne⟩ := st
    exact ⟨k z (by simp) _ hz, k TI (by simp) _ hTI, ⟨x, y, k TO (by simp) _ hTO⟩, h1.keep fun o q => k i1 (by simp) o q, h2.keep fun o q => k i2 (by simp) o q, ne⟩
  item := by
    intro X hP hw hK hc i pins s σ H E I hf st hg
    subst hP hw hK
    obtain ⟨hz, hTI, ⟨x0, y0, hTO⟩, h1, h2, n1, n2⟩ := st
    obtain ⟨xs, ys, x, y, hqx, hqy, hx, hy⟩ := hg
    obtain ⟨its, rv, p, _⟩ := inv_sq I hqx
    obtain ⟨its2, rv2, p2, _⟩ := inv_sq I hqy
    obtain ⟨u, hu, ru⟩ := rv.get hx
    obtain ⟨u2, hu2, ru2⟩ := rv2.get hy
    have lt1 : i < its.toArray.size := by rw [List.size_toArray]; exact (List.getElem?_eq_some_iff.mp hu).1
    have lt2 : i < its2.toArray.size := by rw [List.size_toArray]; exact (List.getElem?_eq_some_iff.mp hu2).1
    have zl : z < s.heap.objs.size := Heap.lt_size hz
    refine wpAny_pyNext_zipD2_item S (draws b1 (A := X.A.in1) (I.ok.hd hc) i1 a1 n1 its.toArray) (draws b2 (A := X.A.in1) (I.ok.hd hc) i2 a2 n2 its2.toArray) hz hTI hTO ⟨h1, p⟩ ⟨h2, p2⟩ lt1 lt2 fun v1 v2 h' tk e1 e2 z' TO' s1' s2' hT hsz hk => ?_
    have q1 : v1 = u := by
      have e1' : its.toArray[i]? = some v1 := e1
      rw [List.getElem?_toArray, hu] at e1'
      exact (Option.some.inj e1').symm
    have q2 : v2 = u2 := by
      have e2' : its2.toArray[i]? = some v2 := e2
      rw [List.getElem?_toArray, hu2] at e2'
      exact (Option.some.inj e2').symm
    subst q1 q2
    refine ⟨_, rfl, wpAny_letOwnedTupleGo_zip (s := { s with heap := h', toks := tk }) z' fun h'' z'' sb => ?_⟩
    have hT2 : h''.get? s.heap.objs.size = some { cls := .type "tuple", data := .seq #[v1, v2] } := (sb.2 _ (Nat.ne_of_gt zl)).trans hT
    have new : ObjOk X.prog X.w (upd H s.heap.objs.size (.tup [x, y])) h'' s.heap.objs.size (.tup [x, y]) := ⟨by show 2 ≤ sizeLine; decide, [v1, v2], .cons ru (.cons ru2 .nil), ⟨_, hT2, rfl, _, rfl⟩⟩
    have I1 : Inv X pins σ (upd H s.heap.objs.size (.tup [x, y])) { s with heap := h'', toks := tk } :=
      I.turnedNew (ch := [z, TI, TO, i1, i2]) (fun c o hb q => (sb.2 c (fun q' => hb (by simp [q']))).trans (hk c o (fun q' => hb (by simp [q'])) (fun q' => hb (by simp [q'])) (fun q' => hb (by simp [q'])) (fun q' => hb (by simp [q'])) q)) hf (Nat.le_refl _) new
    refine ⟨.ref s.heap.objs.size, _, I1, rfl, ⟨_, x, y, rfl, I.hok.fresh (Nat.le_refl _), rfl, fun l hl => by rw [inv_inj I hl hqx]; exact hx, fun l hl => by rw [inv_inj I hl hqy]; exact hy⟩, ⟨z'', ?_, ⟨v1, v2, ?_⟩, ?_, ?_, n1, n2⟩, fun c hcm => ?_⟩
    · exact (sb.2 _ S.TIz).trans (hk _ _ S.TIz S.TITO S.TIi1 S.TIi2 hTI)
    · exact (sb.2 _ S.TOz).trans TO'
    · exact s1'.1.keep fun o q => (sb.2 _ (Ne.symm S.zi1)).trans q
    · exact s2'.1.keep fun o q => (sb.2 _ (Ne.symm S.zi2)).trans q
    · have lt : c < s.heap.objs.size := by
        have five : c = z ∨ c = TI ∨ c = TO ∨ c = i1 ∨ c = i2 := by simpa using hcm
        rcases five with q | q | q | q | q
        · rw [q]; exact zl
        · rw [q]; exact Heap.lt_size hTI
        · rw [q]; exact Heap.lt_size hTO
        · rw [q]; obtain ⟨_, e1, _⟩ := h1.obj; exact Heap.lt_size e1
        · rw [q]; obtain ⟨_, e2, _⟩ := h2.obj; exact Heap.lt_size e2
      rw [upd_ne (Nat.ne_of_lt lt)]
      exact (hf c hcm).1
  done := by
    intro X hP hw hK hc i pins s σ H E I hf st hg
    subst hP hw hK
    obtain ⟨hz, hTI, ⟨x0, y0, hTO⟩, h1, h2, n1, n2⟩ := st
    obtain ⟨xs, ys, hqx, hqy, hend⟩ := hg
    obtain ⟨its, rv, p, _⟩ := inv_sq I hqx
    obtain ⟨its2, rv2, p2, _⟩ := inv_sq I hqy
    have l1 : xs.length = its.toArray.size := by rw [List.size_toArray]; exact rv.length
    have l2 : ys.length = its2.toArray.size := by rw [List.size_toArray]; exact rv2.length
    exact wpAny_pyNext_zipD2_end S (draws b1 (A := X.A.in1) (I.ok.hd hc) i1 a1 n1 its.toArray) (draws b2 (A := X.A.in1) (I.ok.hd hc) i2 a2 n2 its2.toArray) hz hTI hTO ⟨h1, p⟩ ⟨h2, p2⟩ (by omega) (by omega) (by omega) fun h' tk hk =>
      ⟨rfl, I.turnedL (t' := tk) (ch := [z, TI, TO, i1, i2]) (fun c o hb q => hk c o (fun q' => hb (by simp [q'])) (fun q' => hb (by simp [q'])) (fun q' => hb (by simp [q'])) (fun q' => hb (by simp [q'])) q) hf⟩
  self := fun A i s Q E st h => wpAny_pyIter_zip st.1 h
def iZp (K : PySem.W.Frag) (ta : TA) : TI := fun σ H R => ta σ H fun vs H1 => ∃ a1 a2 b1 b2 xs ys, vs = [.ref a1, .ref a2] ∧ Sq K b1 H1 a1 xs ∧ Sq K b2 H1 a2 ys ∧ R (JZp K b1 b2 a1 a2) H1
theorem pi_zp {X : Cx} {e e2 : Expr} {ta : TA} {p pos tpos : Pos} {elts : List Expr} {kk : Nat} (hg : Gl X "zip") (hm : X.mg "zip" = none) (ha : PA X [e, e2] ta)
    (hs : starEach [e, e2] X.env = (false, eval e X.env) :: starEach [e2] X.env := by rfl) (hpl : (backTo pos (starEach [e2] X.env)).any (·.1) = false := by rfl) :
    PI X (.Tuple elts kk tpos) (.Call (.Name "zip" p) [e, e2] [] pos) (iZp X.K ta) := by
  refine ⟨fun pins s σ H R I hyp => ?_⟩
  refine Call_ (ld_blt I hg hm PyProof.Rows.boot_zip (PyProof.Rows.callWith_type1 (thn (ha.run pos pins s σ H _ I hyp) fun us s1 ⟨vs, H1, I1, r1, a1, a2, b1, b2, xs, ys, ex, hqx, hqy, q⟩ => ?_) hs hpl))
  subst ex
  cases r1 with
  | cons r rr =>
    cases rr with
    | cons r' rr =>
      cases rr
      cases r
      cases r'
      obtain ⟨its, rv, p1, _⟩ := inv_sq I1 hqx
      obtain ⟨its2, rv2, p2, _⟩ := inv_sq I1 hqy
      have l1 := p1.lt
      have l2 := p2.lt
      refine zip_begins2 (beg b1 a1 its.toArray) (beg b2 a2 its2.toArray) p1 p2 fun h' hz hTI hTO g1 g2 hsz hk => wpAny_pyIter_zip hz ?_
      have I2 : Inv X pins σ H1 { s1 with heap := h' } := I1.kept (t' := s1.toks) hk
      have sep : ZipSep2 (s1.heap.objs.size + 4) (s1.heap.objs.size + 2) (s1.heap.objs.size + 3) s1.heap.objs.size (s1.heap.objs.size + 1) [s1.heap.objs.size, a1] [s1.heap.objs.size + 1, a2] :=
        zip_sep2 (fp1 := [a1]) (fp2 := [a2]) (fun c hc => by rw [List.mem_singleton.mp hc]; exact l1) (fun c hc => by rw [List.mem_singleton.mp hc]; exact l2)
      refine ⟨s1.heap.objs.size + 4, [s1.heap.objs.size + 4, s1.heap.objs.size + 2, s1.heap.objs.size + 3, s1.heap.objs.size, s1.heap.objs.size + 1], _, _, H1, rfl, I2, turn_zp b1 b2 sep,
        ⟨hz, hTI, ⟨_, _, hTO⟩, HIt.first g1, HIt.first g2, Nat.ne_of_lt l1, Nat.ne_of_lt (Nat.lt_succ_of_lt l2)⟩, fun c hcm => ?_, q⟩
      have hle : s1.heap.objs.size ≤ c := by
        have five : c = s1.heap.objs.size + 4 ∨ c = s1.heap.objs.size + 2 ∨ c = s1.heap.objs.size + 3 ∨ c = s1.heap.objs.size ∨ c = s1.heap.objs.size + 1 := by simpa using hcm
        rcases five with z | z | z | z | z
        · rw [z]; exact Nat.le_add_right _ _
        · rw [z]; exact Nat.le_add_right _ _
        · rw [z]; exact Nat.le_add_right _ _
        · rw [z]; exact Nat.le_refl _
        · rw [z]; exact Nat.le_add_right _ _
      exact I1.fpOk hle (I1.hok.fresh hle)
theorem walk_zp {K : PySem.W.Frag} {b1 b2 : Bool} {a1 a2 : Addr} {xs ys : List V} {n : Nat} (hn : n = min xs.length ys.length) : Walk (JZp K b1 b2 a1 a2) n (fun H => Sq K b1 H a1 xs ∧ Sq K b2 H a2 ys) (YPair (fun i => xs[i]?) (fun i => ys[i]?)) := by
  subst hn
  refine ⟨fun i _ hi q => ?_, fun _ q => ⟨xs, ys, q.1, q.2, rfl⟩, fun i H v H' _ q y => ?_⟩
  · have h1 : i < xs.length := by omega
    have h2 : i < ys.length := by omega
    exact ⟨xs, ys, xs[i], ys[i], q.1, q.2, by simp [h1], by simp [h2]⟩
  · obtain ⟨T, x, z, h1, h2, h3, h4, h5⟩ := y
    exact ⟨T, x, z, h1, h2, h3, h4 xs q.1, h5 ys q.2⟩
end Pv
end PvO_

section PvP_
set_option Elab.async false
set_option linter.all false
set_option maxRecDepth 100000
set_option maxHeartbeats 4000000
namespace Pv
open PySem PySem.Spec PyProof.Rows L2

/-! ### values or new lists -/
def RV (K : PySem.W.Frag) : Fm → Wd → S → L2.St → Hp → SV → V → Prop := fun f w s σ H x v => match x with
  | .d d => Rep K w d v
  | .o xs => RF K f w s σ H xs v
  | _ => False
abbrev tV (K : PySem.W.Frag) (W : WX) (m : M SV) : TE := tG K W (RV K) m
def mVal (m : M D) : M SV := fun s => (m s).bind fun x s1 => .ok (.d x) s1
def mNew (m : M (List D)) : M SV := fun s => (m s).bind fun xs s1 => .ok (.o xs) s1
section
variable {K : PySem.W.Frag} {f f' : Fm} {w : Wd} {s : S} {σ : L2.St} {H : Hp} {W : WX}
theorem Po.map {α β γ : Type} {R : Fm → Wd → S → L2.St → Hp → α → γ → Prop} {R' : Fm → Wd → S → L2.St → Hp → β → γ → Prop} {Q : γ → Hp → Prop} {o : Out α} {k : α → β} (h : Po K f W R' w σ Q (o.bind fun x s1 => .ok (k x) s1))
    (q : ∀ w s H a b, R f w s σ H a b → R' f w s σ H (k a) b) : Po K f W R w σ Q o := by
  cases o with
  | ok a s => exact fun w2 H2 b e2 st r => h w2 H2 b e2 st (q _ _ _ _ _ r)
  | exc x s => exact h
  | no => exact h
/-- a thing is held while more is done -/
structure Hold (K : PySem.W.Frag) (f f' : Fm) (σ : L2.St) (w1 : Wd) (x : SV) (v : V) : Prop where
  st : ∀ w2 s2 H2, Ext w1 w2 → StOk K f' w2 s2 σ H2 → StOk K f w2 s2 σ H2 ∧ RV K f w2 s2 σ H2 x v
  rv : ∀ w2 s2 H2 y u, RV K f' w2 s2 σ H2 y u → RV K f w2 s2 σ H2 y u ∧ (x.own = true → y.own = true → v ≠ u)
theorem RV.hold {x : SV} {v : V} (r : RV K f w s σ H x v) (st : StOk K f w s σ H) : ∃ f', StOk K f' w s σ H ∧ Hold K f f' σ w x v := by
  cases x with
  | d d => exact ⟨f, st, fun w2 s2 H2 e st2 => ⟨st2, Rep.mono e r⟩, fun w2 s2 H2 y u r => ⟨r, fun z => nomatch z⟩⟩
  | o xs =>
    obtain ⟨p, vs, rfl, h1, h2, h3, h4, h5, h6⟩ := r
    refine ⟨_, st.guard h1 h3 h5 h4 h6, fun w2 s2 H2 e st2 => ?_, fun w2 s2 H2 y u r => ?_⟩
    · obtain ⟨u1, u2, u3, u4, u5⟩ := StOk.unguard st st2 h5 h4 (Same.free st.f0 h3)
      exact ⟨u1, p, vs, rfl, u2, RepAll.mono e h2, u3, by rw [u4]; exact h4, h5, u5⟩
    · cases y with
      | d d => exact ⟨r, fun _ z => nomatch z⟩
      | o ys =>
        obtain ⟨q, us, rfl, g1, g2, g3, g4, g5, g6⟩ := r
        have np : q ≠ p := fun z => by
          rw [z] at g5
          have e : (f.guard p (.lst vs) w.bp).H0 p = some (.lst vs) := if_pos rfl
          rw [e] at g5
          cases g5
        have g5' : f.H0 q = none := by
          have e : (f.guard p (.lst vs) w.bp).H0 q = f.H0 q := if_neg np
          rw [← e]
          exact g5
        exact ⟨⟨q, us, rfl, g1, g2, g3, g4, g5', g6⟩, fun _ _ z => np (by cases z; rfl)⟩
      | no => exact r.elim
      | bx => exact r.elim
      | ok _ => exact r.elim
      | ot _ => exact r.elim
  | no => exact r.elim
  | bx => exact r.elim
  | ok _ => exact r.elim
  | ot _ => exact r.elim
theorem StOk.setV (st : StOk K f w s σ H) {i : Nat} {x : SV} {v : V} (r : RV K f w s σ H x v) : StOk K f w (setS i x s) (σ.set i (some v)) H := by
  cases x with
  | d d => exact st.set r
  | o xs => exact st.setF r
  | no => exact r.elim
  | bx => exact r.elim
  | ok _ => exact r.elim
  | ot _ => exact r.elim
theorem RV.later {x y : SV} {v u : V} {i : Nat} (r : RV K f w s σ H y u) (ap : x.own = true → y.own = true → v ≠ u) : RV K f w (setS i x s) (σ.set i (some v)) H y u := by
  cases y with
  | d d => exact r
  | o ys =>
    obtain ⟨q, us, rfl, g1, g2, g3, g4, g5, g6⟩ := r
    refine ⟨q, us, rfl, g1, g2, g3, g4, g5, fun k z e o => ?_⟩
    rcases getElem?_set_cases e with ⟨rfl, rfl⟩ | ⟨n, e⟩
    · have := ap o rfl
      intro hz
      by_cases hi : i < σ.length
      · rw [List.getElem?_set_self hi] at hz
        exact this (Option.some.inj hz)
      · rw [List.getElem?_eq_none (by simpa using hi)] at hz
        cases hz
    · rw [List.getElem?_set_ne n]
      exact g6 k z e o
  | no => exact r.elim
  | bx => exact r.elim
  | ok _ => exact r.elim
  | ot _ => exact r.elim
theorem Po.held {α β : Type} {R R' : Fm → Wd → S → L2.St → Hp → α → β → Prop} {Q : β → Hp → Prop} {o : Out α} (hf : ∀ w2 s2 H2, Ext w w2 → StOk K f' w2 s2 σ H2 → StOk K f w2 s2 σ H2) (h : Po K f W R w σ Q o) (q : ∀ w s H a b, R' f' w s σ H a b → R f w s σ H a b) : Po K f' W R' w σ Q o := by
  cases o with
  | ok a s => exact fun w2 H2 b e2 st r => h w2 H2 b e2 (hf _ _ _ e2 st) (q _ _ _ _ _ r)
  | exc x s => exact fun w2 H2 c dd e2 st r => h w2 H2 c dd e2 (hf _ _ _ e2 st) r
  | no => exact h
end
section
variable {X : Cx} {W : WX} {a b c e : Expr} {pos : Pos} {m : M D} {ma mb mc : M SV}
theorem v_val (h : PE X e (tM X.K W m)) : PE X e (tV X.K W (mVal m)) := pe_imp h fun σ H Q ⟨f, w, s, st, q⟩ => ⟨f, w, s, st, Po.map q fun _ _ _ _ _ r => r⟩
theorem v_new {m : M (List D)} (h : PE X e (tF X.K W m)) : PE X e (tV X.K W (mNew m)) := pe_imp h fun σ H Q ⟨f, w, s, st, q⟩ => ⟨f, w, s, st, Po.map q fun _ _ _ _ _ r => r⟩
/-- name = value or new list -/
def sSetV (i : Nat) (m : M SV) : MS := fun s => (m s).toS fun x s1 => .nx (setS i x s1)
theorem s_setV {i : Nat} {x : Str} {pos' : Pos} (hN : X.N.Nodup) (hi : X.N[i]? = some x) (hx : Loc X.env.scope x) (he : PE X e (tV X.K W ma)) (hs : swapsWith e (some (.Name x pos')) pos.line X.env = pure false := by rfl)
    (hf : X.fn x = true ∨ X.env.scope.names.lookup x = some .local := by first | exact .inl rfl | exact .inr rfl | assumption) : PS X (.Assign [.Name x pos'] e pos) (tS X.K W (sSetV i ma)) := by
  refine ps_imp (ps_set hN hi hx he hs hf) fun E σ H ⟨f, w, s, st, p⟩ => ?_
  exact ⟨f, w, s, st, PoS.thn p fun a w1 s1 b H1 e1 st1 r1 p1 => p1 w1 _ H1 (Ext.refl _) (st1.setV r1)⟩
/-- name = [.. for ..] on one line -/
theorem s_setLc {i : Nat} {y : Str} {py : Pos} {elt tg iter : Expr} {ifs : List Expr} {scope : Scope} {own : List (Str × Nat)} {spos : Pos} {mi : M (List D)} {g : D → S → Option S} {ts : List Nat} {tt : M Bool} {me : M D} (hc : X.calm = true) (hN : X.N.Nodup)
    (hy : X.N[i]? = some y) (hyl : X.env.scope.names.lookup y = some .local) (hsw : swapsWith (.ListComp elt [⟨tg, iter, ifs, 0⟩] scope pos) (some (.Name y py)) spos.line X.env = pure true) (hi : PI X tg iter (tI X.K W mi)) (ok : BlkOk X.N X.env.scope scope own) (hts : ∀ i ∈ ts, i ∈ own.map (·.2))
    (hg : ∀ (s : Shared) (H : Hp) (C : Addr) (cl : List (Str × Addr)) (fp : List Addr), PG (X.blk s H scope (compEnvC scope cl C X.env) fp) tg (tTg X.K ts g))
    (ht : ∀ (s : Shared) (H : Hp) (C : Addr) (cl : List (Str × Addr)) (fp : List Addr), PTs (X.blk s H scope (compEnvC scope cl C X.env) fp) ifs (tT X.K W0 tt))
    (he : ∀ (s : Shared) (H : Hp) (C : Addr) (cl : List (Str × Addr)) (fp : List Addr), PE (X.blk s H scope (compEnvC scope cl C X.env) fp) elt (tM X.K W0 me)) (hs : ∀ x, foldedSetIterable iter X.env x = pure x := by intro _; rfl) :
    PS X (.Assign [.Name y py] (.ListComp elt [⟨tg, iter, ifs, 0⟩] scope pos) spos) (tS X.K W (sSetF i (mComp mi g tt me (own.map (·.2))))) := by
  refine ps_imp (ps_setLc hc hN hy hyl hsw hi ok hg ht he hs) fun E σ H ⟨f, w, s, st, p⟩ => ?_
  exact c_comp hts σ H _ ⟨f, w, s, st, PoS.thn p fun a w1 s1 b H1 e1 st1 r1 p1 => p1 w1 _ H1 (Ext.refl _) (st1.setF r1)⟩
/-- a, b = x, y -/
def sParV (i j : Nat) (ma mb : M SV) : MS := fun s => (ma s).toS fun x s1 => (mb s1).toS fun y s2 => .nx (setS j y (setS i x s2))
theorem s_parV {i j : Nat} {x y : Str} {px py pt : Pos} {kt k2 pt2} (hc : X.calm = true) (hN : X.N.Nodup) (hi : X.N[i]? = some x) (hj : X.N[j]? = some y) (hij : i ≠ j)
    (hx : X.env.scope.names.lookup x = some .local) (hy : X.env.scope.names.lookup y = some .local) (ha : PE X a (tV X.K W ma)) (hb : PE X b (tV X.K W mb))
    (hw : swappedStores [.Tuple [.Name x px, .Name y py] kt pt] (.Tuple [a, b] k2 pt2) X.env = pure (some [x, y]) := by rfl)
    (hs : swapsWithSole [.Tuple [.Name x px, .Name y py] kt pt] (.Tuple [a, b] k2 pt2) pos.line X.env = pure false := by rfl)
    (n1 : starEach [a, b] X.env = (false, eval a X.env) :: starEach [b] X.env := by rfl) (n2 : starEach [b] X.env = (false, eval b X.env) :: starEach [] X.env := by rfl) :
    PS X (.Assign [.Tuple [.Name x px, .Name y py] kt pt] (.Tuple [a, b] k2 pt2) pos) (tS X.K W (sParV i j ma mb)) := by
  refine ps_imp (ps_par hc hN hi hj hij hx hy (pa_cons ha (pa_cons hb pa_nil n2) n1) hw hs) fun E σ H ⟨f, w, s, st, p⟩ => ?_
  refine ⟨f, w, s, st, PoS.thn p fun x w1 s1 v H1 e1 st1 r1 p1 => ?_⟩
  obtain ⟨f', st1', hold⟩ := r1.hold st1
  refine ⟨f', w1, s1, st1', ?_⟩
  cases em : mb s1 with
  | no => rw [em] at p1; exact p1.elim
  | exc z s2 =>
    rw [em] at p1
    exact fun w2 H2 c dd e2 st2 r => p1 w2 σ H2 c dd e2 (hold.st _ _ _ e2 st2).1 r
  | ok y s2 =>
    rw [em] at p1
    intro w2 H2 u e2 st2 r2
    obtain ⟨st3, r1'⟩ := hold.st _ _ _ e2 st2
    obtain ⟨r2', ap⟩ := hold.rv _ _ _ _ _ r2
    exact ⟨v, u, rfl, p1 w2 _ H2 e2 ((st3.setV r1').setV (r2'.later ap))⟩
def sPar3V (i j l : Nat) (ma mb mc : M SV) : MS := fun s => (ma s).toS fun x s1 => (mb s1).toS fun y s2 => (mc s2).toS fun z s3 => .nx (setS l z (setS j y (setS i x s3)))
theorem s_par3V {i j l : Nat} {x y z : Str} {px py pz pt : Pos} {kt k2 pt2} (hc : X.calm = true) (hN : X.N.Nodup) (hi : X.N[i]? = some x) (hj : X.N[j]? = some y) (hl : X.N[l]? = some z) (hij : i ≠ j) (hil : i ≠ l) (hjl : j ≠ l)
    (hx : X.env.scope.names.lookup x = some .local) (hy : X.env.scope.names.lookup y = some .local) (hz : X.env.scope.names.lookup z = some .local) (ha : PE X a (tV X.K W ma)) (hb : PE X b (tV X.K W mb)) (hd : PE X c (tV X.K W mc))
    (hw : swappedStores [.Tuple [.Name x px, .Name y py, .Name z pz] kt pt] (.Tuple [a, b, c] k2 pt2) X.env = pure (some [x, y, z]) := by rfl)
    (hs : swapsWithSole [.Tuple [.Name x px, .Name y py, .Name z pz] kt pt] (.Tuple [a, b, c] k2 pt2) pos.line X.env = pure false := by rfl)
    (n1 : starEach [a, b, c] X.env = (false, eval a X.env) :: starEach [b, c] X.env := by rfl) (n2 : starEach [b, c] X.env = (false, eval b X.env) :: starEach [c] X.env := by rfl) (n3 : starEach [c] X.env = (false, eval c X.env) :: starEach [] X.env := by rfl) :
    PS X (.Assign [.Tuple [.Name x px, .Name y py, .Name z pz] kt pt] (.Tuple [a, b, c] k2 pt2) pos) (tS X.K W (sPar3V i j l ma mb mc)) := by
  refine ps_imp (ps_par3 hc hN hi hj hl hij hil hjl hx hy hz (pa_cons ha (pa_cons hb (pa_cons hd pa_nil n3) n2) n1) hw hs) fun E σ H ⟨f, w, s, st, p⟩ => ?_
  refine ⟨f, w, s, st, PoS.thn p fun x w1 s1 v H1 e1 st1 r1 p1 => ?_⟩
  obtain ⟨f1, st1', h1⟩ := r1.hold st1
  refine ⟨f1, w1, s1, st1', ?_⟩
  cases em : mb s1 with
  | no => rw [em] at p1; exact p1.elim
  | exc z s2 =>
    rw [em] at p1
    exact fun w2 H2 c dd e2 st2 r => p1 w2 σ H2 c dd e2 (h1.st _ _ _ e2 st2).1 r
  | ok y s2 =>
    rw [em] at p1
    intro w2 H2 u e2 st2 r2
    obtain ⟨f2, st2', h2⟩ := r2.hold st2
    refine ⟨f2, w2, s2, st2', ?_⟩
    have p2 : PoS X.K f W w1 E ((mc s2).toS fun z s3 => .nx (setS l z (setS j y (setS i x s3)))) := p1
    cases en : mc s2 with
    | no => rw [en] at p2; exact p2.elim
    | exc z s3 =>
      rw [en] at p2
      exact fun w3 H3 c dd e3 st3 r => p2 w3 σ H3 c dd (e2.trans e3) (h1.st _ _ _ (e2.trans e3) (h2.st _ _ _ e3 st3).1).1 r
    | ok z s3 =>
      rw [en] at p2
      intro w3 H3 t e3 st3 r3
      obtain ⟨st4, r2'⟩ := h2.st _ _ _ e3 st3
      obtain ⟨r3', a23⟩ := h2.rv _ _ _ _ _ r3
      obtain ⟨st5, r1'⟩ := h1.st _ _ _ (e2.trans e3) st4
      obtain ⟨r2'', a12⟩ := h1.rv _ _ _ _ _ r2'
      obtain ⟨r3'', a13⟩ := h1.rv _ _ _ _ _ r3'
      exact ⟨v, u, t, rfl, p2 w3 _ H3 (e2.trans e3) (((st5.setV r1').setV (r2''.later a12)).setV ((r3''.later a13).later a23))⟩
end
end Pv
end PvP_

section PvQ_
set_option Elab.async false
set_option linter.all false
set_option maxRecDepth 100000
set_option maxHeartbeats 4000000
namespace Pv
open PySem PySem.Spec PyProof.Rows L2

/-! ### enumerate, zip -/
def seqD : D → Option (Bool × List D)
  | .lst xs => some (true, xs)
  | .tup xs => some (false, xs)
  | .scr ns => some (true, ns.map .int)
  | _ => none
def enD : Nat → List D → List D
  | _, [] => []
  | i, x :: r => .tup [.int (i : Nat), x] :: enD (i + 1) r
theorem enD_get : ∀ {xs : List D} {k i : Nat}, (enD k xs)[i]? = xs[i]?.map fun x => .tup [.int ((k + i : Nat) : Int), x]
  | [], _, _ => by simp [enD]
  | x :: r, k, 0 => by simp [enD]
  | x :: r, k, i + 1 => by
    show (enD (k + 1) r)[i]? = _
    rw [enD_get, List.getElem?_cons_succ, show k + 1 + i = k + (i + 1) by omega]
theorem enD_len : ∀ {xs : List D} {k : Nat}, (enD k xs).length = xs.length
  | [], _ => rfl
  | x :: r, k => by show (enD (k + 1) r).length + 1 = r.length + 1; rw [enD_len]
def zpD (xs ys : List D) : List D := List.zipWith (fun x y => .tup [x, y]) xs ys
section
variable {K : PySem.W.Frag} {w : Wd} {f : Fm} {s : S} {σ : L2.St} {H : Hp}
theorem Rep.sq {d : D} {v : V} {b : Bool} {xs : List D} (r : Rep K w d v) (e : seqD d = some (b, xs)) : ∃ a vs, v = .ref a ∧ Sq K b w.F a vs ∧ RepAll K w xs vs := by
  cases d with
  | lst ys =>
    cases e
    obtain ⟨a, vs, h1, h2, h3⟩ := r
    exact ⟨a, vs, h1, .inl (.inl h2), h3⟩
  | tup ys =>
    cases e
    obtain ⟨a, vs, h1, h2, h3⟩ := r
    exact ⟨a, vs, h1, h2, h3⟩
  | scr ns =>
    cases e
    obtain ⟨a, h1, h2⟩ := r
    exact ⟨a, _, h1, h2, RepAll.of_ints ns⟩
  | _ => cases e
theorem Sq.mono {H H' : Hp} {b : Bool} {a : Addr} {vs : List V} (e : Same H H') (q : Sq K b H a vs) : Sq K b H' a vs := by
  cases b with
  | true => exact e.seq q
  | false => exact same_seqT e q
theorem wk_en {b : Bool} {a : Addr} {xs : List D} {vs : List V} (q : Sq K b w.F a vs) (r : RepAll K w xs vs) : Wk K w (JEn K b a) (enD 0 xs) := by
  have wl := walk_en (K := K) (b := b) (a := a) (xs := vs)
  rw [r.length, ← enD_len (k := 0)] at wl
  refine ⟨_, _, wl, fun H e => q.mono e, fun i H x H1 d y e => .inr ?_⟩
  obtain ⟨T, y1, y2, h1, h2, h3, h4, h5⟩ := y
  rw [enD_get] at e
  obtain ⟨z, ez, rfl⟩ := Option.map_eq_some_iff.mp e
  obtain ⟨u, eu, ru⟩ := r.get ez
  have h4' : some (V.int (i : Nat)) = some y1 := h4
  have h5' : vs[i]? = some y2 := h5
  rw [eu] at h5'
  cases h4'
  cases h5'
  exact ⟨T, _, [.int ((0 + i : Nat) : Int), z], h1, h2, h3, rfl, RepAll.cons (by rw [Nat.zero_add]; rfl) (RepAll.one ru)⟩
theorem wk_zp {b1 b2 : Bool} {a1 a2 : Addr} {xs ys : List D} {vs us : List V} (q1 : Sq K b1 w.F a1 vs) (r1 : RepAll K w xs vs) (q2 : Sq K b2 w.F a2 us) (r2 : RepAll K w ys us) : Wk K w (JZp K b1 b2 a1 a2) (zpD xs ys) := by
  have wl := walk_zp (K := K) (b1 := b1) (b2 := b2) (a1 := a1) (a2 := a2) (xs := vs) (ys := us) (n := (zpD xs ys).length) (by unfold zpD; rw [List.length_zipWith, r1.length, r2.length])
  refine ⟨_, _, wl, fun H e => ⟨q1.mono e, q2.mono e⟩, fun i H x H1 d y e => .inr ?_⟩
  obtain ⟨T, y1, y2, h1, h2, h3, h4, h5⟩ := y
  unfold zpD at e
  rw [List.getElem?_zipWith] at e
  cases ex : xs[i]? with
  | none => rw [ex] at e; cases e
  | some p =>
    cases ey : ys[i]? with
    | none => rw [ex, ey] at e; cases e
    | some q =>
      rw [ex, ey] at e
      cases e
      obtain ⟨u1, e1, s1⟩ := r1.get ex
      obtain ⟨u2, e2, s2⟩ := r2.get ey
      have h4' : vs[i]? = some y1 := h4
      have h5' : us[i]? = some y2 := h5
      rw [e1] at h4'
      rw [e2] at h5'
      cases h4'
      cases h5'
      exact ⟨T, _, [p, q], h1, h2, h3, rfl, RepAll.cons s1 (RepAll.one s2)⟩
end
def iEnM (m : M D) : M (List D) := fun s => (m s).bind fun d s1 => match seqD d with
  | some (_, xs) => .ok (enD 0 xs) s1
  | none => .no
def iZpM (ma mb : M D) : M (List D) := fun s => (ma s).bind fun x s1 => (mb s1).bind fun y s2 => match seqD x, seqD y with
  | some (_, xs), some (_, ys) => .ok (zpD xs ys) s2
  | _, _ => .no
section
variable {X : Cx} {W : WX} {a b e : Expr} {p pos tpos : Pos} {elts : List Expr} {kk : Nat} {ma mb m : M D}
theorem i_en (hg : Gl X "enumerate") (hm : X.mg "enumerate" = none) (ha : PE X a (tM X.K W m)) (hs : starEach [a] X.env = [(false, eval a X.env)] := by rfl) : PI X (.Tuple elts kk tpos) (.Call (.Name "enumerate" p) [a] [] pos) (tI X.K W (iEnM m)) := by
  refine pi_imp (pi_en hg hm (pa_cons ha pa_nil hs) hs) fun σ H R ⟨f, w, s, st, q⟩ => ⟨f, w, s, st, Po.thn q fun x w1 s1 v H1 e1 st1 r1 p1 => ?_⟩
  cases ed : seqD x with
  | none => rw [ed] at p1; exact p1.elim
  | some bx =>
    obtain ⟨b, xs⟩ := bx
    rw [ed] at p1
    obtain ⟨a', vs, rfl, h1, h2⟩ := r1.sq ed
    exact ⟨a', b, vs, rfl, h1.mono st1.sub, p1 w1 H1 _ (Ext.refl _) st1 (wk_en h1 h2)⟩
theorem i_zp (hg : Gl X "zip") (hm : X.mg "zip" = none) (ha : PE X a (tM X.K W ma)) (hb : PE X b (tM X.K W mb)) (hs : starEach [a, b] X.env = (false, eval a X.env) :: starEach [b] X.env := by rfl) (hs2 : starEach [b] X.env = (false, eval b X.env) :: starEach [] X.env := by rfl)
    (hpl : (backTo pos (starEach [b] X.env)).any (·.1) = false := by rfl) : PI X (.Tuple elts kk tpos) (.Call (.Name "zip" p) [a, b] [] pos) (tI X.K W (iZpM ma mb)) := by
  refine pi_imp (pi_zp hg hm (pa_cons ha (pa_cons hb pa_nil hs2) hs) hs hpl) fun σ H R ⟨f, w, s, st, q⟩ => ⟨f, w, s, st, Po.thn q fun x w1 s1 v H1 e1 st1 r1 p1 => ⟨f, w1, s1, st1, Po.thn p1 fun y w2 s2 u H2 e2 st2 r2 p2 => ?_⟩⟩
  cases ex : seqD x with
  | none => rw [ex] at p2; exact p2.elim
  | some bx =>
    cases ey : seqD y with
    | none => rw [ex, ey] at p2; exact p2.elim
    | some by' =>
      obtain ⟨b1, xs⟩ := bx
      obtain ⟨b2, ys⟩ := by'
      rw [ex, ey] at p2
      obtain ⟨a1, vs, rfl, h1, h2⟩ := (Rep.mono e2 r1).sq ex
      obtain ⟨a2, us, rfl, h3, h4⟩ := r2.sq ey
      exact ⟨a1, a2, b1, b2, vs, us, rfl, h1.mono st2.sub, h3.mono st2.sub, p2 w2 H2 _ (Ext.refl _) st2 (wk_zp h1 h2 h3 h4)⟩

/-! ### a lent name compared -/
def R2L (K : PySem.W.Frag) (r : R2) (g : D → D → Option D) : Prop := ∀ (f : Fm) (w : Wd) (s : S) (σ : L2.St) (H : Hp) (x y z : D) (v u : V) (Q : VK), StOk K f w s σ H → RL K f w s σ H x v → Rep K w y u → g x y = some z → (∀ t, Rep K w z t → Q t H) → r v u H Q
def m2N (g : D → D → Option Bool) (i : Nat) (mb : M D) : M Bool := fun s => match look i s with
  | none => .no
  | some _ => (mb s).bind fun y s1 => match look i s1 with
    | none => .no
    | some x => ofO (g x y) s1
theorem t_cmpN (i : Nat) {op : CmpOp} {x : Str} {r : R2} {g : D → D → Option Bool} (ho : OpR X (compareOp op) r) (hr : R2L X.K r fun x y => oB (g x y)) (hm : behindInMarks op b = false) (hb : PE X b (tM X.K W mb)) (hN : X.N[i]? = some x := by rfl)
    (hv : Vis X.env.scope x := by first | exact Or.inl rfl | exact Or.inr (Or.inl rfl) | exact Or.inr (Or.inr rfl)) (hd : (x == ("__debug__" : Str)) = false := by decide) (hcd : (x == ("__classdict__" : Str)) = false := by decide) :
    PT X (.Compare (.Name x p) [op] [b] pos) (tT X.K W (m2N g i mb)) := by
  refine pt_imp (pt_cmpR ho (pe_var hN hv hd hcd) hb hm) fun σ H Q ⟨f, w, s, st, q⟩ => ?_
  unfold m2N at q
  cases e0 : look i s with
  | none => rw [e0] at q; exact q.elim
  | some x0 =>
    rw [e0] at q
    obtain ⟨u, eu, _⟩ := st.look e0
    refine ⟨u, eu, f, w, s, st, Po.thn q fun y w1 s1 v H1 e1 st1 r1 p1 => ?_⟩
    cases e2 : look i s1 with
    | none => rw [e2] at p1; exact p1.elim
    | some x1 =>
      rw [e2] at p1
      obtain ⟨u1, eu1, rx⟩ := st1.look e2
      rw [eu] at eu1
      cases eu1
      obtain ⟨k, ek, pk⟩ := p1.ofO
      refine hr f w1 s1 σ H1 x1 y (.bl k) u v _ st1 rx r1 (by show oB (g x1 y) = _; rw [ek]; rfl) fun t rt => ⟨k, rt, pk w1 H1 k (Ext.refl _) st1 rfl⟩
end
section
variable {K : PySem.W.Frag} {f : Fm} {w : Wd} {s : S} {σ : L2.St} {H : Hp}
theorem RL.dp {d : D} {v : V} (st : StOk K f w s σ H) (h : okD d = true) (r : RL K f w s σ H d v) : Dp K H v (toP d) := by
  rcases r with r | ⟨p, vs, xs, rfl, rfl, h1, h2⟩
  · exact Rep.dp st.sub h r
  · exact .lst (SqL.of h1) (RepAll.dp st.sub (ds := xs) h h2)
theorem eq_same {f : Fm} {w : Wd} {s : S} {σ : L2.St} {H : Hp} {x y : D} {v u : V} {Q : VK} {k : Bool} (st : StOk K f w s σ H) (rv : Rep K w x v) (ru : Rep K w y u) (e : dEq x y = some k) (q : Q (.bl k) H) : rEqA K v u H Q := by
  unfold dEq at e
  split at e
  · rename_i a b
    cases e
    refine .inl ⟨by rw [show v = .str a from rv, show u = .str b from ru]; rfl, ?_⟩
    rw [show v = .str a from rv, show u = .str b from ru, dec_str]
    exact q
  · rename_i a b
    cases e
    refine .inl ⟨by rw [show v = .int a from rv, show u = .int b from ru]; rfl, ?_⟩
    rw [show v = .int a from rv, show u = .int b from ru, dec_int]
    exact q
  · rename_i a b
    cases e
    refine .inl ⟨by rw [show v = .bl a from rv, show u = .bl b from ru]; rfl, ?_⟩
    rw [show v = .bl a from rv, show u = .bl b from ru, dec_bl]
    exact q
  · split at e
    · rename_i h
      cases e
      have ho := Bool.and_eq_true_iff.mp h.1
      refine .inr ⟨_, _, Rep.dp st.sub ho.1 rv, Rep.dp st.sub ho.2 ru, shaped_of ho.1 h.2.1, shaped_of ho.2 h.2.2, ?_⟩
      rw [toP_eqv ho.1 ho.2]
      exact q
    · cases e
theorem eqL_ok : R2L K (rEqA K) (fun x y => oB (dEq x y)) := by
  intro f w s σ H x y z v u Q st rv ru ez q
  by_cases hl : ∃ xs, x = .lst xs
  · obtain ⟨xs, rfl⟩ := hl
    have ez' : oB (if (okD (.lst xs) && okD y) = true ∧ depthD (.lst xs) ≤ 64 ∧ depthD y ≤ 64 then some (eqD (.lst xs) y) else none) = some z := ez
    split at ez'
    · rename_i h
      cases ez'
      have ho := Bool.and_eq_true_iff.mp h.1
      refine .inr ⟨_, _, rv.dp st ho.1, Rep.dp st.sub ho.2 ru, shaped_of ho.1 h.2.1, shaped_of ho.2 h.2.2, ?_⟩
      rw [toP_eqv ho.1 ho.2]
      exact q _ rfl
    · cases ez'
  · have r' := rv.rep fun xs z => hl ⟨xs, z⟩
    cases hz : dEq x y with
    | none =>
      have ez' : oB (dEq x y) = some z := ez
      rw [hz] at ez'
      cases ez'
    | some k =>
      have ez' : oB (dEq x y) = some z := ez
      rw [hz] at ez'
      cases ez'
      exact eq_same st r' ru hz (q _ rfl)
theorem ne_same {f : Fm} {w : Wd} {s : S} {σ : L2.St} {H : Hp} {x y : D} {v u : V} {Q : VK} {k : Bool} (st : StOk K f w s σ H) (rv : Rep K w x v) (ru : Rep K w y u) (e : dEq x y = some k) (q : Q (.bl (!k)) H) : rNeA K v u H Q := by
  unfold dEq at e
  split at e
  · rename_i a b
    cases e
    refine .inl ⟨by rw [show v = .str a from rv, show u = .str b from ru]; rfl, ?_⟩
    rw [show v = .str a from rv, show u = .str b from ru, dec_str]
    exact q
  · rename_i a b
    cases e
    refine .inl ⟨by rw [show v = .int a from rv, show u = .int b from ru]; rfl, ?_⟩
    rw [show v = .int a from rv, show u = .int b from ru, dec_int]
    exact q
  · rename_i a b
    cases e
    refine .inl ⟨by rw [show v = .bl a from rv, show u = .bl b from ru]; rfl, ?_⟩
    rw [show v = .bl a from rv, show u = .bl b from ru, dec_bl]
    exact q
  · split at e
    · rename_i h
      cases e
      have ho := Bool.and_eq_true_iff.mp h.1
      refine .inr ⟨_, _, Rep.dp st.sub ho.1 rv, Rep.dp st.sub ho.2 ru, shaped_of ho.1 h.2.1, shaped_of ho.2 h.2.2, ?_⟩
      rw [toP_eqv ho.1 ho.2]
      exact q
    · cases e
theorem neL_ok : R2L K (rNeA K) (fun x y => oB ((dEq x y).map (!·))) := by
  intro f w s σ H x y z v u Q st rv ru ez q
  by_cases hl : ∃ xs, x = .lst xs
  · obtain ⟨xs, rfl⟩ := hl
    have ez' : oB ((if (okD (.lst xs) && okD y) = true ∧ depthD (.lst xs) ≤ 64 ∧ depthD y ≤ 64 then some (eqD (.lst xs) y) else none).map (!·)) = some z := ez
    split at ez'
    · rename_i h
      cases ez'
      have ho := Bool.and_eq_true_iff.mp h.1
      refine .inr ⟨_, _, rv.dp st ho.1, Rep.dp st.sub ho.2 ru, shaped_of ho.1 h.2.1, shaped_of ho.2 h.2.2, ?_⟩
      rw [toP_eqv ho.1 ho.2]
      exact q _ rfl
    · cases ez'
  · have r' := rv.rep fun xs z => hl ⟨xs, z⟩
    cases hz : dEq x y with
    | none =>
      have ez' : oB ((dEq x y).map (!·)) = some z := ez
      rw [hz] at ez'
      cases ez'
    | some k =>
      have ez' : oB ((dEq x y).map (!·)) = some z := ez
      rw [hz] at ez'
      cases ez'
      exact ne_same st r' ru hz (q _ rfl)
end

/-! ### isinstance -/
def tyD : D → Option String
  | .non => some "NoneType"
  | .bl _ => some "bool"
  | .int _ => some "int"
  | .str _ => some "str"
  | .lst _ => some "list"
  | .tup _ => some "tuple"
  | _ => none
def isSub (t T : String) : Bool := t == T || (t == "bool" && T == "int")
def tysD : List String := ["NoneType", "bool", "int", "str", "list", "tuple"]
def clsD : List String := ["bool", "int", "str", "list", "tuple"]
theorem kit_tab : ∀ t ∈ tysD, ∀ T ∈ clsD, kitB t T = some (isSub t T) := by decide +kernel
theorem tyD_mem {d : D} {t : String} (h : tyD d = some t) : t ∈ tysD := by
  cases d <;> first | (cases h; decide) | cases h
section
variable {K : PySem.W.Frag} {f : Fm} {w : Wd} {s : S} {σ : L2.St} {H H' : Hp}
theorem RL.ty {d : D} {v : V} {t : String} (st : StOk K f w s σ H) (r : RL K f w s σ H d v) (e : tyD d = some t) (k : Same H H') : TyX K H' v (.type t) := by
  cases d with
  | non => cases e; rw [show v = .non from r.rep fun _ z => nomatch z]; exact .base .non
  | bl b => cases e; rw [show v = .bl b from r.rep fun _ z => nomatch z]; exact .base (.bl b)
  | int b => cases e; rw [show v = .int b from r.rep fun _ z => nomatch z]; exact .base (.int b)
  | str b => cases e; rw [show v = .str b from r.rep fun _ z => nomatch z]; exact .base (.str b)
  | lst xs =>
    cases e
    obtain ⟨p, vs, rfl, h1, _⟩ := r.lst st
    exact .base (.lst (k _ _ h1))
  | tup xs =>
    cases e
    obtain ⟨p, vs, rfl, h1, _⟩ := r.tup st
    rcases same_seqT k h1 with (h | ⟨o, h⟩) | ⟨o, its, n, h, hc, _⟩
    · exact .base (.tup h)
    · exact .fTuple h
    · exact .kTuple h hc
  | _ => cases e
end
def dIsi (Ts : List String) (d : D) : Option D := (tyD d).map fun t => .bl (Ts.any (isSub t))
section
variable {X : Cx} {W : WX} {e : Expr} {p pos p1 p2 p3 : Pos} {m : M D} {c c1 c2 : Str} {T T1 T2 : String} {kk : Nat}
theorem q_isi (hg : Gl X "isinstance") (hm : X.mg "isinstance" = none) (ha : PE X e (tL X.K W m)) (hgc : Gl X c) (hmc : X.mg c = none) (hvc : bootBuiltins c = some (.type T)) (hT : T ∈ clsD) (hnc : c ≠ "__name__" := by decide) (hdc : (c == ("__debug__" : Str)) = false := by decide)
    (he : starEach [e, .Name c p1] X.env = (false, eval e X.env) :: starEach [.Name c p1] X.env := by rfl) (he2 : starEach [.Name c p1] X.env = (false, eval (.Name c p1) X.env) :: starEach [] X.env := by rfl) (hpl : (backTo pos (starEach [.Name c p1] X.env)).any (·.1) = false := by rfl) :
    PE X (.Call (.Name "isinstance" p) [e, .Name c p1] [] pos) (tM X.K W (mB1 (dIsi [T]) m)) := by
  refine pe_imp (pe_callB call_isi hg hm (by decide +kernel) (pa_cons ha (pa_cons (pe_bltn hgc hmc hvc (v := .ty T) rfl hnc hdc) pa_nil he2) he) (he := he) (hpl := hpl)) fun σ H Q ⟨f, w, s, st, q⟩ => ?_
  refine ⟨f, w, s, st, Po.thn q fun x w1 s1 v H1 e1 st1 r1 p1 => ?_⟩
  obtain ⟨z, ez, pz⟩ := p1.ofO
  unfold dIsi at ez
  obtain ⟨t, et, rfl⟩ := Option.map_eq_some_iff.mp ez
  refine ⟨v, .ty T, .type t, .type T, isSub t T, rfl, .ty T, r1.ty st1 et fun _ _ z => z, kit_ty (kit_tab t (tyD_mem et) T hT), pz w1 H1 _ (Ext.refl _) st1 ?_⟩
  show V.bl (isSub t T) = V.bl (isSub t T || false)
  rw [Bool.or_false]
theorem q_isi2 (hg : Gl X "isinstance") (hm : X.mg "isinstance" = none) (ha : PE X e (tL X.K W m)) (hgc : Gl X c1) (hmc : X.mg c1 = none) (hvc : bootBuiltins c1 = some (.type T1)) (hT : T1 ∈ clsD) (hgd : Gl X c2) (hmd : X.mg c2 = none) (hvd : bootBuiltins c2 = some (.type T2)) (hT2 : T2 ∈ clsD)
    (hnc : c1 ≠ "__name__" := by decide) (hdc : (c1 == ("__debug__" : Str)) = false := by decide) (hnd : c2 ≠ "__name__" := by decide) (hdd : (c2 == ("__debug__" : Str)) = false := by decide)
    (he : starEach [e, .Tuple [.Name c1 p1, .Name c2 p2] kk p3] X.env = (false, eval e X.env) :: starEach [.Tuple [.Name c1 p1, .Name c2 p2] kk p3] X.env := by rfl)
    (he2 : starEach [.Tuple [.Name c1 p1, .Name c2 p2] kk p3] X.env = (false, eval (.Tuple [.Name c1 p1, .Name c2 p2] kk p3) X.env) :: starEach [] X.env := by rfl) (hpl : (backTo pos (starEach [.Tuple [.Name c1 p1, .Name c2 p2] kk p3] X.env)).any (·.1) = false := by rfl)
    (hs1 : starEach [.Name c1 p1, .Name c2 p2] X.env = (false, eval (.Name c1 p1) X.env) :: starEach [.Name c2 p2] X.env := by rfl) (hs2 : starEach [.Name c2 p2] X.env = (false, eval (.Name c2 p2) X.env) :: starEach [] X.env := by rfl) :
    PE X (.Call (.Name "isinstance" p) [e, .Tuple [.Name c1 p1, .Name c2 p2] kk p3] [] pos) (tM X.K W (mB1 (dIsi [T1, T2]) m)) := by
  refine pe_imp (pe_callB call_isiT hg hm (by decide +kernel) (pa_cons ha (pa_cons (pe_tup (pa_cons (pe_bltn hgc hmc hvc (v := .ty T1) rfl hnc hdc) (pa_cons (pe_bltn hgd hmd hvd (v := .ty T2) rfl hnd hdd) pa_nil hs2) hs1)) pa_nil he2) he) (he := he) (hpl := hpl)) fun σ H Q ⟨f, w, s, st, q⟩ => ?_
  refine ⟨f, w, s, st, Po.thn q fun x w1 s1 v H1 e1 st1 r1 p1 => ?_⟩
  obtain ⟨z, ez, pz⟩ := p1.ofO
  unfold dIsi at ez
  obtain ⟨t, et, rfl⟩ := Option.map_eq_some_iff.mp ez
  refine ⟨by show 2 ≤ sizeLine; decide, fun tp ntp => ?_⟩
  have k : Same H1 (upd H1 tp (.tup [.ty T1, .ty T2])) := fun b u e => by
    rw [upd_ne (ne_of_none e ntp)]
    exact e
  refine ⟨v, tp, [.ty T1, .ty T2], .type t, [.type T1, .type T2], isSub t T1 || isSub t T2, rfl, upd_same, .cons (.ty T1) (.cons (.ty T2) .nil), r1.ty st1 et k, ?_, pz w1 _ _ (Ext.refl _) (st1.lay ntp) ?_⟩
  · have h1 := kit_ty (K := X.K) (kit_tab t (tyD_mem et) T1 hT)
    have h2 := kit_ty (K := X.K) (kit_tab t (tyD_mem et) T2 hT2)
    refine kitAny_cons h1 (fun b1 => ?_) fun b1 => by rw [b1]; rfl
    rw [b1, Bool.false_or]
    refine kitAny_cons h2 (fun b2 => ?_) fun b2 => b2
    rw [b2]
    exact kitAny_nil
  · show V.bl (isSub t T1 || isSub t T2) = V.bl (isSub t T1 || (isSub t T2 || false))
    rw [Bool.or_false]
end
end Pv
end PvQ_

section PvR_
set_option Elab.async false
set_option linter.all false
set_option maxRecDepth 100000
set_option maxHeartbeats 4000000
namespace Pv
open PySem PySem.Spec PyProof.Rows L2

/-! ### sorted -/
theorem ltCps_lt : ∀ (a b : List Nat), ltCps a b = decide (a < b)
  | [], [] => by decide
  | [], y :: b => (decide_eq_true (List.nil_lt_cons y b)).symm
  | x :: a, [] => (decide_eq_false (List.not_lt_nil (x :: a))).symm
  | x :: a, y :: b => by
    show (decide (x < y) || (x == y && ltCps a b)) = _
    rw [ltCps_lt a b]
    rw [Bool.eq_iff_iff, Bool.or_eq_true, Bool.and_eq_true, decide_eq_true_iff, decide_eq_true_iff, decide_eq_true_iff, beq_iff_eq, List.cons_lt_cons_iff]
/-- a comes not behind b -/
def leS (a b : Str) : Bool := !strLt b a
theorem leS_iff {a b : Str} : leS a b = true ↔ a.cps.toList ≤ b.cps.toList := by
  unfold leS strLt
  rw [Bool.not_eq_true', decide_eq_false_iff_not, List.not_lt]
theorem leS_trans (a b c : Str) (h : leS a b = true) (g : leS b c = true) : leS a c = true := leS_iff.mpr (List.le_trans (leS_iff.mp h) (leS_iff.mp g))
theorem leS_total (a b : Str) : (leS a b || leS b a) = true := by
  rw [Bool.or_eq_true, leS_iff, leS_iff]
  exact List.le_total _ _
theorem str_ext {a b : Str} (h : a.cps.toList = b.cps.toList) : a = b := by
  obtain ⟨⟨x⟩⟩ := a
  obtain ⟨⟨y⟩⟩ := b
  have h' : x = y := h
  rw [h']
theorem leS_anti {a b : Str} (h : leS a b = true) (g : leS b a = true) : a = b := str_ext (List.le_antisymm (leS_iff.mp h) (leS_iff.mp g))
def sortS (xs : List Str) : List Str := xs.mergeSort leS
def sortI (ns : List Int) : List Int := ns.mergeSort fun a b => decide (a ≤ b)
theorem rising_le : ∀ {r : List Str} {p : Str}, risingS p r = true → r.Pairwise (fun a b => leS a b = true) ∧ ∀ y ∈ r, leS p y = true
  | [], p, _ => ⟨.nil, fun _ h => by cases h⟩
  | x :: r, p, h => by
    have h' : (!ltCps x.cps.toList p.cps.toList && risingS x r) = true := h
    cases e : ltCps x.cps.toList p.cps.toList with
    | true => rw [e] at h'; cases h'
    | false =>
      rw [e, Bool.not_false, Bool.true_and] at h'
      obtain ⟨h1, h2⟩ := rising_le h'
      have px : leS p x = true := by
        unfold leS strLt
        rw [← ltCps_lt, e]
        rfl
      exact ⟨.cons h2 h1, fun y hy => by
        rcases List.mem_cons.mp hy with z | z
        · rw [z]; exact px
        · exact leS_trans _ _ _ px (h2 y z)⟩
theorem sorted_le : ∀ {l : List Str}, sortedS l = true → l.Pairwise (fun a b => leS a b = true)
  | [], _ => .nil
  | x :: r, h => .cons (rising_le h).2 (rising_le h).1
theorem sortS_only {xs ys : List Str} (h1 : ys.Perm xs) (h2 : sortedS ys = true) : ys = sortS xs :=
  List.Perm.eq_of_pairwise (le := fun a b => leS a b = true) (fun a b _ _ => leS_anti) (sorted_le h2) (List.pairwise_mergeSort leS_trans leS_total xs) (h1.trans (List.mergeSort_perm xs leS).symm)
theorem sortI_only {xs ys : List Int} (h1 : ys.Perm xs) (h2 : ys.Pairwise (· ≤ ·)) : ys = sortI xs :=
  List.Perm.eq_of_pairwise (le := (· ≤ ·)) (fun a b _ _ => Int.le_antisymm) h2
    ((List.pairwise_mergeSort (le := fun a b => decide (a ≤ b)) (fun a b c h g => by simp at *; omega) (fun a b => by simp; omega) xs).imp fun h => of_decide_eq_true h) (h1.trans (List.mergeSort_perm xs _).symm)
def dSort (d : D) : Option (List D) := match d with
  | .lst xs => match intsD xs with
    | some ns => some ((sortI ns).map .int)
    | none => match strsD xs with
      | some ss => if ss.length < 64 then some ((sortS ss).map .str) else none
      | none => none
  | _ => none
theorem sort_ok {K : PySem.W.Frag} : B1F K (fun vs H Q => rSortedI K vs H Q ∨ rSortedS K vs H Q) dSort := by
  intro f w s σ H d z v Q st rv ez q
  unfold dSort at ez
  split at ez
  · rename_i xs
    obtain ⟨p, vs, rfl, h1, h2⟩ := rv.lst st
    split at ez
    · rename_i ns e
      cases ez
      have := intsD_eq e
      subst this
      rw [h2.ints] at h1
      exact .inl ⟨p, ns, rfl, .inl (.inl h1), fun ns' a pm so ha => by rw [sortI_only pm so]; exact st.newF (RepAll.of_ints _) q a ha⟩
    · split at ez
      · rename_i ss e
        split at ez
        · rename_i lt
          cases ez
          have := strsD_eq e
          subst this
          rw [h2.strs] at h1
          exact .inr ⟨p, ss, rfl, .inl (.inl h1), lt, fun ys a pm so ha => by rw [sortS_only pm so]; exact st.newF (RepAll.of_strs _) q a ha⟩
        · cases ez
      · cases ez
  · cases ez
section
variable {X : Cx} {W : WX} {a b e : Expr} {m ma mb : M D} {p pos : Pos}
theorem f_sort (hg : Gl X "sorted") (hm : X.mg "sorted" = none) (ha : PE X e (tL X.K W m)) (he : starEach [e] X.env = (false, eval e X.env) :: starEach [] X.env := by rfl) (hpl : (backTo pos (starEach [] X.env)).any (·.1) = false := by rfl) :
    PE X (.Call (.Name "sorted" p) [e] [] pos) (tF X.K W (mB1F dSort m)) := pe_imp (pe_callB (cr_sortedI.or cr_sortedS) hg hm (by decide +kernel) (a_lend ha he) (he := he) (hpl := hpl)) (c_1F sort_ok)

/-! ### max(a, b), min(a, b) -/
def dMax2 : D → D → Option D := gII fun i j => some (.int (max i j))
def dMin2 : D → D → Option D := gII fun i j => some (.int (min i j))
theorem q_max2 (hc : X.calm = true) (hg : Gl X "max") (hm : X.mg "max" = none) (ha : PE X a (tM X.K W ma)) (hb : PE X b (tM X.K W mb)) (he : starEach [a, b] X.env = (false, eval a X.env) :: starEach [b] X.env := by rfl) (he2 : starEach [b] X.env = (false, eval b X.env) :: starEach [] X.env := by rfl)
    (hpl : (backTo pos (starEach [b] X.env)).any (·.1) = false := by rfl) : PE X (.Call (.Name "max" p) [a, b] [] pos) (tM X.K W (m2 dMax2 ma mb)) := by
  refine pe_imp (pe_callB (call_max2 hc) hg hm (by decide +kernel) (pa_cons ha (pa_cons hb pa_nil he2) he) (he := he) (hpl := hpl)) fun σ H Q ⟨f, w, s, st, q⟩ => ?_
  refine ⟨f, w, s, st, Po.thn q fun x w1 s1 v H1 e1 st1 r1 p1 => ⟨f, w1, s1, st1, Po.thn p1 fun y w2 s2 u H2 e2 st2 r2 p2 => ?_⟩⟩
  obtain ⟨z, ez, pz⟩ := p2.ofO
  unfold dMax2 gII at ez
  split at ez
  · rename_i i j
    cases ez
    refine ⟨i, j, by rw [show v = .int i from r1, show u = .int j from r2], pz w2 H2 _ (Ext.refl _) st2 ?_⟩
    show V.int _ = V.int _
    congr 1
    split <;> omega
  · cases ez
theorem q_min2 (hc : X.calm = true) (hg : Gl X "min") (hm : X.mg "min" = none) (ha : PE X a (tM X.K W ma)) (hb : PE X b (tM X.K W mb)) (he : starEach [a, b] X.env = (false, eval a X.env) :: starEach [b] X.env := by rfl) (he2 : starEach [b] X.env = (false, eval b X.env) :: starEach [] X.env := by rfl)
    (hpl : (backTo pos (starEach [b] X.env)).any (·.1) = false := by rfl) : PE X (.Call (.Name "min" p) [a, b] [] pos) (tM X.K W (m2 dMin2 ma mb)) := by
  refine pe_imp (pe_callB (call_min2 hc) hg hm (by decide +kernel) (pa_cons ha (pa_cons hb pa_nil he2) he) (he := he) (hpl := hpl)) fun σ H Q ⟨f, w, s, st, q⟩ => ?_
  refine ⟨f, w, s, st, Po.thn q fun x w1 s1 v H1 e1 st1 r1 p1 => ⟨f, w1, s1, st1, Po.thn p1 fun y w2 s2 u H2 e2 st2 r2 p2 => ?_⟩⟩
  obtain ⟨z, ez, pz⟩ := p2.ofO
  unfold dMin2 gII at ez
  split at ez
  · rename_i i j
    cases ez
    refine ⟨i, j, by rw [show v = .int i from r1, show u = .int j from r2], pz w2 H2 _ (Ext.refl _) st2 ?_⟩
    show V.int _ = V.int _
    congr 1
    split <;> omega
  · cases ez

/-! ### list(range(..)) -/
def mRg1 (m : M D) : M (List D) := fun s => (m s).bind fun x s1 => match x with
  | .int j => if 0 ≤ j ∧ j ≤ 16777216 then .ok (rgD 0 j.toNat) s1 else .no
  | _ => .no
def mRg2 (ma mb : M D) : M (List D) := fun s => (ma s).bind fun x s1 => (mb s1).bind fun y s2 => match x, y with
  | .int i, .int j => if 0 ≤ i ∧ i ≤ 16777216 ∧ 0 ≤ j ∧ j ≤ 16777216 then .ok (rgD i (j - i).toNat) s2 else .no
  | _, _ => .no
theorem rg_rep {K : PySem.W.Frag} {w : Wd} {i j : Int} : RepAll K w (rgD i (j - i).toNat) (rgV i j) := by
  have e : ∀ (l : List Nat), RepAll K w (l.map fun k => D.int (i + (k : Nat))) (l.map fun k => V.int (i + (k : Nat))) := fun l => by
    induction l with
    | nil => rfl
    | cons a r ih => exact ⟨_, _, rfl, rfl, ih⟩
  exact e _
theorem f_rg1 {p2 pos2 : Pos} (hc : X.calm = true) (hg : Gl X "list") (hm : X.mg "list" = none) (hgr : Gl X "range") (hmr : X.mg "range" = none) (ha : PE X a (tM X.K W m)) (na : starEach [a] X.env = (false, eval a X.env) :: starEach [] X.env := by rfl)
    (nl : starEach [.Call (.Name "range" p2) [a] [] pos2] X.env = (false, eval (.Call (.Name "range" p2) [a] [] pos2) X.env) :: starEach [] X.env := by rfl) : PE X (.Call (.Name "list" p) [.Call (.Name "range" p2) [a] [] pos2] [] pos) (tF X.K W (mRg1 m)) := by
  refine pe_imp (pe_listRg hc hg hm (prg_1 hgr hmr ha na) nl) fun σ H Q ⟨f, w, s, st, q⟩ => ?_
  refine ⟨f, w, s, st, Po.thn q fun x w1 s1 v H1 e1 st1 r1 p1 => ?_⟩
  cases x with
  | int j =>
    have p1' : Po X.K f W (RF X.K) w1 σ Q (if 0 ≤ j ∧ j ≤ 16777216 then .ok (rgD 0 j.toNat) s1 else .no) := p1
    split at p1'
    · rename_i hj
      have rp := rg_rep (K := X.K) (w := w1) (i := 0) (j := j)
      rw [Int.sub_zero] at rp
      exact ⟨j, r1, .of_le (Int.le_refl _) hj.2 (by omega) hj.1, st1.newF rp p1'⟩
    · exact p1'.elim
  | _ => exact p1.elim
theorem f_rg2 {p2 pos2 : Pos} (hc : X.calm = true) (hg : Gl X "list") (hm : X.mg "list" = none) (hgr : Gl X "range") (hmr : X.mg "range" = none) (ha : PE X a (tM X.K W ma)) (hb : PE X b (tM X.K W mb)) (na : starEach [a, b] X.env = (false, eval a X.env) :: starEach [b] X.env := by rfl)
    (hp : (backTo pos2 (starEach [b] X.env)).any (·.1) = false := by rfl) (nb : starEach [b] X.env = (false, eval b X.env) :: starEach [] X.env := by rfl)
    (nl : starEach [.Call (.Name "range" p2) [a, b] [] pos2] X.env = (false, eval (.Call (.Name "range" p2) [a, b] [] pos2) X.env) :: starEach [] X.env := by rfl) : PE X (.Call (.Name "list" p) [.Call (.Name "range" p2) [a, b] [] pos2] [] pos) (tF X.K W (mRg2 ma mb)) := by
  refine pe_imp (pe_listRg hc hg hm (prg_2 hgr hmr ha hb na nb (hp := hp)) nl) fun σ H Q ⟨f, w, s, st, q⟩ => ?_
  refine ⟨f, w, s, st, Po.thn q fun x w1 s1 v H1 e1 st1 r1 p1 => ⟨f, w1, s1, st1, Po.thn p1 fun y w2 s2 u H2 e2 st2 r2 p2 => ?_⟩⟩
  split at p2
  · rename_i i j
    split at p2
    · rename_i hj
      exact ⟨i, j, r1, r2, .of_le hj.1 hj.2.2.2 hj.2.1 hj.2.2.1, st2.newF rg_rep p2⟩
    · exact p2.elim
  · exact p2.elim

/-! ### int of a text -/
def dIntS (d : D) : Option D := match d with
  | .int i => some (.int i)
  | .bl k => some (.int (if k = true then 1 else 0))
  | .str z => if z.length ≤ 640 then (PySem.intText? z).map .int else none
  | _ => none
theorem intS_ok {K : PySem.W.Frag} : B1 K (fun xs H Q => ((∃ i, xs = [V.int i] ∧ Q (V.int i) H) ∨ ∃ k, xs = [V.bl k] ∧ Q (V.int (if k = true then 1 else 0)) H) ∨ ∃ a n, xs = [V.str a] ∧ PySem.intText? a = some n ∧ a.length ≤ 640 ∧ Q (V.int n) H) dIntS := by
  intro f w s σ H d z v Q st rv ez q
  unfold dIntS at ez
  split at ez
  · cases ez
    have hv := rv.rep (fun _ z => nomatch z)
    exact .inl (.inl ⟨_, by rw [show v = _ from hv], q w H _ (Ext.refl w) st rfl⟩)
  · cases ez
    have hv := rv.rep (fun _ z => nomatch z)
    exact .inl (.inr ⟨_, by rw [show v = _ from hv], q w H _ (Ext.refl w) st rfl⟩)
  · split at ez
    · rename_i hz
      obtain ⟨n, en, rfl⟩ := Option.map_eq_some_iff.mp ez
      have hv := rv.rep (fun _ z => nomatch z)
      exact .inr ⟨_, n, by rw [show v = _ from hv], en, hz, q w H _ (Ext.refl w) st rfl⟩
    · cases ez
  · cases ez
theorem q_intS (hg : Gl X "int") (hm : X.mg "int" = none) (ha : PE X e (tL X.K W m)) (he : starEach [e] X.env = (false, eval e X.env) :: starEach [] X.env := by rfl) (hpl : (backTo pos (starEach [] X.env)).any (·.1) = false := by rfl) :
    PE X (.Call (.Name "int" p) [e] [] pos) (tM X.K W (mB1 dIntS m)) := pe_imp (pe_callTy (call_int1.or call_int_str) hg hm (by decide +kernel) (a_lend ha he) (he := he) (hpl := hpl)) (c_1 intS_ok)

/-! ### what is not told -/
theorem q_no : PE X e (tM X.K W fun _ => .no) := ⟨fun pins s σ H Q I ⟨f, w, s', st, q⟩ => q.elim⟩
theorem s_no {st : Stmt} : PS X st (tS X.K W fun _ => .no) := ⟨fun pins s σ H Q I ⟨f, w, s', st, q⟩ => q.elim⟩
end
end Pv
end PvR_

section PvS_
set_option Elab.async false
set_option linter.all false
set_option maxRecDepth 100000
set_option maxHeartbeats 4000000
namespace Pv
open PySem PySem.Spec PyProof.Rows L2

/-! ### defs by name -/
/-- the def x of the module is worth F, where the stack has room for k more -/
structure Has (P : Program) (w : World) (K : PySem.W.Frag) (mg : Str → Option Value) (base : Heap) (x : Str) (n k : Nat) (F : Fn) : Prop where
  ex : ∃ (f : Addr) (fd : FuncData) (ps : List Str), FnOk P w K mg base (L2.CX P w) k f fd ps (spF K F n) ∧ mg x = some (.ref f) ∧ PySem.W.keepIn K (.ref f) = true ∧ Binds K fd ps []
/-- where a def stands -/
structure DefAt (K : PySem.W.Frag) (mg : Str → Option Value) (x : Str) (st : Stmt) (ps : List Str) : Prop where
  ex : ∃ (f : Addr) (fd : FuncData), L2.Fun K x x st f fd ∧ mg x = some (.ref f) ∧ Binds K fd ps []
section
variable {P : Program} {w : World} {K : PySem.W.Frag} {mg : Str → Option Value} {base : Heap} {x : Str} {n k j : Nat} {F G : Fn}
theorem Has.up (h : Has P w K mg base x n j F) (le : j ≤ k) : Has P w K mg base x n k F := by
  obtain ⟨f, fd, ps, h1, h2⟩ := h.ex
  exact ⟨f, fd, ps, h1.mono le, h2⟩
/-- wherever F tells, G tells the same -/
theorem Has.less (h : Has P w K mg base x n k G) (q : ∀ ds b, ds.length = n → F ds b ≠ .no → G ds b = F ds b) : Has P w K mg base x n k F := by
  obtain ⟨f, fd, ps, h1, h2⟩ := h.ex
  refine ⟨f, fd, ps, h1.imp fun vs H Q E ⟨ds, w, b, e1, e2, e3, e4, e5⟩ => ⟨ds, w, b, e1, e2, e3, e4, ?_⟩, h2⟩
  rw [q ds b e1 fun z => by rw [z] at e5; exact e5]
  exact e5
theorem has_of {st : Stmt} {N ps : List Str} (D : DefAt K mg x st ps) (S : FnScope N ps (defScope st)) (hn : ps.length = n)
    (body : ∀ ds b, ds.length = n → G ds b ≠ .no → ∃ ms : MS, (∀ (cdv : Value) (A : Around) (outer : List Env) (s : Shared) (H : Hp) (E : XK) (f : Addr), Bd (cxOf (L2.CX P w) P w K mg base N x (defScope st) f cdv A outer s H E) (fun c d _ H => E c d H) k →
      PSs (cxOf (L2.CX P w) P w K mg base N x (defScope st) f cdv A outer s H E) (defBody st) (tS K (fun c d _ H => E c d H) ms)) ∧ outOf (ms (s0 N ds b)) = G ds b) : Has P w K mg base x n (k + 1) G := by
  obtain ⟨f, fd, h1, h2, h3⟩ := D.ex
  refine ⟨f, fd, ps, def_ok h1 S n hn fun ds b e g => ?_, h2, h1.kp, h3⟩
  obtain ⟨ms, q1, q2⟩ := body ds b e g
  exact ⟨ms, fun cdv A outer s H E B => q1 cdv A outer s H E f B, q2⟩
end
section
variable {X : Cx} {W : WX} {e : Expr} {es : List Expr} {m : M (List D)} {F : Fn} {x : Str} {p pos : Pos} {n k : Nat}
theorem q_callH (h : Has X.prog X.w X.K X.mg X.base x n k F) (hr : Room k X.A) (tk : Takes X W) (hg : Gl X x) (ha : PA X (e :: es) (tA X.K W m)) (hn : ∀ s ds s1, m s = .ok ds s1 → ds.length = n) (hdb : (x == ("__debug__" : Str)) = false := by decide)
    (he : starEach (e :: es) X.env = (false, eval e X.env) :: starEach es X.env := by rfl) (hpl : (backTo pos (starEach es X.env)).any (·.1) = false := by rfl) : PE X (.Call (.Name x p) (e :: es) [] pos) (tM X.K W (mCall F m)) := by
  obtain ⟨f, fd, ps, h1, h2, h3, h4⟩ := h.ex
  exact q_call h1 hr tk hg h2 h3 h4 ha hn hdb he hpl
end
end Pv
end PvS_

section PvT_
set_option Elab.async false
set_option linter.all false
set_option maxRecDepth 100000
set_option maxHeartbeats 4000000
namespace Pv
open PySem PySem.Spec PyProof.Rows L2

/-! ### zip of three -/
def JZ3 (K : PySem.W.Frag) (b1 b2 b3 : Bool) (a1 a2 a3 : Addr) : It :=
  ⟨fun i H => ∃ (xs ys zs : List V) (x y z : V), Sq K b1 H a1 xs ∧ Sq K b2 H a2 ys ∧ Sq K b3 H a3 zs ∧ xs[i]? = some x ∧ ys[i]? = some y ∧ zs[i]? = some z,
    fun i H v H' => ∃ T x y z, v = .ref T ∧ H T = none ∧ H' = upd H T (.tup [x, y, z]) ∧ (∀ xs, Sq K b1 H a1 xs → xs[i]? = some x) ∧ (∀ ys, Sq K b2 H a2 ys → ys[i]? = some y) ∧ ∀ zs, Sq K b3 H a3 zs → zs[i]? = some z,
    fun i H => ∃ xs ys zs : List V, Sq K b1 H a1 xs ∧ Sq K b2 H a2 ys ∧ Sq K b3 H a3 zs ∧ i = min (min xs.length ys.length) zs.length⟩
theorem turn_z3 {P : Program} {w : World} {K : PySem.W.Frag} {elts : List Expr} {kk : Nat} {tpos : Pos} {a1 a2 a3 z TI TO i1 i2 i3 : Addr} (b1 b2 b3 : Bool) (S : ZipSep3 z TI TO i1 i2 i3 [i1, a1] [i2, a2] [i3, a3]) :
    Turn P w K (.Tuple elts kk tpos) (JZ3 K b1 b2 b3 a1 a2 a3) [z, TI, TO, i1, i2, i3] z (fun i h => IsZip h z TI TO .none ∧ IsTupOf3 h TI (.ref i1) (.ref i2) (.ref i3) ∧ (∃ x y u, IsTupOf3 h TO x y u) ∧ HIt b1 h i1 a1 i ∧ HIt b2 h i2 a2 i ∧ HIt b3 h i3 a3 i ∧ a1 ≠ i1 ∧ a2 ≠ i2 ∧ a3 ≠ i3) where
  mem := by simp
  obj := fun i h st c hc => by
    obtain ⟨hz, hTI, ⟨x, y, u, hTO⟩, o1, o2, o3, _⟩ := st
    have six : c = z ∨ c = TI ∨ c = TO ∨ c = i1 ∨ c = i2 ∨ c = i3 := by simpa using hc
    rcases six with q | q | q | q | q | q
    · rw [q]; exact ⟨_, hz, fun v q => nomatch q⟩
    · rw [q]; exact ⟨_, hTI, fun v q => nomatch q⟩
    · rw [q]; exact ⟨_, hTO, fun v q => nomatch q⟩
    · rw [q]; exact o1.obj
    · rw [q]; exact o2.obj
    · rw [q]; exact o3.obj
  keep := fun i h h' st k => by
    obtain ⟨hz, hTI, ⟨x, y, u, hTO⟩, h1, h2, h3, ne⟩ := st
    exact ⟨k z (by simp) _ hz, k TI (by simp) _ hTI, ⟨x, y, u, k TO (by simp) _ hTO⟩, h1.keep fun o q => k i1 (by simp) o q, h2.keep fun o q => k i2 (by simp) o q, h3.keep fun o q => k i3 (by simp) o q, ne⟩
  item := by
    intro X hP hw hK hc i pins s σ H E I hf st hg
    subst hP hw hK
    obtain ⟨hz, hTI, ⟨x0, y0, z0, hTO⟩, h1, h2, h3, n1, n2, n3⟩ := st
    obtain ⟨xs, ys, zs, x, y, t, hqx, hqy, hqz, hx, hy, ht⟩ := hg
    obtain ⟨its, rv, p, _⟩ := inv_sq I hqx
    obtain ⟨its2, rv2, p2, _⟩ := inv_sq I hqy
    obtain ⟨its3, rv3, p3, _⟩ := inv_sq I hqz
    obtain ⟨u, hu, ru⟩ := rv.get hx
    obtain ⟨u2, hu2, ru2⟩ := rv2.get hy
    obtain ⟨u3, hu3, ru3⟩ := rv3.get ht
    have lt1 : i < its.toArray.size := by rw [List.size_toArray]; exact (List.getElem?_eq_some_iff.mp hu).1
    have lt2 : i < its2.toArray.size := by rw [List.size_toArray]; exact (List.getElem?_eq_some_iff.mp hu2).1
    have lt3 : i < its3.toArray.size := by rw [List.size_toArray]; exact (List.getElem?_eq_some_iff.mp hu3).1
    have zl : z < s.heap.objs.size := Heap.lt_size hz
    refine wpAny_pyNext_zipD3_item S (draws b1 (A := X.A.in1) (I.ok.hd hc) i1 a1 n1 its.toArray) (draws b2 (A := X.A.in1) (I.ok.hd hc) i2 a2 n2 its2.toArray) (draws b3 (A := X.A.in1) (I.ok.hd hc) i3 a3 n3 its3.toArray) hz hTI hTO ⟨h1, p⟩ ⟨h2, p2⟩ ⟨h3, p3⟩ lt1 lt2 lt3
      fun v1 v2 v3 h' tk e1 e2 e3 z' TO' s1' s2' s3' hT hsz hk => ?_
    have q1 : v1 = u := by
      have e1' : its.toArray[i]? = some v1 := e1
      rw [List.getElem?_toArray, hu] at e1'
      exact (Option.some.inj e1').symm
    have q2 : v2 = u2 := by
      have e2' : its2.toArray[i]? = some v2 := e2
      rw [List.getElem?_toArray, hu2] at e2'
      exact (Option.some.inj e2').symm
    have q3 : v3 = u3 := by
      have e3' : its3.toArray[i]? = some v3 := e3
      rw [List.getElem?_toArray, hu3] at e3'
      exact (Option.some.inj e3').symm
    subst q1 q2 q3
    refine ⟨_, rfl, wpAny_letOwnedTupleGo_zip (s := { s with heap := h', toks := tk }) z' fun h'' z'' sb => ?_⟩
    have hT2 : h''.get? s.heap.objs.size = some { cls := .type "tuple", data := .seq #[v1, v2, v3] } := (sb.2 _ (Nat.ne_of_gt zl)).trans hT
    have new : ObjOk X.prog X.w (upd H s.heap.objs.size (.tup [x, y, t])) h'' s.heap.objs.size (.tup [x, y, t]) := ⟨by show 3 ≤ sizeLine; decide, [v1, v2, v3], .cons ru (.cons ru2 (.cons ru3 .nil)), ⟨_, hT2, rfl, _, rfl⟩⟩
    have I1 : Inv X pins σ (upd H s.heap.objs.size (.tup [x, y, t])) { s with heap := h'', toks := tk } :=
      I.turnedNew (ch := [z, TI, TO, i1, i2, i3]) (fun c o hb q => (sb.2 c (fun q' => hb (by simp [q']))).trans (hk c o (fun q' => hb (by simp [q'])) (fun q' => hb (by simp [q'])) (fun q' => hb (by simp [q'])) (fun q' => hb (by simp [q'])) (fun q' => hb (by simp [q'])) q)) hf (Nat.le_refl _) new
    refine ⟨.ref s.heap.objs.size, _, I1, rfl, ⟨_, x, y, t, rfl, I.hok.fresh (Nat.le_refl _), rfl, fun l hl => by rw [inv_inj I hl hqx]; exact hx, fun l hl => by rw [inv_inj I hl hqy]; exact hy, fun l hl => by rw [inv_inj I hl hqz]; exact ht⟩, ⟨z'', ?_, ⟨v1, v2, v3, ?_⟩, ?_, ?_, ?_, n1, n2, n3⟩, fun c hcm => ?_⟩
    · exact (sb.2 _ S.TIz).trans (hk _ _ S.TIz S.TITO S.TIi1 S.TIi2 S.TIi3 hTI)
    · exact (sb.2 _ S.TOz).trans TO'
    · exact s1'.1.keep fun o q => (sb.2 _ (Ne.symm S.zi1)).trans q
    · exact s2'.1.keep fun o q => (sb.2 _ (Ne.symm S.zi2)).trans q
    · exact s3'.1.keep fun o q => (sb.2 _ (Ne.symm S.zi3)).trans q
    · have lt : c < s.heap.objs.size := by
        have six : c = z ∨ c = TI ∨ c = TO ∨ c = i1 ∨ c = i2 ∨ c = i3 := by simpa using hcm
        rcases six with q | q | q | q | q | q
        · rw [q]; exact zl
        · rw [q]; exact Heap.lt_size hTI
        · rw [q]; exact Heap.lt_size hTO
        · rw [q]; obtain ⟨_, e1, _⟩ := h1.obj; exact Heap.lt_size e1
        · rw [q]; obtain ⟨_, e2, _⟩ := h2.obj; exact Heap.lt_size e2
        · rw [q]; obtain ⟨_, e3, _⟩ := h3.obj; exact Heap.lt_size e3
      rw [upd_ne (Nat.ne_of_lt lt)]
      exact (hf c hcm).1
  done := by
    intro X hP hw hK hc i pins s σ H E I hf st hg
    subst hP hw hK
    obtain ⟨hz, hTI, ⟨x0, y0, z0, hTO⟩, h1, h2, h3, n1, n2, n3⟩ := st
    obtain ⟨xs, ys, zs, hqx, hqy, hqz, hend⟩ := hg
    obtain ⟨its, rv, p, _⟩ := inv_sq I hqx
    obtain ⟨its2, rv2, p2, _⟩ := inv_sq I hqy
    obtain ⟨its3, rv3, p3, _⟩ := inv_sq I hqz
    have l1 : xs.length = its.toArray.size := by rw [List.size_toArray]; exact rv.length
    have l2 : ys.length = its2.toArray.size := by rw [List.size_toArray]; exact rv2.length
    have l3 : zs.length = its3.toArray.size := by rw [List.size_toArray]; exact rv3.length
    exact wpAny_pyNext_zipD3_end S (draws b1 (A := X.A.in1) (I.ok.hd hc) i1 a1 n1 its.toArray) (draws b2 (A := X.A.in1) (I.ok.hd hc) i2 a2 n2 its2.toArray) (draws b3 (A := X.A.in1) (I.ok.hd hc) i3 a3 n3 its3.toArray) hz hTI hTO ⟨h1, p⟩ ⟨h2, p2⟩ ⟨h3, p3⟩ (by omega) (by omega) (by omega) (by omega) fun h' tk hk =>
      ⟨rfl, I.turnedL (t' := tk) (ch := [z, TI, TO, i1, i2, i3]) (fun c o hb q => hk c o (fun q' => hb (by simp [q'])) (fun q' => hb (by simp [q'])) (fun q' => hb (by simp [q'])) (fun q' => hb (by simp [q'])) (fun q' => hb (by simp [q'])) q) hf⟩
  self := fun A i s Q E st h => wpAny_pyIter_zip st.1 h
def iZ3 (K : PySem.W.Frag) (ta : TA) : TI := fun σ H R => ta σ H fun vs H1 => ∃ a1 a2 a3 b1 b2 b3 xs ys zs, vs = [.ref a1, .ref a2, .ref a3] ∧ Sq K b1 H1 a1 xs ∧ Sq K b2 H1 a2 ys ∧ Sq K b3 H1 a3 zs ∧ R (JZ3 K b1 b2 b3 a1 a2 a3) H1
theorem pi_z3 {X : Cx} {e e2 e3 : Expr} {ta : TA} {p pos tpos : Pos} {elts : List Expr} {kk : Nat} (hg : Gl X "zip") (hm : X.mg "zip" = none) (ha : PA X [e, e2, e3] ta)
    (hs : starEach [e, e2, e3] X.env = (false, eval e X.env) :: starEach [e2, e3] X.env := by rfl) (hpl : (backTo pos (starEach [e2, e3] X.env)).any (·.1) = false := by rfl) :
    PI X (.Tuple elts kk tpos) (.Call (.Name "zip" p) [e, e2, e3] [] pos) (iZ3 X.K ta) := by
  refine ⟨fun pins s σ H R I hyp => ?_⟩
  refine Call_ (ld_blt I hg hm PyProof.Rows.boot_zip (PyProof.Rows.callWith_type1 (thn (ha.run pos pins s σ H _ I hyp) fun us s1 ⟨vs, H1, I1, r1, a1, a2, a3, b1, b2, b3, xs, ys, zs, ex, hqx, hqy, hqz, q⟩ => ?_) hs hpl))
  subst ex
  cases r1 with
  | cons r rr =>
    cases rr with
    | cons r' rr =>
      cases rr with
      | cons r'' rr =>
        cases rr
        cases r
        cases r'
        cases r''
        obtain ⟨its, rv, p1, _⟩ := inv_sq I1 hqx
        obtain ⟨its2, rv2, p2, _⟩ := inv_sq I1 hqy
        obtain ⟨its3, rv3, p3, _⟩ := inv_sq I1 hqz
        have l1 := p1.lt
        have l2 := p2.lt
        have l3 := p3.lt
        refine zip_begins3 (beg b1 a1 its.toArray) (beg b2 a2 its2.toArray) (beg b3 a3 its3.toArray) p1 p2 p3 fun h' hz hTI hTO g1 g2 g3 hsz hk => wpAny_pyIter_zip hz ?_
        have I2 : Inv X pins σ H1 { s1 with heap := h' } := I1.kept (t' := s1.toks) hk
        have sep := zip_sep3 (N := s1.heap.objs.size) (fp1 := [a1]) (fp2 := [a2]) (fp3 := [a3]) (fun c hc => by rw [List.mem_singleton.mp hc]; exact l1) (fun c hc => by rw [List.mem_singleton.mp hc]; exact l2) (fun c hc => by rw [List.mem_singleton.mp hc]; exact l3)
        refine ⟨s1.heap.objs.size + 5, [s1.heap.objs.size + 5, s1.heap.objs.size + 3, s1.heap.objs.size + 4, s1.heap.objs.size, s1.heap.objs.size + 1, s1.heap.objs.size + 2], _, _, H1, rfl, I2, turn_z3 b1 b2 b3 sep,
          ⟨hz, hTI, ⟨_, _, _, hTO⟩, HIt.first g1, HIt.first g2, HIt.first g3, Nat.ne_of_lt l1, Nat.ne_of_lt (Nat.lt_succ_of_lt l2), Nat.ne_of_lt (Nat.lt_succ_of_lt (Nat.lt_succ_of_lt l3))⟩, fun c hcm => ?_, q⟩
        have hle : s1.heap.objs.size ≤ c := by
          have six : c = s1.heap.objs.size + 5 ∨ c = s1.heap.objs.size + 3 ∨ c = s1.heap.objs.size + 4 ∨ c = s1.heap.objs.size ∨ c = s1.heap.objs.size + 1 ∨ c = s1.heap.objs.size + 2 := by simpa using hcm
          rcases six with z | z | z | z | z | z
          · rw [z]; exact Nat.le_add_right _ _
          · rw [z]; exact Nat.le_add_right _ _
          · rw [z]; exact Nat.le_add_right _ _
          · rw [z]; exact Nat.le_refl _
          · rw [z]; exact Nat.le_add_right _ _
          · rw [z]; exact Nat.le_add_right _ _
        exact I1.fpOk hle (I1.hok.fresh hle)
theorem walk_z3 {K : PySem.W.Frag} {b1 b2 b3 : Bool} {a1 a2 a3 : Addr} {xs ys zs : List V} {n : Nat} (hn : n = min (min xs.length ys.length) zs.length) :
    Walk (JZ3 K b1 b2 b3 a1 a2 a3) n (fun H => Sq K b1 H a1 xs ∧ Sq K b2 H a2 ys ∧ Sq K b3 H a3 zs) (fun i H v H' => ∃ T x y z, v = .ref T ∧ H T = none ∧ H' = upd H T (.tup [x, y, z]) ∧ xs[i]? = some x ∧ ys[i]? = some y ∧ zs[i]? = some z) := by
  subst hn
  refine ⟨fun i _ hi q => ?_, fun _ q => ⟨xs, ys, zs, q.1, q.2.1, q.2.2, rfl⟩, fun i H v H' _ q y => ?_⟩
  · have h1 : i < xs.length := by omega
    have h2 : i < ys.length := by omega
    have h3 : i < zs.length := by omega
    exact ⟨xs, ys, zs, xs[i], ys[i], zs[i], q.1, q.2.1, q.2.2, by simp [h1], by simp [h2], by simp [h3]⟩
  · obtain ⟨T, x, y, z, h1, h2, h3, h4, h5, h6⟩ := y
    exact ⟨T, x, y, z, h1, h2, h3, h4 xs q.1, h5 ys q.2.1, h6 zs q.2.2⟩
def z3D : List D → List D → List D → List D
  | x :: xs, y :: ys, z :: zs => .tup [x, y, z] :: z3D xs ys zs
  | _, _, _ => []
theorem z3D_len : ∀ xs ys zs, (z3D xs ys zs).length = min (min xs.length ys.length) zs.length
  | [], _, _ => by simp [z3D]
  | _ :: _, [], _ => by simp [z3D]
  | _ :: _, _ :: _, [] => by simp [z3D]
  | x :: xs, y :: ys, z :: zs => by
    have := z3D_len xs ys zs
    show (z3D xs ys zs).length + 1 = min (min (xs.length + 1) (ys.length + 1)) (zs.length + 1)
    omega
theorem z3D_get : ∀ {xs ys zs : List D} {i : Nat} {d : D}, (z3D xs ys zs)[i]? = some d → ∃ x y z, xs[i]? = some x ∧ ys[i]? = some y ∧ zs[i]? = some z ∧ d = .tup [x, y, z]
  | [], _, _, _, _, h => by simp [z3D] at h
  | _ :: _, [], _, _, _, h => by simp [z3D] at h
  | _ :: _, _ :: _, [], _, _, h => by simp [z3D] at h
  | x :: xs, y :: ys, z :: zs, 0, d, h => ⟨x, y, z, rfl, rfl, rfl, (Option.some.inj h).symm⟩
  | x :: xs, y :: ys, z :: zs, i + 1, d, h => z3D_get (xs := xs) (i := i) h
section
variable {K : PySem.W.Frag} {w : Wd}
theorem wk_z3 {b1 b2 b3 : Bool} {a1 a2 a3 : Addr} {xs ys zs : List D} {vs us ts : List V} (q1 : Sq K b1 w.F a1 vs) (r1 : RepAll K w xs vs) (q2 : Sq K b2 w.F a2 us) (r2 : RepAll K w ys us) (q3 : Sq K b3 w.F a3 ts) (r3 : RepAll K w zs ts) : Wk K w (JZ3 K b1 b2 b3 a1 a2 a3) (z3D xs ys zs) := by
  have wl := walk_z3 (K := K) (b1 := b1) (b2 := b2) (b3 := b3) (a1 := a1) (a2 := a2) (a3 := a3) (xs := vs) (ys := us) (zs := ts) (n := (z3D xs ys zs).length) (by rw [z3D_len, r1.length, r2.length, r3.length])
  refine ⟨_, _, wl, fun H e => ⟨q1.mono e, q2.mono e, q3.mono e⟩, fun i H x H1 d y e => .inr ?_⟩
  obtain ⟨T, y1, y2, y3, h1, h2, h3, h4, h5, h6⟩ := y
  obtain ⟨d1, d2, d3, e1, e2, e3, rfl⟩ := z3D_get e
  obtain ⟨u1, g1, s1⟩ := r1.get e1
  obtain ⟨u2, g2, s2⟩ := r2.get e2
  obtain ⟨u3, g3, s3⟩ := r3.get e3
  rw [g1] at h4
  rw [g2] at h5
  rw [g3] at h6
  cases h4
  cases h5
  cases h6
  exact ⟨T, _, [d1, d2, d3], h1, h2, h3, rfl, RepAll.cons s1 (RepAll.cons s2 (RepAll.one s3))⟩
end
def iZ3M (ma mb mc : M D) : M (List D) := fun s => (ma s).bind fun x s1 => (mb s1).bind fun y s2 => (mc s2).bind fun z s3 => match seqD x, seqD y, seqD z with
  | some (_, xs), some (_, ys), some (_, zs) => .ok (z3D xs ys zs) s3
  | _, _, _ => .no
theorem i_z3 {X : Cx} {W : WX} {a b c : Expr} {p pos tpos : Pos} {elts : List Expr} {kk : Nat} {ma mb mc : M D} (hg : Gl X "zip") (hm : X.mg "zip" = none) (ha : PE X a (tM X.K W ma)) (hb : PE X b (tM X.K W mb)) (hd : PE X c (tM X.K W mc))
    (hs : starEach [a, b, c] X.env = (false, eval a X.env) :: starEach [b, c] X.env := by rfl) (hs2 : starEach [b, c] X.env = (false, eval b X.env) :: starEach [c] X.env := by rfl) (hs3 : starEach [c] X.env = (false, eval c X.env) :: starEach [] X.env := by rfl)
    (hpl : (backTo pos (starEach [b, c] X.env)).any (·.1) = false := by rfl) : PI X (.Tuple elts kk tpos) (.Call (.Name "zip" p) [a, b, c] [] pos) (tI X.K W (iZ3M ma mb mc)) := by
  refine pi_imp (pi_z3 hg hm (pa_cons ha (pa_cons hb (pa_cons hd pa_nil hs3) hs2) hs) hs hpl) fun σ H R ⟨f, w, s, st, q⟩ => ⟨f, w, s, st, Po.thn q fun x w1 s1 v H1 e1 st1 r1 p1 => ⟨f, w1, s1, st1, Po.thn p1 fun y w2 s2 u H2 e2 st2 r2 p2 => ⟨f, w2, s2, st2, Po.thn p2 fun z w3 s3 t H3 e3 st3 r3 p3 => ?_⟩⟩⟩
  cases ex : seqD x with
  | none => rw [ex] at p3; exact p3.elim
  | some bx =>
    cases ey : seqD y with
    | none => rw [ex, ey] at p3; exact p3.elim
    | some by' =>
      cases ez : seqD z with
      | none => rw [ex, ey, ez] at p3; exact p3.elim
      | some bz =>
        obtain ⟨b1, xs⟩ := bx
        obtain ⟨b2, ys⟩ := by'
        obtain ⟨b3, zs⟩ := bz
        rw [ex, ey, ez] at p3
        obtain ⟨a1, vs, rfl, h1, h2⟩ := (Rep.mono (e2.trans e3) r1).sq ex
        obtain ⟨a2, us, rfl, h3, h4⟩ := (Rep.mono e3 r2).sq ey
        obtain ⟨a3, ts, rfl, h5, h6⟩ := r3.sq ez
        exact ⟨a1, a2, a3, b1, b2, b3, vs, us, ts, rfl, h1.mono st3.sub, h3.mono st3.sub, h5.mono st3.sub, p3 w3 H3 _ (Ext.refl _) st3 (wk_z3 h1 h2 h3 h4 h5 h6)⟩
def dIsN (x y : D) : Option Bool := match y with
  | .non => some (isNonD x)
  | _ => none
def dNotN (x y : D) : Option Bool := match y with
  | .non => some (!isNonD x)
  | _ => none
theorem isN_okB {K : PySem.W.Frag} : R2Ok K (fun x y H Q => y = .non ∧ Q (.bl (decide (x = .non))) H) (fun x y => oB (dIsN x y)) := isN_ok.g fun x y => by cases y <;> rfl
theorem notN_okB {K : PySem.W.Frag} : R2Ok K (fun x y H Q => y = .non ∧ Q (.bl (!decide (x = .non))) H) (fun x y => oB (dNotN x y)) := notN_ok.g fun x y => by cases y <;> rfl
theorem q_gintE {X : Cx} {W : WX} {x : Str} {i : Int} {pos : Pos} (hg : Gl X x) (hm : ∃ t, X.mg x = some (.int i t)) (hd : (x == ("__debug__" : Str)) = false := by decide) : PE X (.Name x pos) (tM X.K W (con (.int i))) := by
  obtain ⟨t, h⟩ := hm
  exact q_gint hg h hd
end Pv
end PvT_

section PvU_
set_option Elab.async false
set_option linter.all false
set_option maxRecDepth 100000
set_option maxHeartbeats 4000000
namespace Pv
open PySem PySem.Spec PyProof.Rows L2

/-! ### a def's worth, told over a type of arguments -/
open Classical in
noncomputable def fnOf {α : Type} (enc : α → List D) (res : α → Box → RO) : Fn := fun ds b => if h : ∃ a, enc a = ds then res h.choose b else .no
section
variable {α : Type} {enc : α → List D} {res : α → Box → RO}
theorem fnOf_at (inj : ∀ a a', enc a = enc a' → a = a') (a : α) (b : Box) : fnOf enc res (enc a) b = res a b := by
  have h : ∃ a', enc a' = enc a := ⟨a, rfl⟩
  unfold fnOf
  rw [dif_pos h, inj _ _ h.choose_spec]
theorem fnOf_inv {ds : List D} {b : Box} (h : fnOf enc res ds b ≠ .no) : ∃ a, enc a = ds := by
  unfold fnOf at h
  split at h
  · assumption
  · exact absurd rfl h
theorem has_enc {P : Program} {w : World} {K : PySem.W.Frag} {mg : Str → Option Value} {base : Heap} {x : Str} {n k : Nat} {st : Stmt} {N ps : List Str} (D : DefAt K mg x st ps) (S : FnScope N ps (defScope st)) (hn : ps.length = n) (inj : ∀ a a', enc a = enc a' → a = a')
    (body : ∀ a b, res a b ≠ .no → ∃ ms : MS, (∀ (cdv : Value) (A : Around) (outer : List Env) (s : Shared) (H : Hp) (E : XK) (f : Addr), Bd (cxOf (L2.CX P w) P w K mg base N x (defScope st) f cdv A outer s H E) (fun c d _ H => E c d H) k →
      PSs (cxOf (L2.CX P w) P w K mg base N x (defScope st) f cdv A outer s H E) (defBody st) (tS K (fun c d _ H => E c d H) ms)) ∧ outOf (ms (s0 N (enc a) b)) = res a b) : Has P w K mg base x n (k + 1) (fnOf enc res) := by
  refine has_of D S hn fun ds b e g => ?_
  obtain ⟨a, rfl⟩ := fnOf_inv g
  rw [fnOf_at inj] at g ⊢
  exact body a b g
end

/-! ### comprehensions that draw nothing -/
theorem setE_len {i : Nat} {x : SV} {e : List SV} : (e.set i x).length = e.length := List.length_set
theorem back_same : ∀ {vs : List Nat} {e0 e : List SV}, e.length = e0.length → wipeE vs e = wipeE vs e0 → backE vs e0 e = e0 := by
  intro vs e0 e hl hw
  apply List.ext_getElem?
  intro j
  by_cases lt : j < e.length
  · have e1 : (backE vs e0 e)[j]? = some ((backE vs e0 e)[j]'(by rw [backE_length]; exact lt)) := List.getElem?_eq_getElem _
    rcases backE_get e1 with ⟨h1, h2⟩ | ⟨h1, h2⟩
    · rw [e1, h2, List.getD_eq_getElem?_getD, List.getElem?_eq_getElem (by omega)]
      rfl
    · have a1 : (wipeE vs e)[j]? = some ((wipeE vs e)[j]'(by rw [wipeE_length]; exact lt)) := List.getElem?_eq_getElem _
      have a2 : (wipeE vs e0)[j]? = some ((wipeE vs e)[j]'(by rw [wipeE_length]; exact lt)) := by rw [← hw]; exact a1
      rcases wipeE_get a1 with ⟨c, _⟩ | ⟨_, c1⟩
      · exact absurd c h1
      · rcases wipeE_get a2 with ⟨c, _⟩ | ⟨_, c2⟩
        · exact absurd c h1
        · rw [e1, ← h2, c1, c2]
  · rw [List.getElem?_eq_none (by rw [backE_length]; omega), List.getElem?_eq_none (by omega)]
theorem compL_pure {g : D → S → Option S} {tt : M Bool} {me : M D} {vs : List Nat} {s1 : S} {p : D → Bool} {f : D → D} : ∀ (ds acc : List D) (s : S), wipeS vs s = wipeS vs s1 →
    (∀ d ∈ ds, ∃ s', g d (wipeS vs s1) = some s' ∧ tt s' = .ok (p d) s' ∧ (p d = true → me s' = .ok (f d) s') ∧ wipeS vs s' = wipeS vs s1) → acc.length + ds.length ≤ sizeLine →
    ∃ s2, sCompL g tt me vs ds acc s = .ok (acc ++ (ds.filter p).map f) s2 ∧ wipeS vs s2 = wipeS vs s1
  | [], acc, s, hw, _, _ => ⟨s, by simp [sCompL], hw⟩
  | d :: r, acc, s, hw, h, hl => by
    obtain ⟨s', h1, h2, h3, h4⟩ := h d (by simp)
    rw [List.length_cons] at hl
    have step : sCompL g tt me vs (d :: r) acc s = (match tt s' with
        | .ok false s2 => sCompL g tt me vs r acc s2
        | .ok true s2 => (match me s2 with
          | .ok x s3 => if acc.length < sizeLine then sCompL g tt me vs r (acc ++ [x]) s3 else .no
          | _ => .no)
        | _ => .no) := by
      show (match g d (wipeS vs s) with
        | none => Out.no
        | some s1 => _) = _
      rw [hw, h1]
      try rfl
    rw [step, h2]
    cases hp : p d with
    | false =>
      obtain ⟨s2, q1, q2⟩ := compL_pure r acc s' h4 (fun d hd => h d (by simp [hd])) (by omega)
      exact ⟨s2, by rw [List.filter_cons_of_neg (by rw [hp]; exact Bool.false_ne_true)]; exact q1, q2⟩
    | true =>
      obtain ⟨s2, q1, q2⟩ := compL_pure r (acc ++ [f d]) s' h4 (fun d hd => h d (by simp [hd])) (by rw [List.length_append, List.length_singleton]; omega)
      refine ⟨s2, ?_, q2⟩
      show (match me s' with
          | .ok x s3 => if acc.length < sizeLine then sCompL g tt me vs r (acc ++ [x]) s3 else .no
          | _ => .no) = _
      rw [h3 hp]
      show (if acc.length < sizeLine then sCompL g tt me vs r (acc ++ [f d]) s' else .no) = _
      rw [if_pos (by omega), q1, List.filter_cons_of_pos hp, List.map_cons, List.append_assoc]
      rfl
/-- [f(d) for d in ds if p(d)], where nothing else changes -/
theorem comp_pure {mi : M (List D)} {g : D → S → Option S} {tt : M Bool} {me : M D} {vs : List Nat} {s s1 : S} {ds : List D} (p : D → Bool) (f : D → D) (h1 : mi s = .ok ds s1) (hno : vs.all (fun i => !(getS i s1).own) = true)
    (h : ∀ d ∈ ds, ∃ s', g d (wipeS vs s1) = some s' ∧ tt s' = .ok (p d) s' ∧ (p d = true → me s' = .ok (f d) s') ∧ wipeS vs s' = wipeS vs s1) (hl : ds.length ≤ sizeLine) : mComp mi g tt me vs s = .ok ((ds.filter p).map f) s1 := by
  unfold mComp
  rw [h1]
  show (if vs.all (fun i => !(getS i s1).own) = true then _ else _) = _
  rw [if_pos hno]
  obtain ⟨s2, q1, q2⟩ := compL_pure ds [] s1 rfl h (by simpa using hl)
  rw [q1]
  have eb : s2.box = s1.box := (congrArg S.box q2 : (wipeS vs s2).box = (wipeS vs s1).box)
  have ee : wipeE vs s2.env = wipeE vs s1.env := (congrArg S.env q2 : (wipeS vs s2).env = (wipeS vs s1).env)
  have el : s2.env.length = s1.env.length := by
    have := congrArg List.length ee
    rw [wipeE_length, wipeE_length] at this
    exact this
  show Out.ok ([] ++ (ds.filter p).map f) ({ s2 with env := backE vs s1.env s2.env } : S) = _
  rw [back_same el ee, List.nil_append, eb]
/-- without a test -/
theorem comp_map {mi : M (List D)} {g : D → S → Option S} {me : M D} {vs : List Nat} {s s1 : S} {ds : List D} (f : D → D) (h1 : mi s = .ok ds s1) (hno : vs.all (fun i => !(getS i s1).own) = true)
    (h : ∀ d ∈ ds, ∃ s', g d (wipeS vs s1) = some s' ∧ me s' = .ok (f d) s' ∧ wipeS vs s' = wipeS vs s1) (hl : ds.length ≤ sizeLine) : mComp mi g mYes me vs s = .ok (ds.map f) s1 := by
  have := comp_pure (tt := mYes) (fun _ => true) f h1 hno (fun d hd => by
    obtain ⟨s', q1, q2, q3⟩ := h d hd
    exact ⟨s', q1, rfl, fun _ => q2, q3⟩) hl
  rw [List.filter_eq_self.mpr (fun _ _ => rfl)] at this
  exact this

/-! ### comprehensions whose elements draw: the box goes from one to the next -/
def accum (f : D → Box → D × Box) : List D → Box → List D × Box
  | [], b => ([], b)
  | d :: r, b => ((f d b).1 :: (accum f r (f d b).2).1, (accum f r (f d b).2).2)
theorem accum_len {f : D → Box → D × Box} : ∀ {ds : List D} {b : Box}, (accum f ds b).1.length = ds.length
  | [], _ => rfl
  | d :: r, b => congrArg (· + 1) (accum_len (ds := r))
def withBox (s : S) (b : Box) : S := { s with box := b }
theorem compL_box {g : D → S → Option S} {me : M D} {vs : List Nat} {s1 : S} {f : D → Box → D × Box} : ∀ (ds acc : List D) (s : S), wipeE vs s.env = wipeE vs s1.env →
    (∀ d ∈ ds, ∀ b, ∃ s', g d (withBox (wipeS vs s1) b) = some s' ∧ ∃ s3, me s' = .ok (f d b).1 s3 ∧ s3.box = (f d b).2 ∧ wipeE vs s3.env = wipeE vs s1.env) → acc.length + ds.length ≤ sizeLine →
    ∃ s2, sCompL g mYes me vs ds acc s = .ok (acc ++ (accum f ds s.box).1) s2 ∧ wipeE vs s2.env = wipeE vs s1.env ∧ s2.box = (accum f ds s.box).2
  | [], acc, s, hw, _, _ => ⟨s, by simp [sCompL, accum], hw, rfl⟩
  | d :: r, acc, s, hw, h, hl => by
    obtain ⟨s', h1, s3, h2, h3, h4⟩ := h d (by simp) s.box
    rw [List.length_cons] at hl
    have ew : wipeS vs s = withBox (wipeS vs s1) s.box := by
      show ({ s with env := wipeE vs s.env } : S) = { wipeS vs s1 with box := s.box }
      rw [hw]
      rfl
    have step : sCompL g mYes me vs (d :: r) acc s = (match me s' with
          | .ok x s3 => if acc.length < sizeLine then sCompL g mYes me vs r (acc ++ [x]) s3 else .no
          | _ => .no) := by
      show (match g d (wipeS vs s) with
        | none => Out.no
        | some s1 => _) = _
      rw [ew, h1]
      rfl
    rw [step, h2]
    obtain ⟨s2, q1, q2, q3⟩ := compL_box r (acc ++ [(f d s.box).1]) s3 h4 (fun d hd => h d (by simp [hd])) (by rw [List.length_append, List.length_singleton]; omega)
    rw [h3] at q1 q3
    refine ⟨s2, ?_, q2, q3⟩
    show (if acc.length < sizeLine then sCompL g mYes me vs r (acc ++ [(f d s.box).1]) s3 else .no) = _
    rw [if_pos (by omega), q1, List.append_assoc]
    rfl
theorem comp_box {mi : M (List D)} {g : D → S → Option S} {me : M D} {vs : List Nat} {s s1 : S} {ds : List D} (f : D → Box → D × Box) (h1 : mi s = .ok ds s1) (hno : vs.all (fun i => !(getS i s1).own) = true)
    (h : ∀ d ∈ ds, ∀ b, ∃ s', g d (withBox (wipeS vs s1) b) = some s' ∧ ∃ s3, me s' = .ok (f d b).1 s3 ∧ s3.box = (f d b).2 ∧ wipeE vs s3.env = wipeE vs s1.env) (hl : ds.length ≤ sizeLine) :
    mComp mi g mYes me vs s = .ok (accum f ds s1.box).1 (withBox s1 (accum f ds s1.box).2) := by
  unfold mComp
  rw [h1]
  show (if vs.all (fun i => !(getS i s1).own) = true then _ else _) = _
  rw [if_pos hno]
  obtain ⟨s2, q1, q2, q3⟩ := compL_box ds [] s1 rfl h (by simpa using hl)
  rw [q1]
  have el : s2.env.length = s1.env.length := by
    have := congrArg List.length q2
    rw [wipeE_length, wipeE_length] at this
    exact this
  show Out.ok ([] ++ _) ({ s2 with env := backE vs s1.env s2.env } : S) = _
  rw [back_same el q2, List.nil_append, q3]
  rfl

/-! ### loops -/
theorem for_nil {g : D → S → Option S} {mb : MS} {s : S} : sForL g mb [] s = .nx s := rfl
theorem for_cons {g : D → S → Option S} {mb : MS} {d : D} {r : List D} {s s1 s2 : S} (h1 : g d s = some s1) (h2 : mb s1 = .nx s2) : sForL g mb (d :: r) s = sForL g mb r s2 := by
  show (match g d s with
    | none => SO.no
    | some s1 => match mb s1 with
      | .nx s2 => sForL g mb r s2
      | .ct s2 => sForL g mb r s2
      | .bk s2 => .nx s2
      | o => o) = _
  rw [h1]
  show (match mb s1 with
      | .nx s2 => sForL g mb r s2
      | .ct s2 => sForL g mb r s2
      | .bk s2 => .nx s2
      | o => o) = _
  rw [h2]
theorem for_ct {g : D → S → Option S} {mb : MS} {d : D} {r : List D} {s s1 s2 : S} (h1 : g d s = some s1) (h2 : mb s1 = .ct s2) : sForL g mb (d :: r) s = sForL g mb r s2 := by
  show (match g d s with
    | none => SO.no
    | some s1 => match mb s1 with
      | .nx s2 => sForL g mb r s2
      | .ct s2 => sForL g mb r s2
      | .bk s2 => .nx s2
      | o => o) = _
  rw [h1]
  show (match mb s1 with
      | .nx s2 => sForL g mb r s2
      | .ct s2 => sForL g mb r s2
      | .bk s2 => .nx s2
      | o => o) = _
  rw [h2]
theorem for_bk {g : D → S → Option S} {mb : MS} {d : D} {r : List D} {s s1 s2 : S} (h1 : g d s = some s1) (h2 : mb s1 = .bk s2) : sForL g mb (d :: r) s = .nx s2 := by
  show (match g d s with
    | none => SO.no
    | some s1 => match mb s1 with
      | .nx s2 => sForL g mb r s2
      | .ct s2 => sForL g mb r s2
      | .bk s2 => .nx s2
      | o => o) = _
  rw [h1]
  show (match mb s1 with
      | .nx s2 => sForL g mb r s2
      | .ct s2 => sForL g mb r s2
      | .bk s2 => .nx s2
      | o => o) = _
  rw [h2]
theorem for_rt {g : D → S → Option S} {mb : MS} {d x : D} {r : List D} {s s1 s2 : S} (h1 : g d s = some s1) (h2 : mb s1 = .rt x s2) : sForL g mb (d :: r) s = .rt x s2 := by
  show (match g d s with
    | none => SO.no
    | some s1 => match mb s1 with
      | .nx s2 => sForL g mb r s2
      | .ct s2 => sForL g mb r s2
      | .bk s2 => .nx s2
      | o => o) = _
  rw [h1]
  show (match mb s1 with
      | .nx s2 => sForL g mb r s2
      | .ct s2 => sForL g mb r s2
      | .bk s2 => .nx s2
      | o => o) = _
  rw [h2]
theorem small_line {n : Nat} (h : n ≤ 100000) : n ≤ sizeLine := by rw [PySem.sizeLine_eq]; omega
end Pv
end PvU_

section PvV_
set_option Elab.async false
set_option linter.all false
set_option maxRecDepth 100000
set_option maxHeartbeats 4000000
namespace Pv
open PySem PySem.Spec PyProof.Rows L2

/-! ### [..] or [..] -/
def fOr (ma mb : M (List D)) : M (List D) := fun s => (ma s).bind fun xs s1 => if xs.isEmpty then mb s1 else .ok xs s1
theorem f_or {X : Cx} {W : WX} {a b : Expr} {pos : Pos} {ma mb : M (List D)} (ha : PE X a (tF X.K W ma)) (hb : PE X b (tF X.K W mb)) : PE X (.BoolOp .Or [a, b] pos) (tF X.K W (fOr ma mb)) := by
  refine pe_imp (pe_orT ha (pe_one hb)) fun σ H Q ⟨f, w, s, st, q⟩ => ⟨f, w, s, st, Po.thn q fun xs w1 s1 v H1 e1 st1 r1 p1 => ?_⟩
  obtain ⟨p, vs, rfl, h1, h2, h3⟩ := id r1
  cases xs with
  | nil =>
    have hv : vs = [] := h2
    subst hv
    refine ⟨false, .inl ⟨[], .inl (.inl h1), rfl⟩, ?_⟩
    rw [if_neg Bool.false_ne_true]
    exact ⟨f, w1, s1, st1, p1⟩
  | cons x r =>
    obtain ⟨y, z, rfl, _⟩ := id h2
    refine ⟨true, .inl ⟨_, .inl (.inl h1), rfl⟩, ?_⟩
    rw [if_pos rfl]
    exact p1 w1 H1 _ (Ext.refl _) st1 r1

/-! ### a def whose answer is a new list of three ints: the box -/
def PoR (K : PySem.W.Frag) (f : Fm) (W : WX) (w : Wd) (E : Ends) : Out (List D) → Prop
  | .ok a s' => ∀ w' σ' H' v, Ext w w' → StOk K f w' s' σ' H' → RF K f w' s' σ' H' a v → E.rt v H'
  | .exc e s' => ∀ w' σ' H' c dd, Ext w w' → StOk K f w' s' σ' H' → RepX K w' H' e c dd → W c dd σ' H'
  | .no => False
abbrev tR (K : PySem.W.Frag) (W : WX) (m : M (List D)) : TS := fun E σ H => ∃ f w s, StOk K f w s σ H ∧ PoR K f W w E (m s)
theorem PoR.ext {K : PySem.W.Frag} {f : Fm} {W : WX} {w w' : Wd} {E : Ends} {o : Out (List D)} (h : PoR K f W w E o) (e : Ext w w') : PoR K f W w' E o := by
  cases o with
  | ok a s => exact fun w2 σ2 H2 v e2 => h w2 σ2 H2 v (e.trans e2)
  | exc x s => exact fun w2 σ2 H2 c dd e2 => h w2 σ2 H2 c dd (e.trans e2)
  | no => exact h
def rSeq (ms : MS) (m : M (List D)) : M (List D) := fun s => match ms s with
  | .nx s1 => m s1
  | .exc e s1 => .exc e s1
  | _ => .no
theorem s_retF {X : Cx} {W : WX} {e : Expr} {pos : Pos} {m : M (List D)} (he : PE X e (tF X.K W m)) : PS X (.Return (some e) pos) (tR X.K W m) := ps_imp (ps_ret he) fun E σ H ⟨f, w, s, st, p⟩ => ⟨f, w, s, st, by
  cases em : m s with
  | ok a s1 => rw [em] at p; exact fun w' H' b e1 st1 r => p w' σ H' b e1 st1 r
  | exc y s1 => rw [em] at p; exact fun w' H' c dd e1 st1 r => p w' σ H' c dd e1 st1 r
  | no => rw [em] at p; exact p.elim⟩
theorem r_one {X : Cx} {W : WX} {st : Stmt} {m : M (List D)} (h : PS X st (tR X.K W m)) : PSs X [st] (tR X.K W m) := pss_one h
theorem r_cons {X : Cx} {W : WX} {st : Stmt} {rest : List Stmt} {ms : MS} {m : M (List D)} (h : PS X st (tS X.K W ms)) (g : PSs X rest (tR X.K W m)) : PSs X (st :: rest) (tR X.K W (rSeq ms m)) := by
  refine pss_imp (pss_cons h g) fun E σ H ⟨f, w, s, st, p⟩ => ⟨f, w, s, st, ?_⟩
  unfold rSeq at p
  cases e : ms s with
  | nx s1 => rw [e] at p; exact fun w' σ' H' x st' => ⟨f, w', s1, st', PoR.ext p x⟩
  | exc y s1 => rw [e] at p; exact p
  | rt _ _ => rw [e] at p; exact p.elim
  | bk _ => rw [e] at p; exact p.elim
  | ct _ => rw [e] at p; exact p.elim
  | no => rw [e] at p; exact p.elim
def spB (K : PySem.W.Frag) (F : List D → Option Box) (n : Nat) : Sp := fun vs H Q E => ∃ ds w, ds.length = n ∧ Same w.F H ∧ RepAll K w ds vs ∧ w.bp = none ∧ ∃ b, F ds = some b ∧
  ∀ w' H' p, Ext w w' → w'.bp = none → Same w'.F H' → (∀ a o, H a = some o → H' a = some o) → (∀ a, H a ≠ none → w.F a = none → w'.F a = none) → H' p = some (boxV b) → w'.F p = none → H p = none → Q (.ref p) H'
structure HasB (P : Program) (w : World) (K : PySem.W.Frag) (mg : Str → Option Value) (base : Heap) (x : Str) (n k : Nat) (F : List D → Option Box) : Prop where
  ex : ∃ (f : Addr) (fd : FuncData) (ps : List Str), FnOk P w K mg base (L2.CX P w) k f fd ps (spB K F n) ∧ mg x = some (.ref f) ∧ PySem.W.keepIn K (.ref f) = true ∧ Binds K fd ps []
theorem hasB_of {P : Program} {w : World} {K : PySem.W.Frag} {mg : Str → Option Value} {base : Heap} {x : Str} {n k : Nat} {F : List D → Option Box} {st : Stmt} {N ps : List Str} (D : DefAt K mg x st ps) (S : FnScope N ps (defScope st)) (hn : ps.length = n)
    (body : ∀ ds b, ds.length = n → F ds = some b → ∃ m : M (List Pv.D), (∀ (cdv : Value) (A : Around) (outer : List Env) (s : Shared) (H : Hp) (E : XK) (f : Addr), Bd (cxOf (L2.CX P w) P w K mg base N x (defScope st) f cdv A outer s H E) (fun c d _ H => E c d H) k →
      PSs (cxOf (L2.CX P w) P w K mg base N x (defScope st) f cdv A outer s H E) (defBody st) (tR K (fun c d _ H => E c d H) m)) ∧ ∃ s1, m (s0 N ds (0, 0, 0)) = .ok [.int b.1, .int b.2.1, .int b.2.2] s1) : HasB P w K mg base x n (k + 1) F := by
  obtain ⟨f, fd, h1, h2, h3⟩ := D.ex
  refine ⟨f, fd, ps, h1.okX S (fun vs H Q E ⟨ds, w, e1, _, e3, _⟩ => by rw [e3.length, e1, hn]) fun cdv A outer s H vs Q E hr ⟨ds, w0, e1, e2, e3, e4, b, e5, q⟩ => ?_, h2, h1.kp, h3⟩
  obtain ⟨m, m1, s1, m2⟩ := body ds b e1 e5
  refine ⟨_, m1 cdv A outer s H E f ⟨takes_of rfl rfl rfl rfl, passes_of rfl, hr⟩, _, w0, s0 N ds (0, 0, 0), st0 N e2 e3 (fun p z => by rw [e4] at z; cases z), ?_⟩
  rw [m2]
  intro w' σ' H' v x1 st r
  obtain ⟨p, us, rfl, g1, g2, g3, g4, g5, g6⟩ := r
  have eb : w'.bp = none := (st.bf rfl).trans e4
  have hv : us = [V.int b.1, .int b.2.1, .int b.2.2] := RepAll.ints (ns := [b.1, b.2.1, b.2.2]) g2
  refine q w' H' p x1 eb st.sub (fun a o z => st.fr a o z (by rw [e4]; exact fun z => nomatch z)) (fun a z1 z2 => st.ff a z1 z2) ?_ g3 g5
  rw [g1, hv]
  rfl
/-- the law's first statement: the box is made -/
abbrev tB (K : PySem.W.Frag) (W : WX) (m : MS) : TS := fun E σ H => ∃ f w s, StOk K f w s σ H ∧ f.fx = true ∧ f.b0 = none ∧ PoS K { f with fx := false } W w E (m s)
def sBox (i : Nat) (F : List D → Option Box) (m : M (List D)) : MS := fun s => (m s).toS fun ds s1 => match F ds with
  | some b => .nx { setS i .bx s1 with box := b }
  | none => .no
section
variable {X : Cx} {W : WX} {e : Expr} {es rest : List Expr} {m : M (List D)} {F : List D → Option Box} {x y : Str} {p pos pos' cpos : Pos} {n k i : Nat} {mr : MS} {sts : List Stmt}
theorem StOk.loose {K : PySem.W.Frag} {f : Fm} {w : Wd} {s : S} {σ : L2.St} {H : Hp} (st : StOk K f w s σ H) : StOk K { f with fx := false } w s σ H :=
  ⟨st.sub, st.fr, st.ff, st.f0, st.bb, (fun z => nomatch z), st.len, st.slot, st.bx, st.dist⟩
theorem box_cons (h : HasB X.prog X.w X.K X.mg X.base x n k F) (hr : Room k X.A) (tk : Takes X W) (hg : Gl X x) (ha : PA X (e :: es) (tA X.K W m)) (hn : ∀ s ds s1, m s = .ok ds s1 → ds.length = n) (hN : X.N.Nodup) (hi : X.N[i]? = some y) (hx : Loc X.env.scope y) (hrest : PSs X sts (tS X.K W mr))
    (hs : swapsWith (.Call (.Name x p) (e :: es) [] cpos) (some (.Name y pos')) pos.line X.env = pure false := by rfl) (hdb : (x == ("__debug__" : Str)) = false := by decide)
    (hf : X.fn y = true ∨ X.env.scope.names.lookup y = some .local := by first | exact .inl rfl | exact .inr rfl | assumption)
    (he : starEach (e :: es) X.env = (false, eval e X.env) :: starEach es X.env := by rfl) (hpl : (backTo cpos (starEach es X.env)).any (·.1) = false := by rfl) :
    PSs X (.Assign [.Name y pos'] (.Call (.Name x p) (e :: es) [] cpos) pos :: sts) (tB X.K W (sSeq (sBox i F m) mr)) := by
  obtain ⟨f0, fd, ps, h1, h2, h3, h4⟩ := h.ex
  refine pss_imp (pss_cons (ps_set hN hi hx (pe_callS (E := WE W) h1 hr hg h2 h3 h4 (passAt tk) ha hdb he hpl) hs hf) hrest) fun E σ H ⟨f, w, s, st, fx, b0, p⟩ => ⟨f, w, s, st, ?_⟩
  have p1 : PoS X.K { f with fx := false } W w E ((sBox i F m s).bind mr) := p
  unfold sBox at p1
  cases em : m s with
  | no => rw [em] at p1; exact p1.elim
  | exc z s1 =>
    rw [em] at p1
    exact fun w' H' c dd e1 st1 r => p1 w' σ H' c dd e1 st1.loose r
  | ok ds s1 =>
    rw [em] at p1
    intro w1 H1 vs x1 st1 r1
    have p2 : PoS X.K { f with fx := false } W w E (SO.bind (match F ds with | some b => .nx { setS i .bx s1 with box := b } | none => .no) mr) := p1
    cases eF : F ds with
    | none => rw [eF] at p2; exact p2.elim
    | some b =>
      rw [eF] at p2
      have wb : w1.bp = none := (st1.bf fx).trans b0
      refine ⟨ds, w1, hn _ _ _ em, st1.sub, r1, wb, b, eF, fun w' H' q x2 wb' sub fr ff hq hF hq1 => ?_⟩
      have fresh : f.H0 q = none := st1.fresh0 hq1
      have okk : StOk X.K { f with fx := false } ⟨w'.F, some q⟩ { setS i .bx s1 with box := b } (σ.set i (some (.ref q))) H' := by
        have x3 : Ext w1 ⟨w'.F, some q⟩ := ⟨x2.same, fun p z => by rw [wb] at z; cases z⟩
        refine ⟨sub, fun a o z n => fr a o (st1.fr a o z n), fun a z1 z2 => ?_, st1.f0.trans x2.same, (fun p z => by rw [show f.b0 = none from b0] at z; cases z), (fun z => nomatch z), by simpa [setS] using st1.len, fun j u g => ?_, fun p z => ?_, fun j l u v r nn g1 g2 o1 o2 e7 => ?_⟩
        · refine ff a ?_ (st1.ff a z1 z2)
          cases z3 : f.H0 a with
          | none => exact absurd z3 z1
          | some o =>
            rw [st1.fr a o z3 (by rw [b0]; exact fun z => nomatch z)]
            exact fun z => nomatch z
        · rcases getElem?_set_cases g with ⟨rfl, rfl⟩ | ⟨nj, g⟩
          · have hi : i < σ.length := by
              have := lt_of_get (s := setS i .bx s1) g
              rw [← st1.len]
              simpa [setS] using this
            refine ⟨q, ?_, rfl⟩
            rw [List.getElem?_set_self hi]
            rfl
          · rw [List.getElem?_set_ne nj]
            refine (st1.slot j u g).ext x3 fun r o e1 => ?_
            obtain ⟨r', g2, g3, g4, g5, g6⟩ := (st1.slot j u g).at o
            rw [e1] at g2
            cases g2
            refine ⟨?_, ff r g3 g4, fun z => ?_⟩
            · cases z : H1 r with
              | none => exact absurd z g3
              | some o => exact fr r o z
            · cases z
              exact g3 hq1
        · cases z
          exact ⟨hq, hF, .inr fresh⟩
        · rcases getElem?_set_cases g1 with ⟨rfl, rfl⟩ | ⟨n1, g1⟩
          · cases o1
          · rcases getElem?_set_cases g2 with ⟨rfl, rfl⟩ | ⟨n2, g2⟩
            · cases o2
            · rw [List.getElem?_set_ne n1] at e7
              rw [List.getElem?_set_ne n2]
              exact st1.dist j l u v r nn g1 g2 o1 o2 e7
      exact ⟨_, _, _, okk, PoS.ext p2 ⟨(x1.trans x2).same, fun p z => by have := x1.bp p z; rw [wb] at this; cases this⟩⟩
end
end Pv
end PvV_

section PvW_
set_option Elab.async false
set_option linter.all false
set_option maxRecDepth 100000
set_option maxHeartbeats 4000000
namespace Pv
open PySem PySem.Spec PyProof.Rows L2
/-! ### the semantics step by step -/
section
variable {s s1 s2 : S} {m m' : M D} {ml : M (List D)} {ds xs : List D} {d x y z : D} {b' : Box} {F : Fn} {a c : MS} {tc : M Bool} {i n : Nat} {e : Exn}
theorem call_at (h : ml s = .ok ds s1) (hF : F ds s1.box = .ok d b') : mCall F ml s = .ok d (withBox s1 b') := by
  unfold mCall
  rw [h]
  show ofRO (F ds s1.box) s1 = _
  rw [hF]
  rfl
/-- a call that leaves the box alone -/
theorem call_same (h : ml s = .ok ds s1) (hF : F ds s1.box = .ok d s1.box) : mCall F ml s = .ok d s1 := call_at h hF
theorem seq_nx (h : a s = .nx s1) : sSeq a c s = c s1 := by unfold sSeq; rw [h]; rfl
theorem seq_rt (h : a s = .rt x s1) : sSeq a c s = .rt x s1 := by unfold sSeq; rw [h]; rfl
theorem set_at (h : m s = .ok x s1) : sSet i m s = .nx (setS i (.d x) s1) := by unfold sSet; rw [h]; rfl
theorem setF_at (h : ml s = .ok xs s1) : sSetF i ml s = .nx (setS i (.o xs) s1) := by unfold sSetF; rw [h]; rfl
theorem if_t (h : tc s = .ok true s1) : sIf tc a c s = a s1 := by unfold sIf; rw [h]; rfl
theorem if_f (h : tc s = .ok false s1) : sIf tc a c s = c s1 := by unfold sIf; rw [h]; rfl
theorem ret_at (h : m s = .ok x s1) : sRet m s = .rt x s1 := by unfold sRet; rw [h]; rfl
theorem drop_at (h : m s = .ok x s1) : sDrop m s = .nx s1 := by unfold sDrop; rw [h]; rfl
theorem asg_at {g : D → S → Option S} (h : m s = .ok x s1) (hg : g x s1 = some s2) : sAsg g m s = .nx s2 := by
  unfold sAsg
  rw [h]
  show (match g x s1 with
    | some s2 => SO.nx s2
    | none => .no) = _
  rw [hg]
theorem while_go {mb : MS} (h1 : tc s = .ok true s1) (h2 : mb s1 = .nx s2) : sWhile tc mb (n + 1) s = sWhile tc mb n s2 := by
  show ((tc s).toS fun k s1 => if k then (match mb s1 with
      | .nx s2 => sWhile tc mb n s2
      | .ct s2 => sWhile tc mb n s2
      | .bk s2 => .nx s2
      | o => o) else .nx s1) = _
  rw [h1]
  show (if true = true then (match mb s1 with
      | .nx s2 => sWhile tc mb n s2
      | .ct s2 => sWhile tc mb n s2
      | .bk s2 => .nx s2
      | o => o) else .nx s1) = _
  rw [if_pos rfl, h2]
theorem while_end {mb : MS} (h1 : tc s = .ok false s1) : sWhile tc mb (n + 1) s = .nx s1 := by
  show ((tc s).toS fun k s1 => if k then (match mb s1 with
      | .nx s2 => sWhile tc mb n s2
      | .ct s2 => sWhile tc mb n s2
      | .bk s2 => .nx s2
      | o => o) else .nx s1) = _
  rw [h1]
  rfl
theorem for_at {mi : M (List D)} {g : D → S → Option S} {mb : MS} (h : mi s = .ok ds s1) : sFor mi g mb s = sForL g mb ds s1 := by unfold sFor; rw [h]; rfl
theorem lnew_at (h : ml s = .ok xs s1) (hl : xs.length ≤ 100000) : lNew ml s = .ok xs s1 := by
  unfold lNew
  rw [h]
  show (if xs.length ≤ sizeLine then _ else _) = _
  rw [if_pos (small_line hl)]
theorem tup_at (h : ml s = .ok xs s1) (hl : xs.length ≤ 100000) : mTup ml s = .ok (.tup xs) s1 := by
  unfold mTup
  rw [h]
  show (if xs.length ≤ sizeLine then _ else _) = _
  rw [if_pos (small_line hl)]
theorem fz_at (h : ml s = .ok xs s1) : fz ml s = .ok (.lst xs) s1 := by unfold fz; rw [h]; rfl
theorem lst_at (h : ml s = .ok xs s1) : mLst ml s = .ok (.lst xs) s1 := by unfold mLst; rw [h]; rfl
theorem cons_at (h1 : m s = .ok x s1) (h2 : ml s1 = .ok xs s2) : aCons m ml s = .ok (x :: xs) s2 := by
  unfold aCons
  rw [h1]
  show (ml s1).bind _ = _
  rw [h2]
  rfl
theorem b1_at {g : D → Option D} (h : m s = .ok x s1) (hg : g x = some y) : mB1 g m s = .ok y s1 := by
  unfold mB1
  rw [h]
  show ofO (g x) s1 = _
  rw [hg]
  rfl
theorem b1F_at {g : D → Option (List D)} (h : m s = .ok x s1) (hg : g x = some xs) : mB1F g m s = .ok xs s1 := by
  unfold mB1F
  rw [h]
  show ofO (g x) s1 = _
  rw [hg]
  rfl
theorem m2_at {g : D → D → Option D} (h1 : m s = .ok x s1) (h2 : m' s1 = .ok y s2) (hg : g x y = some z) : m2 g m m' s = .ok z s2 := by
  unfold m2
  rw [h1]
  show (m' s1).bind _ = _
  rw [h2]
  show ofO (g x y) s2 = _
  rw [hg]
  rfl
theorem m2b_at {g : D → D → Option Bool} {k : Bool} (h1 : m s = .ok x s1) (h2 : m' s1 = .ok y s2) (hg : g x y = some k) : m2b g m m' s = .ok k s2 := by
  unfold m2b
  rw [h1]
  show (m' s1).bind _ = _
  rw [h2]
  show ofO (g x y) s2 = _
  rw [hg]
  rfl
theorem ix_at (h1 : m s = .ok x s1) (h2 : m' s1 = .ok y s2) (hg : dIx x y s2 = some z) : mIx m m' s = .ok z s2 := by
  unfold mIx
  rw [h1]
  show (m' s1).bind _ = _
  rw [h2]
  show ofO (dIx x y s2) s2 = _
  rw [hg]
  rfl
theorem ixN_at {w : D} (h0 : look i s = some w) (h1 : m s = .ok y s1) (h2 : look i s1 = some x) (hg : dIx x y s1 = some z) : mIxN i m s = .ok z s1 := by
  unfold mIxN
  rw [h0]
  show (m s).bind _ = _
  rw [h1]
  show (match look i s1 with
    | none => Out.no
    | some x => ofO (dIx x y s1) s1) = _
  rw [h2]
  show ofO (dIx x y s1) s1 = _
  rw [hg]
  rfl
theorem pop_at (l : List D) (h : getS i s = .o (l ++ [x])) : mPop i s = .ok x (setS i (.o l) s) := by
  unfold mPop
  rw [h]
  show popO i (l ++ [x]) s = _
  unfold popO
  have e : (l ++ [x])[(l ++ [x]).length - 1]? = some x := by simp
  rw [e]
  simp
theorem app_at {l l' : List D} (h0 : getS i s = .o l') (h1 : m s = .ok x s1) (h : getS i s1 = .o l) (hl : l.length < 100000) : mApp i m s = .ok .non (setS i (.o (l ++ [x])) s1) := by
  unfold mApp
  rw [h0]
  show (m s).bind _ = _
  rw [h1]
  show (match getS i s1 with
    | .o xs => if xs.length < sizeLine then Out.ok D.non (setS i (.o (xs ++ [x])) s1) else .no
    | _ => .no) = _
  rw [h]
  show (if l.length < sizeLine then Out.ok D.non (setS i (.o (l ++ [x])) s1) else .no) = _
  rw [if_pos (by have := PySem.sizeLine_eq; omega)]
theorem ext_at {l l' ys : List D} (h0 : getS i s = .o l') (h1 : m s = .ok (.lst ys) s1) (h : getS i s1 = .o l) (hl : l.length + ys.length ≤ 100000) : mExt i m s = .ok .non (setS i (.o (l ++ ys)) s1) := by
  unfold mExt
  rw [h0]
  show (m s).bind _ = _
  rw [h1]
  show (match (D.lst ys), getS i s1 with
    | .lst ys, .o xs => if xs.length + ys.length ≤ sizeLine then Out.ok D.non (setS i (.o (xs ++ ys)) s1) else .no
    | _, _ => .no) = _
  rw [h]
  show (if l.length + ys.length ≤ sizeLine then Out.ok D.non (setS i (.o (l ++ ys)) s1) else .no) = _
  rw [if_pos (small_line hl)]
theorem dEq_nil {l : List D} (h : okDs l = true) (g : depthDs l ≤ 63) : dEq (.lst l) (.lst []) = some l.isEmpty := by
  have c1 : (okD (.lst l) && okD (.lst [])) = true := by
    show (okDs l && true) = true
    rw [h]
    rfl
  have c2 : depthD (.lst l) ≤ 64 := by
    show depthDs l + 1 ≤ 64
    omega
  have c3 : depthD (.lst []) ≤ 64 := by
    show 0 + 1 ≤ 64
    omega
  show (if (okD (.lst l) && okD (.lst [])) = true ∧ depthD (.lst l) ≤ 64 ∧ depthD (.lst []) ≤ 64 then some (eqD (.lst l) (.lst [])) else none) = _
  rw [if_pos ⟨c1, c2, c3⟩]
  cases l <;> rfl
theorem nil_new : fz (lNew aNil) s = .ok (.lst []) s := fz_at (lnew_at rfl (Nat.zero_le _))
theorem ne_nil_at {l : List D} (h0 : look i s = some (.lst l)) (h : okDs l = true) (g : depthDs l ≤ 63) : m2N (fun x y => (dEq x y).map (!·)) i (fz (lNew aNil)) s = .ok (!l.isEmpty) s := by
  unfold m2N
  rw [h0]
  show (fz (lNew aNil) s).bind _ = _
  rw [nil_new]
  show (match look i s with
    | none => Out.no
    | some x => ofO ((dEq x (.lst [])).map (!·)) s) = _
  rw [h0]
  show ofO ((dEq (.lst l) (.lst [])).map (!·)) s = _
  rw [dEq_nil h g]
  rfl
theorem eq_nil_at {l : List D} (h0 : look i s = some (.lst l)) (h : okDs l = true) (g : depthDs l ≤ 63) : m2N dEq i (fz (lNew aNil)) s = .ok l.isEmpty s := by
  unfold m2N
  rw [h0]
  show (fz (lNew aNil) s).bind _ = _
  rw [nil_new]
  show (match look i s with
    | none => Out.no
    | some x => ofO (dEq x (.lst [])) s) = _
  rw [h0]
  show ofO (dEq (.lst l) (.lst [])) s = _
  rw [dEq_nil h g]
  rfl
theorem and_t {tb : M Bool} (h : tc s = .ok true s1) : tAndM tc tb s = tb s1 := by unfold tAndM; rw [h]; rfl
theorem and_f {tb : M Bool} (h : tc s = .ok false s1) : tAndM tc tb s = .ok false s1 := by unfold tAndM; rw [h]; rfl
theorem or_t {tb : M Bool} (h : tc s = .ok true s1) : tOrM tc tb s = .ok true s1 := by unfold tOrM; rw [h]; rfl
theorem or_f {tb : M Bool} (h : tc s = .ok false s1) : tOrM tc tb s = tb s1 := by unfold tOrM; rw [h]; rfl
theorem not_at {k : Bool} (h : tc s = .ok k s1) : tNotM tc s = .ok (!k) s1 := by unfold tNotM; rw [h]; rfl
theorem mT_at {k : Bool} (h : m s = .ok (.bl k) s1) : mT m s = .ok k s1 := by unfold mT; rw [h]; rfl
theorem mB_at {k : Bool} (h : tc s = .ok k s1) : mB tc s = .ok (.bl k) s1 := by unfold mB; rw [h]; rfl
theorem mIf_t (h : tc s = .ok true s1) : mIf tc m m' s = m s1 := by unfold mIf; rw [h]; rfl
theorem mIf_f (h : tc s = .ok false s1) : mIf tc m m' s = m' s1 := by unfold mIf; rw [h]; rfl
theorem mAnd_t (h : m s = .ok (.bl true) s1) : mAnd m m' s = m' s1 := by unfold mAnd; rw [h]; rfl
theorem mAnd_f (h : m s = .ok (.bl false) s1) : mAnd m m' s = .ok (.bl false) s1 := by unfold mAnd; rw [h]; rfl
theorem mOr_t (h : m s = .ok (.bl true) s1) : mOr m m' s = .ok (.bl true) s1 := by unfold mOr; rw [h]; rfl
theorem mOr_f (h : m s = .ok (.bl false) s1) : mOr m m' s = m' s1 := by unfold mOr; rw [h]; rfl
theorem m1_at {g : D → Option D} (h : m s = .ok x s1) (hg : g x = some y) : m1 g m s = .ok y s1 := by
  unfold m1
  rw [h]
  show ofO (g x) s1 = _
  rw [hg]
  rfl
theorem m3b_at {g h : D → D → Option Bool} {mc : M D} {s3 : S} {k : Bool} (h1 : m s = .ok x s1) (h2 : m' s1 = .ok y s2) (hg : g x y = some true) (h3 : mc s2 = .ok z s3) (hh : h y z = some k) : m3b g h m m' mc s = .ok k s3 := by
  unfold m3b
  rw [h1]
  show (m' s1).bind _ = _
  rw [h2]
  show (ofO (g x y) s2).bind _ = _
  rw [hg]
  show (mc s2).bind _ = _
  rw [h3]
  show ofO (h y z) s3 = _
  rw [hh]
  rfl
theorem parV_at {j : Nat} {ma mb : M SV} {u v : SV} (h1 : ma s = .ok u s1) (h2 : mb s1 = .ok v s2) : sParV i j ma mb s = .nx (setS j v (setS i u s2)) := by
  unfold sParV
  rw [h1]
  show (mb s1).toS _ = _
  rw [h2]
  rfl
theorem par3V_at {j l : Nat} {ma mb mc : M SV} {u v w : SV} {s3 : S} (h1 : ma s = .ok u s1) (h2 : mb s1 = .ok v s2) (h3 : mc s2 = .ok w s3) : sPar3V i j l ma mb mc s = .nx (setS l w (setS j v (setS i u s3))) := by
  unfold sPar3V
  rw [h1]
  show (mb s1).toS _ = _
  rw [h2]
  show (mc s2).toS _ = _
  rw [h3]
  rfl
theorem val_at (h : m s = .ok x s1) : mVal m s = .ok (.d x) s1 := by unfold mVal; rw [h]; rfl
theorem new_at (h : ml s = .ok xs s1) : mNew ml s = .ok (.o xs) s1 := by unfold mNew; rw [h]; rfl
theorem seq_it {xs : List D} (h : m s = .ok (.lst xs) s1) : iSeq m s = .ok xs s1 := by unfold iSeq; rw [h]; rfl
theorem seq_it' {xs : List D} (h : m s = .ok (.tup xs) s1) : iSeq m s = .ok xs s1 := by unfold iSeq; rw [h]; rfl
theorem en_it {q : Bool × List D} (h : m s = .ok x s1) (hs : seqD x = some q) : iEnM m s = .ok (enD 0 q.2) s1 := by
  unfold iEnM
  rw [h]
  show (match seqD x with
    | some (_, xs) => Out.ok (enD 0 xs) s1
    | none => .no) = _
  rw [hs]
theorem zp_it {q r : Bool × List D} (h1 : m s = .ok x s1) (h2 : m' s1 = .ok y s2) (hs : seqD x = some q) (hr : seqD y = some r) : iZpM m m' s = .ok (zpD q.2 r.2) s2 := by
  unfold iZpM
  rw [h1]
  show (m' s1).bind _ = _
  rw [h2]
  show (match seqD x, seqD y with
    | some (_, xs), some (_, ys) => Out.ok (zpD xs ys) s2
    | _, _ => .no) = _
  rw [hs, hr]
theorem putIx_at {mi me : M D} {so : SO} {w : D} (h1 : me s = .ok x s1) (h0 : look i s1 = some w) (h2 : mi s1 = .ok y s2) (h3 : putIx i y x s2 = so) : sPutIx i mi me s = so := by
  unfold sPutIx
  rw [h1]
  show (match look i s1 with
    | none => SO.no
    | some _ => (mi s1).toS fun y s2 => putIx i y x s2) = _
  rw [h0]
  show (mi s1).toS _ = _
  rw [h2]
  exact h3
theorem rg1_at {j : Int} (h : m s = .ok (.int j) s1) (h0 : 0 ≤ j) (h1 : j ≤ 16777216) : mRg1 m s = .ok (rgD 0 j.toNat) s1 := by
  unfold mRg1
  rw [h]
  show (if 0 ≤ j ∧ j ≤ 16777216 then _ else _) = _
  rw [if_pos ⟨h0, h1⟩]
end
end Pv
end PvW_

section M76_
set_option Elab.async false
set_option linter.all false
/-! Trees and their rows of reaches: the plain mathematics of k76. -/
namespace K76
inductive Tr where
  | lf (i : Nat) | nd (a b : Tr)
  deriving Inhabited, DecidableEq
theorem least_of {p : Nat → Prop} (h : ∃ s, p s) : ∃ s, p s ∧ ∀ j, j < s → ¬ p j := by
  obtain ⟨s, hs⟩ := h
  induction s using Nat.strongRecOn with
  | ind s ih =>
    by_cases c : ∃ j, j < s ∧ p j
    · obtain ⟨j, a, b⟩ := c
      exact ih j a b
    · exact ⟨s, hs, fun j hj pj => c ⟨j, hj, pj⟩⟩
namespace Tr
def sz : Tr → Nat
  | lf _ => 1
  | nd a b => sz a + sz b
def lv : Tr → List Nat
  | lf i => [i]
  | nd a b => lv a ++ lv b
/-- the last leaf of the greatest part that begins at each leaf, the first being a -/
def row : Tr → Nat → List Nat
  | lf _, a => [a]
  | nd l r, a => (a + (sz l + sz r) - 1) :: (row l a).tail ++ row r (a + sz l)
/-- leaves a, a + 1, .. -/
def at' : Tr → Nat → Prop
  | lf i, a => i = a
  | nd l r, a => at' l a ∧ at' r (a + sz l)
theorem sz_pos : ∀ t : Tr, 0 < sz t
  | lf _ => Nat.one_pos
  | nd a b => Nat.lt_of_lt_of_le (sz_pos a) (Nat.le_add_right _ _)
theorem lv_len : ∀ t : Tr, (lv t).length = sz t
  | lf _ => rfl
  | nd a b => by show (lv a ++ lv b).length = sz a + sz b; rw [List.length_append, lv_len a, lv_len b]
theorem row_len : ∀ (t : Tr) (a : Nat), (row t a).length = sz t
  | lf _, _ => rfl
  | nd l r, a => by
    show ((a + (sz l + sz r) - 1) :: (row l a).tail ++ row r (a + sz l)).length = sz l + sz r
    have := sz_pos l
    rw [List.cons_append, List.length_cons, List.length_append, List.length_tail, row_len l, row_len r]
    omega
theorem row_head : ∀ (t : Tr) (a : Nat), (row t a)[0]? = some (a + sz t - 1)
  | lf _, a => rfl
  | nd l r, a => rfl
theorem lv_at : ∀ {t : Tr} {a : Nat}, at' t a → lv t = List.range' a (sz t)
  | lf i, a, h => by rw [show i = a from h]; rfl
  | nd l r, a, h => by
    show lv l ++ lv r = List.range' a (sz l + sz r)
    rw [lv_at h.1, lv_at h.2, ← List.range'_append_1]
theorem at_lv : ∀ {t : Tr} {a : Nat}, lv t = List.range' a (sz t) → at' t a
  | lf i, a, h => (List.cons.inj h).1
  | nd l r, a, h => by
    have h' : lv l ++ lv r = List.range' a (sz l) ++ List.range' (a + sz l) (sz r) := by
      rw [List.range'_append_1]; exact h
    have := List.append_inj h' (by rw [lv_len, List.length_range'])
    exact ⟨at_lv this.1, at_lv this.2⟩
/-- the row's places beyond the first: in the left part, in the right one -/
theorem row_left {l r : Tr} {a i : Nat} (h0 : 0 < i) (h : i < sz l) : (row (nd l r) a)[i]? = (row l a)[i]? := by
  obtain ⟨j, rfl⟩ : ∃ j, i = j + 1 := ⟨i - 1, by omega⟩
  show ((row l a).tail ++ row r (a + sz l))[j]? = _
  rw [List.getElem?_append_left (by rw [List.length_tail, row_len]; omega), List.getElem?_tail]
theorem row_right {l r : Tr} {a i : Nat} : (row (nd l r) a)[sz l + i]? = (row r (a + sz l))[i]? := by
  have p := sz_pos l
  obtain ⟨j, e⟩ : ∃ j, sz l + i = j + 1 := ⟨sz l + i - 1, by omega⟩
  rw [e]
  show ((row l a).tail ++ row r (a + sz l))[j]? = _
  rw [List.getElem?_append_right (by rw [List.length_tail, row_len]; omega), List.length_tail, row_len]
  congr 1
  omega
theorem row_bound : ∀ {t : Tr} {a i v : Nat}, (row t a)[i]? = some v → a + i ≤ v ∧ v < a + sz t
  | lf _, a, 0, v, h => by cases h; exact ⟨Nat.le_refl _, Nat.lt_succ_self _⟩
  | lf _, a, i + 1, v, h => by simp [row] at h
  | nd l r, a, i, v, h => by
    have p := sz_pos l
    have q := sz_pos r
    have e : sz (nd l r) = sz l + sz r := rfl
    by_cases h0 : i = 0
    · subst h0
      cases h
      omega
    · by_cases hl : i < sz l
      · rw [row_left (by omega) hl] at h
        have := row_bound h
        omega
      · obtain ⟨j, rfl⟩ : ∃ j, i = sz l + j := ⟨i - sz l, by omega⟩
        rw [row_right] at h
        have := row_bound h
        omega
/-- what is nested stays within -/
theorem row_nest : ∀ {t : Tr} {a i j v u : Nat}, (row t a)[i]? = some v → (row t a)[j]? = some u → i ≤ j → a + j ≤ v → u ≤ v
  | lf _, a, i, j, v, u, h, g, _, _ => by
    cases i with
    | zero =>
      cases j with
      | zero => rw [h] at g; cases g; exact Nat.le_refl _
      | succ j => simp [row] at g
    | succ i => simp [row] at h
  | nd l r, a, i, j, v, u, h, g, le, n => by
    have p := sz_pos l
    have q := sz_pos r
    have bu := row_bound g
    have bv := row_bound h
    have e : sz (nd l r) = sz l + sz r := rfl
    by_cases h0 : i = 0
    · subst h0
      cases h
      omega
    · by_cases hl : i < sz l
      · by_cases jl : j < sz l
        · rw [row_left (by omega) hl] at h
          rw [row_left (by omega) jl] at g
          exact row_nest h g le n
        · rw [row_left (by omega) hl] at h
          have := row_bound h
          omega
      · obtain ⟨i', rfl⟩ : ∃ i', i = sz l + i' := ⟨i - sz l, by omega⟩
        obtain ⟨j', rfl⟩ : ∃ j', j = sz l + j' := ⟨j - sz l, by omega⟩
        rw [row_right] at h g
        exact row_nest h g (by omega) (by omega)
/-- a row's rules, from place a on, m places; the first place is free -/
structure Okr (ρ : Nat → Nat) (a m : Nat) : Prop where
  lo : ∀ i, a < i → i < a + m → i ≤ ρ i
  hi : ∀ i, a < i → i < a + m → ρ i < a + m
  ne : ∀ i j, a < i → i ≤ j → j ≤ ρ i → i < a + m → ρ j ≤ ρ i
theorem build : ∀ (m a : Nat) (ρ : Nat → Nat), 0 < m → Okr ρ a m → ∃ t : Tr, at' t a ∧ sz t = m ∧ ∀ i, 0 < i → i < m → (row t a)[i]? = some (ρ (a + i)) := by
  intro m
  induction m using Nat.strongRecOn with
  | ind m ih =>
    intro a ρ hm ok
    by_cases h1 : m = 1
    · subst h1
      exact ⟨lf a, rfl, rfl, fun i h0 h => absurd h (by omega)⟩
    · -- the first place whose reach is the last one
      have ex : ∃ s, a < s ∧ s < a + m ∧ ρ s = a + m - 1 := ⟨a + m - 1, by omega, by omega, by
        have := ok.lo (a + m - 1) (by omega) (by omega)
        have := ok.hi (a + m - 1) (by omega) (by omega)
        omega⟩
      obtain ⟨s, ⟨s1, s2, s3⟩, least⟩ := least_of ex
      have low : ∀ j, a < j → j < s → ρ j < s := fun j h1 h2 => by
        refine Nat.lt_of_not_le fun c => ?_
        have := ok.ne j s h1 (by omega) c (by omega)
        have := ok.hi j h1 (by omega)
        exact least j h2 ⟨h1, by omega, by omega⟩
      obtain ⟨l, l1, l2, l3⟩ := ih (s - a) (by omega) a ρ (by omega) ⟨fun i h1 h2 => ok.lo i h1 (by omega), fun i h1 h2 => by have := low i h1 (by omega); omega, fun i j h1 h2 h3 h4 => ok.ne i j h1 h2 h3 (by omega)⟩
      obtain ⟨r, r1, r2, r3⟩ := ih (a + m - s) (by omega) s ρ (by omega) ⟨fun i h1 h2 => ok.lo i (by omega) (by omega), fun i h1 h2 => by have := ok.hi i (by omega) (by omega); omega, fun i j h1 h2 h3 h4 => ok.ne i j (by omega) h2 h3 (by omega)⟩
      refine ⟨nd l r, ⟨l1, by rw [l2, show a + (s - a) = s by omega]; exact r1⟩, by show sz l + sz r = m; omega, fun i h0 h => ?_⟩
      by_cases hl : i < sz l
      · rw [row_left h0 hl]
        exact l3 i h0 (by omega)
      · obtain ⟨j, rfl⟩ : ∃ j, i = sz l + j := ⟨i - sz l, by omega⟩
        rw [row_right, l2, show a + (s - a) = s by omega]
        by_cases hj : j = 0
        · subst hj
          rw [row_head, r2, show a + (s - a + 0) = s by omega, s3]
          congr 1
          omega
        · rw [r3 j (by omega) (by omega)]
          congr 2
          omega
/-- a row tells its tree -/
theorem row_inj : ∀ {t u : Tr} {a : Nat}, at' t a → at' u a → sz t = sz u → (∀ i, 0 < i → i < sz t → (row t a)[i]? = (row u a)[i]?) → t = u
  | lf i, lf j, a, h, g, _, _ => by rw [show i = a from h, show j = a from g]
  | lf i, nd l r, a, _, _, e, _ => by
    have := sz_pos l
    have := sz_pos r
    have e' : 1 = sz l + sz r := e
    omega
  | nd l r, lf i, a, _, _, e, _ => by
    have := sz_pos l
    have := sz_pos r
    have e' : sz l + sz r = 1 := e
    omega
  | nd l r, nd l' r', a, h, g, e, q => by
    have e' : sz l + sz r = sz l' + sz r' := e
    have p1 := sz_pos l
    have p2 := sz_pos r
    have p3 := sz_pos l'
    have p4 := sz_pos r'
    have el : sz l = sz l' := by
      rcases Nat.lt_trichotomy (sz l) (sz l') with c | c | c
      · exfalso
        have q1 := q (sz l) p1 (show sz l < sz l + sz r by omega)
        have h1 := row_right (l := l) (r := r) (a := a) (i := 0)
        rw [Nat.add_zero, row_head] at h1
        rw [h1, row_left p1 c] at q1
        have := row_bound q1.symm
        omega
      · exact c
      · exfalso
        have q1 := q (sz l') p3 (show sz l' < sz l + sz r by omega)
        have h1 := row_right (l := l') (r := r') (a := a) (i := 0)
        rw [Nat.add_zero, row_head] at h1
        rw [h1, row_left p3 c] at q1
        have := row_bound q1
        omega
    have er : sz r = sz r' := by omega
    have e1 : l = l' := row_inj h.1 g.1 el fun i h0 hi => by
      have := q i h0 (show i < sz l + sz r by omega)
      rw [row_left h0 hi, row_left h0 (by omega)] at this
      exact this
    have g2 := g.2
    rw [← el] at g2
    have e2 : r = r' := row_inj h.2 g2 er fun i h0 hi => by
      have := q (sz l + i) (by omega) (show sz l + i < sz l + sz r by omega)
      have r1 := row_right (l := l) (r := r) (a := a) (i := i)
      have r2 := row_right (l := l') (r := r') (a := a) (i := i)
      rw [← el] at r2
      rw [r1, r2] at this
      exact this
    rw [e1, e2]

/-! ### whole trees: leaves 0 .. n - 1; their order and the nearest below -/
def ok (n : Nat) (t : Tr) : Prop := at' t 0 ∧ sz t = n
def rw0 (t : Tr) (i : Nat) : Nat := ((row t 0)[i]?).getD 0
theorem rw0_get {t : Tr} {i : Nat} (h : i < sz t) : (row t 0)[i]? = some (rw0 t i) := by
  unfold rw0
  rw [List.getElem?_eq_getElem (by rw [row_len]; exact h)]
  rfl
theorem row_map (t : Tr) : row t 0 = (List.range (sz t)).map (rw0 t) := by
  apply List.ext_getElem?
  intro i
  by_cases h : i < sz t
  · rw [rw0_get h, List.getElem?_map, List.getElem?_range h]
    rfl
  · rw [List.getElem?_eq_none (by rw [row_len]; omega), List.getElem?_eq_none (by simp; omega)]
theorem rw0_lo {t : Tr} {i : Nat} (h : i < sz t) : i ≤ rw0 t i := by have := row_bound (rw0_get h); omega
theorem rw0_hi {t : Tr} {i : Nat} (h : i < sz t) : rw0 t i < sz t := by have := row_bound (rw0_get h); omega
theorem rw0_ne {t : Tr} {i j : Nat} (h : i ≤ j) (g : j ≤ rw0 t i) (hi : i < sz t) : rw0 t j ≤ rw0 t i := by
  have := rw0_hi hi
  exact row_nest (rw0_get hi) (rw0_get (by omega)) h (by omega)
theorem rw0_0 (t : Tr) : rw0 t 0 = sz t - 1 := by unfold rw0; rw [row_head]; show 0 + sz t - 1 = _; omega
theorem inj0 {n : Nat} {t u : Tr} (h : ok n t) (g : ok n u) (e : ∀ i, i < n → rw0 t i = rw0 u i) : t = u :=
  row_inj h.1 g.1 (h.2.trans g.2.symm) fun i _ hi => by rw [rw0_get hi, rw0_get (by rw [g.2, ← h.2]; exact hi), e i (by rw [← h.2]; exact hi)]
def le (t u : Tr) : Prop := ∀ i, i < sz t → rw0 t i ≤ rw0 u i
theorem le_refl (t : Tr) : le t t := fun _ _ => Nat.le_refl _
theorem le_trans {n : Nat} {t u v : Tr} (ht : ok n t) (hu : ok n u) (h : le t u) (g : le u v) : le t v := fun i hi => Nat.le_trans (h i hi) (g i (by rw [hu.2, ← ht.2]; exact hi))
theorem le_anti {n : Nat} {t u : Tr} (ht : ok n t) (hu : ok n u) (h : le t u) (g : le u t) : t = u := inj0 ht hu fun i hi => Nat.le_antisymm (h i (by rw [ht.2]; exact hi)) (g i (by rw [hu.2]; exact hi))
theorem meet_ex {n : Nat} {t u : Tr} (ht : ok n t) (hu : ok n u) : ∃ m : Tr, ok n m ∧ ∀ i, i < n → rw0 m i = min (rw0 t i) (rw0 u i) := by
  have pn : 0 < n := by rw [← ht.2]; exact sz_pos t
  obtain ⟨m, h1, h2, h3⟩ := build n 0 (fun i => min (rw0 t i) (rw0 u i)) pn ⟨fun i _ h => by
      have := rw0_lo (t := t) (i := i) (by rw [ht.2]; omega)
      have := rw0_lo (t := u) (i := i) (by rw [hu.2]; omega)
      show i ≤ min _ _
      omega, fun i _ h => by
      have := rw0_hi (t := t) (i := i) (by rw [ht.2]; omega)
      have := ht.2
      show min _ _ < _
      omega, fun i j _ h g hi => by
      have g' : j ≤ min (rw0 t i) (rw0 u i) := g
      have := rw0_ne (t := t) h (by omega) (by rw [ht.2]; omega)
      have := rw0_ne (t := u) h (by omega) (by rw [hu.2]; omega)
      show min _ _ ≤ min _ _
      omega⟩
  refine ⟨m, ⟨h1, h2⟩, fun i hi => ?_⟩
  by_cases h0 : i = 0
  · subst h0
    rw [rw0_0, rw0_0, rw0_0, h2, ht.2, hu.2]
    omega
  · have := h3 i (by omega) hi
    rw [Nat.zero_add, rw0_get (by rw [h2]; exact hi)] at this
    exact Option.some.inj this

/-! ### turned about -/
def flip (n : Nat) : Tr → Tr
  | lf i => lf (n - 1 - i)
  | nd l r => nd (flip n r) (flip n l)
theorem flip_sz (n : Nat) : ∀ t : Tr, sz (flip n t) = sz t
  | lf _ => rfl
  | nd l r => by show sz (flip n r) + sz (flip n l) = sz l + sz r; rw [flip_sz n l, flip_sz n r]; omega
theorem flip_at {n : Nat} : ∀ {t : Tr} {a : Nat}, at' t a → a + sz t ≤ n → at' (flip n t) (n - (a + sz t))
  | lf i, a, h, le => by
    show n - 1 - i = n - (a + 1)
    have e : i = a := h
    omega
  | nd l r, a, h, le => by
    have le' : a + (sz l + sz r) ≤ n := le
    have q := flip_at (n := n) h.2 (by omega)
    have p := flip_at (n := n) h.1 (by omega)
    refine ⟨?_, ?_⟩
    · rw [show n - (a + sz (nd l r)) = n - (a + sz l + sz r) by show n - (a + (sz l + sz r)) = _; omega]
      exact q
    · rw [flip_sz, show n - (a + sz (nd l r)) + sz r = n - (a + sz l) by show n - (a + (sz l + sz r)) + sz r = _; omega]
      exact p
theorem flip_ok {n : Nat} {t : Tr} (h : ok n t) : ok n (flip n t) := by
  have := flip_at (n := n) h.1 (by rw [h.2]; omega)
  rw [h.2, show n - (0 + n) = 0 by omega] at this
  exact ⟨this, (flip_sz n t).trans h.2⟩
theorem flip_flip {n : Nat} : ∀ {t : Tr} {a : Nat}, at' t a → a + sz t ≤ n → flip n (flip n t) = t
  | lf i, a, h, le => by
    have e : i = a := h
    have le' : a + 1 ≤ n := le
    show lf (n - 1 - (n - 1 - i)) = lf i
    congr 1
    omega
  | nd l r, a, h, le => by
    have le' : a + (sz l + sz r) ≤ n := le
    show nd (flip n (flip n l)) (flip n (flip n r)) = nd l r
    rw [flip_flip h.1 (by omega), flip_flip h.2 (by omega)]
theorem flip2 {n : Nat} {t : Tr} (h : ok n t) : flip n (flip n t) = t := flip_flip h.1 (by rw [h.2]; omega)
/-- how far to the left a part goes that ends at j -/
theorem flip_row {n : Nat} : ∀ {t : Tr} {a j v : Nat}, a + sz t ≤ n → a ≤ j → j + 1 < a + sz t → (row (flip n t) (n - (a + sz t)))[a + sz t - 1 - j]? = some v →
    v < n ∧ a ≤ n - 1 - v ∧ n - 1 - v ≤ j ∧ (∃ x, (row t a)[n - 1 - v - a]? = some x ∧ j < x) ∧ ∀ k x, n - 1 - v < k → k ≤ j → (row t a)[k - a]? = some x → x ≤ j
  | lf i, a, j, v, le, h1, h2, h => by
    have : j + 1 < a + 1 := h2
    omega
  | nd l r, a, j, v, le, h1, h2, h => by
    have pl := sz_pos l
    have pr := sz_pos r
    have es : sz (nd l r) = sz l + sz r := rfl
    have ef : flip n (nd l r) = nd (flip n r) (flip n l) := rfl
    rw [es] at le h2 h
    rw [ef] at h
    by_cases jl : j < a + sz l
    · rw [show a + (sz l + sz r) - 1 - j = sz (flip n r) + (a + sz l - 1 - j) by rw [flip_sz]; omega, row_right, flip_sz, show n - (a + (sz l + sz r)) + sz r = n - (a + sz l) by omega] at h
      by_cases last : j + 1 = a + sz l
      · rw [show a + sz l - 1 - j = 0 by omega, row_head, flip_sz] at h
        have hv : n - (a + sz l) + sz l - 1 = v := Option.some.inj h
        have vi : n - 1 - v = a := by omega
        refine ⟨by omega, by omega, by omega, ⟨a + sz (nd l r) - 1, by rw [vi, Nat.sub_self, row_head], by omega⟩, fun k x k1 k2 kx => ?_⟩
        rw [row_left (by omega) (by omega)] at kx
        have := row_bound kx
        omega
      · obtain ⟨q1, q2, q3, ⟨x, q4, q5⟩, q6⟩ := flip_row (t := l) (by omega) h1 (by omega) h
        refine ⟨q1, q2, q3, ?_, fun k x k1 k2 kx => ?_⟩
        · by_cases e : n - 1 - v = a
          · exact ⟨a + sz (nd l r) - 1, by rw [e, Nat.sub_self, row_head], by omega⟩
          · exact ⟨x, by rw [row_left (by omega) (by omega)]; exact q4, q5⟩
        · rw [row_left (by omega) (by omega)] at kx
          exact q6 k x k1 k2 kx
    · rw [row_left (by omega) (by rw [flip_sz]; omega), show n - (a + (sz l + sz r)) = n - (a + sz l + sz r) by omega, show a + (sz l + sz r) - 1 - j = a + sz l + sz r - 1 - j by omega] at h
      obtain ⟨q1, q2, q3, ⟨x, q4, q5⟩, q6⟩ := flip_row (t := r) (a := a + sz l) (by omega) (by omega) (by omega) h
      refine ⟨q1, by omega, q3, ⟨x, ?_, q5⟩, fun k x k1 k2 kx => q6 k x k1 k2 ?_⟩
      · rw [show n - 1 - v - a = sz l + (n - 1 - v - (a + sz l)) by omega, row_right]
        exact q4
      · rw [show k - a = sz l + (k - (a + sz l)) by omega, row_right] at kx
        exact kx
theorem flip_le {n : Nat} {t u : Tr} (ht : ok n t) (hu : ok n u) (h : le t u) : le (flip n u) (flip n t) := by
  intro p hp
  rw [flip_sz, hu.2] at hp
  have ft := flip_ok ht
  have fu := flip_ok hu
  by_cases h0 : p = 0
  · subst h0
    rw [rw0_0, rw0_0, ft.2, fu.2]
    exact Nat.le_refl _
  · have at_ : ∀ {t : Tr}, ok n t → rw0 (flip n t) p < n ∧ n - 1 - rw0 (flip n t) p ≤ n - 1 - p ∧ n - 1 - p < rw0 t (n - 1 - rw0 (flip n t) p) ∧ ∀ k, n - 1 - rw0 (flip n t) p < k → k ≤ n - 1 - p → rw0 t k ≤ n - 1 - p := fun {t} ok1 => by
      have f1 := flip_ok ok1
      have g := rw0_get (t := flip n t) (i := p) (by rw [f1.2]; exact hp)
      have e0 : n - (0 + sz t) = 0 := by rw [ok1.2]; omega
      have e1 : 0 + sz t - 1 - (n - 1 - p) = p := by rw [ok1.2]; omega
      have fr := flip_row (n := n) (t := t) (a := 0) (j := n - 1 - p) (v := rw0 (flip n t) p) (by rw [ok1.2]; omega) (Nat.zero_le _) (by rw [ok1.2]; omega) (by rw [e0, e1]; exact g)
      obtain ⟨q1, _, q3, ⟨x, q4, q5⟩, q6⟩ := fr
      refine ⟨q1, q3, ?_, fun k k1 k2 => q6 k _ k1 k2 ?_⟩
      · rw [Nat.sub_zero] at q4
        have lt : n - 1 - rw0 (flip n t) p < sz t := by rw [ok1.2]; omega
        rw [rw0_get lt] at q4
        rw [Option.some.inj q4]
        exact q5
      · rw [Nat.sub_zero]
        exact rw0_get (by rw [ok1.2]; omega)
    obtain ⟨a1, a2, a3, a4⟩ := at_ ht
    obtain ⟨b1, b2, b3, b4⟩ := at_ hu
    refine Nat.le_of_not_lt fun c => ?_
    have x1 := b4 (n - 1 - rw0 (flip n t) p) (by omega) a2
    have x2 := h (n - 1 - rw0 (flip n t) p) (by rw [ht.2]; omega)
    omega

/-! ### the nearest below, the nearest above -/
open Classical in
noncomputable def meet (n : Nat) (t u : Tr) : Tr := if h : ok n t ∧ ok n u then (meet_ex h.1 h.2).choose else t
theorem meet_spec {n : Nat} {t u : Tr} (ht : ok n t) (hu : ok n u) : ok n (meet n t u) ∧ ∀ i, i < n → rw0 (meet n t u) i = min (rw0 t i) (rw0 u i) := by
  unfold meet
  rw [dif_pos ⟨ht, hu⟩]
  exact (meet_ex ht hu).choose_spec
noncomputable def join (n : Nat) (t u : Tr) : Tr := flip n (meet n (flip n t) (flip n u))
section
variable {n : Nat} {t u v : Tr}
theorem meet_ok (ht : ok n t) (hu : ok n u) : ok n (meet n t u) := (meet_spec ht hu).1
theorem meet_l (ht : ok n t) (hu : ok n u) : le (meet n t u) t := fun i hi => by
  rw [(meet_spec ht hu).1.2] at hi
  rw [(meet_spec ht hu).2 i hi]
  omega
theorem meet_r (ht : ok n t) (hu : ok n u) : le (meet n t u) u := fun i hi => by
  rw [(meet_spec ht hu).1.2] at hi
  rw [(meet_spec ht hu).2 i hi]
  omega
theorem meet_g (ht : ok n t) (hu : ok n u) (hv : ok n v) (h : le v t) (g : le v u) : le v (meet n t u) := fun i hi => by
  have a := h i hi
  have b := g i hi
  rw [hv.2] at hi
  rw [(meet_spec ht hu).2 i hi]
  omega
theorem meet_comm (ht : ok n t) (hu : ok n u) : meet n u t = meet n t u :=
  le_anti (meet_ok hu ht) (meet_ok ht hu) (meet_g ht hu (meet_ok hu ht) (meet_r hu ht) (meet_l hu ht)) (meet_g hu ht (meet_ok ht hu) (meet_r ht hu) (meet_l ht hu))
theorem meet_le (ht : ok n t) (hu : ok n u) (h : le t u) : meet n t u = t := le_anti (meet_ok ht hu) ht (meet_l ht hu) (meet_g ht hu ht (le_refl t) h)
theorem meet_assoc (ht : ok n t) (hu : ok n u) (hv : ok n v) : meet n (meet n t u) v = meet n t (meet n u v) := by
  have a := meet_ok ht hu
  have b := meet_ok hu hv
  have c := meet_ok a hv
  have d := meet_ok ht b
  exact le_anti c d (meet_g ht b c (le_trans c a (meet_l a hv) (meet_l ht hu)) (meet_g hu hv c (le_trans c a (meet_l a hv) (meet_r ht hu)) (meet_r a hv)))
    (meet_g a hv d (meet_g ht hu d (meet_l ht b) (le_trans d b (meet_r ht b) (meet_l hu hv))) (le_trans d b (meet_r ht b) (meet_r hu hv)))
theorem join_ok (ht : ok n t) (hu : ok n u) : ok n (join n t u) := flip_ok (meet_ok (flip_ok ht) (flip_ok hu))
theorem flip_le' (ht : ok n t) (hu : ok n u) (h : le (flip n t) u) : le (flip n u) t := by
  have := flip_le (flip_ok ht) hu h
  rw [flip2 ht] at this
  exact this
theorem join_l (ht : ok n t) (hu : ok n u) : le t (join n t u) := by
  have := flip_le (meet_ok (flip_ok ht) (flip_ok hu)) (flip_ok ht) (meet_l (flip_ok ht) (flip_ok hu))
  rw [flip2 ht] at this
  exact this
theorem join_r (ht : ok n t) (hu : ok n u) : le u (join n t u) := by
  have := flip_le (meet_ok (flip_ok ht) (flip_ok hu)) (flip_ok hu) (meet_r (flip_ok ht) (flip_ok hu))
  rw [flip2 hu] at this
  exact this
theorem join_g (ht : ok n t) (hu : ok n u) (hv : ok n v) (h : le t v) (g : le u v) : le (join n t u) v :=
  flip_le' hv (meet_ok (flip_ok ht) (flip_ok hu)) (meet_g (flip_ok ht) (flip_ok hu) (flip_ok hv) (flip_le ht hv h) (flip_le hu hv g))
theorem join_comm (ht : ok n t) (hu : ok n u) : join n u t = join n t u := by unfold join; rw [meet_comm (flip_ok ht) (flip_ok hu)]
theorem join_le (ht : ok n t) (hu : ok n u) (h : le u t) : join n t u = t := by
  unfold join
  rw [meet_le (flip_ok ht) (flip_ok hu) (flip_le hu ht h), flip2 ht]
theorem join_assoc (ht : ok n t) (hu : ok n u) (hv : ok n v) : join n (join n t u) v = join n t (join n u v) := by
  unfold join
  rw [flip2 (meet_ok (flip_ok ht) (flip_ok hu)), flip2 (meet_ok (flip_ok hu) (flip_ok hv)), meet_assoc (flip_ok ht) (flip_ok hu) (flip_ok hv)]
theorem meet_eq_iff (ht : ok n t) (hu : ok n u) : meet n t u = t ↔ le t u := ⟨fun e => by
  have := meet_r ht hu
  rw [e] at this
  exact this, meet_le ht hu⟩
theorem join_eq_iff (ht : ok n t) (hu : ok n u) : join n t u = u ↔ le t u := ⟨fun e => by
  have := join_l ht hu
  rw [e] at this
  exact this, fun h => by rw [← join_comm ht hu]; exact join_le hu ht h⟩
end
end Tr
end K76
end M76_

section F76_
set_option Elab.async false
set_option linter.all false
set_option maxRecDepth 100000
set_option maxHeartbeats 4000000
/-! k76: what each def is worth. -/
namespace K76
open PySem PySem.Spec PyProof.Rows L2 Pv
def natD (n : Nat) : D := .int (n : Int)
def rowD (ns : List Nat) : D := .tup (ns.map natD)
def lsD (ns : List Nat) : D := .lst (ns.map natD)
theorem natD_inj {a b : Nat} (h : natD a = natD b) : a = b := by
  unfold natD at h
  injection h with h
  omega
theorem nats_inj : ∀ {a b : List Nat}, a.map natD = b.map natD → a = b
  | [], [], _ => rfl
  | [], _ :: _, h => by cases h
  | _ :: _, [], h => by cases h
  | x :: a, y :: b, h => by
    rw [List.map_cons, List.map_cons] at h
    injection h with h1 h2
    rw [natD_inj h1, nats_inj h2]
def Tr.d : Tr → D
  | .lf i => natD i
  | .nd a b => .tup [a.d, b.d]
theorem Tr.d_inj : ∀ {t u : Tr}, t.d = u.d → t = u
  | .lf i, .lf j, h => by rw [natD_inj h]
  | .lf i, .nd _ _, h => by cases h
  | .nd _ _, .lf j, h => by cases h
  | .nd a b, .nd c e, h => by
    have h' : D.tup [a.d, b.d] = D.tup [c.d, e.d] := h
    injection h' with h1
    injection h1 with h2 h3
    injection h3 with h4 _
    rw [Tr.d_inj h2, Tr.d_inj h4]
inductive Mx where
  | lf (i : Nat) | nd (l : Bool) (a b : Mx)
def Mx.d : Mx → D
  | .lf i => natD i
  | .nd true a b => .lst [a.d, b.d]
  | .nd false a b => .tup [a.d, b.d]
def Mx.tr : Mx → Tr
  | .lf i => .lf i
  | .nd _ a b => .nd a.tr b.tr
def Tr.mx : Tr → Mx
  | .lf i => .lf i
  | .nd a b => .nd false a.mx b.mx
theorem Tr.mx_d : ∀ t : Tr, t.mx.d = t.d
  | .lf i => rfl
  | .nd a b => by show D.tup [a.mx.d, b.mx.d] = _; rw [Tr.mx_d a, Tr.mx_d b]; rfl
theorem Tr.mx_tr : ∀ t : Tr, t.mx.tr = t
  | .lf i => rfl
  | .nd a b => by show Tr.nd a.mx.tr b.mx.tr = _; rw [Tr.mx_tr a, Tr.mx_tr b]
theorem Mx.d_inj : ∀ {t u : Mx}, t.d = u.d → t = u
  | .lf i, .lf j, h => by rw [natD_inj h]
  | .lf i, .nd true _ _, h => by cases h
  | .lf i, .nd false _ _, h => by cases h
  | .nd true _ _, .lf j, h => by cases h
  | .nd false _ _, .lf j, h => by cases h
  | .nd true _ _, .nd false _ _, h => by cases h
  | .nd false _ _, .nd true _ _, h => by cases h
  | .nd true a b, .nd true c e, h => by
    have h' : D.lst [a.d, b.d] = D.lst [c.d, e.d] := h
    injection h' with h1
    injection h1 with h2 h3
    injection h3 with h4 _
    rw [Mx.d_inj h2, Mx.d_inj h4]
  | .nd false a b, .nd false c e, h => by
    have h' : D.tup [a.d, b.d] = D.tup [c.d, e.d] := h
    injection h' with h1
    injection h1 with h2 h3
    injection h3 with h4 _
    rw [Mx.d_inj h2, Mx.d_inj h4]
/-- whole and not too great -/
def Tr.good (t : Tr) : Prop := t.sz ≤ 60 ∧ Tr.at' t 0
theorem Tr.good.ok {t : Tr} (h : t.good) : Tr.ok t.sz t := ⟨h.2, rfl⟩
/-- a way down, as a text -/
def wd (p : List Bool) : Str := ⟨(p.map fun b => if b then 49 else 48).toArray⟩
def Tr.paths : Tr → List Bool → List (List Bool)
  | .lf _, p => [p]
  | .nd a b, p => a.paths (p ++ [false]) ++ b.paths (p ++ [true])
def Tr.ipaths : Tr → List Bool → List (List Bool)
  | .lf _, _ => []
  | .nd a b, p => p :: (a.ipaths (p ++ [false]) ++ b.ipaths (p ++ [true]))
def Tr.sub : Tr → List Bool → Option Tr
  | t, [] => some t
  | .lf _, _ :: _ => none
  | .nd a b, x :: p => if x then b.sub p else a.sub p
def push : List (Nat × Tr) → Nat → Tr → List (Nat × Tr)
  | [], d, t => [(d, t)]
  | (e, u) :: r, d, t => if e = d ∧ 0 < d then push r (d - 1) (.nd u t) else (d, t) :: (e, u) :: r
def stk : List Nat → Nat → List (Nat × Tr) → List (Nat × Tr)
  | [], _, st => st
  | n :: ns, p, st => stk ns (p + 1) (push st n (.lf p))
def pairD (x : Nat × Tr) : D := .tup [natD x.1, x.2.d]
mutual
def tupD : D → D
  | .lst xs => .tup (tupDs xs)
  | .tup xs => .tup (tupDs xs)
  | d => d
def tupDs : List D → List D
  | [] => []
  | x :: xs => tupD x :: tupDs xs
end
mutual
def tupOk : D → Bool
  | .lst xs => decide (xs.length ≤ 100) && tupOks xs
  | .tup xs => decide (xs.length ≤ 100) && tupOks xs
  | .int _ => true
  | _ => false
def tupOks : List D → Bool
  | [] => true
  | x :: xs => tupOk x && tupOks xs
end
mutual
def smOk : D → Bool
  | .lst xs => decide (xs.length ≤ 100) && smOks xs
  | .tup xs => decide (xs.length ≤ 100) && smOks xs
  | .int _ => true
  | .bl _ => true
  | _ => false
def smOks : List D → Bool
  | [] => true
  | x :: xs => smOk x && smOks xs
end
open Classical
noncomputable section
def F_is_number : Fn := fnOf (fun i : Nat => [natD i]) fun _ b => .ok (.bl true) b
def F_are_numbers : Fn := fnOf (fun ns : List Nat => [rowD ns]) fun ns b => if ns.length ≤ 60 then .ok (.bl true) b else .no
def tupF (n : Nat) : Fn := fnOf (fun d : D => [d]) fun d b => if tupOk d = true ∧ depthD d < n then .ok (tupD d) b else .no
def F_tupled : Fn := tupF 61
def F_leaves_in : Fn := fnOf (fun t : Tr => [t.d]) fun t b => if t.sz ≤ 60 then .ok (lsD t.lv) b else .no
def F_sure_tree : Fn := fnOf (fun m : Mx => [m.d]) fun m b => if m.tr.good then .ok m.tr.d b else .no
def F_words_in : Fn := fnOf (fun t : Tr => [t.d]) fun t b => if t.sz ≤ 60 then .ok (.tup ((t.paths []).map fun p => .str (wd p))) b else .no
def F_stacked : Fn := fnOf (fun ns : List Nat => [lsD ns]) fun ns b => if ns.length ≤ 60 then .ok (.lst ((stk ns 0 []).reverse.map pairD)) b else .no
def F_tree_in : Fn := fnOf (fun ns : List Nat => [lsD ns]) fun ns b => if ns.length ≤ 60 then (match stk ns 0 [] with
  | [(0, t)] => .ok t.d b
  | _ => .no) else .no
def F_turned_tree : Fn := fnOf (fun t : Tr => [t.d]) fun t b => if t.good then .ok (t.flip t.sz).d b else .no
def F_piece_at : Fn := fnOf (fun p : Tr × List Bool => [p.1.d, .str (wd p.2)]) fun p b => match p.1.sub p.2 with
  | some u => .ok u.d b
  | none => .no
def F_pair_words : Fn := fnOf (fun t : Tr => [t.d]) fun t b => if t.sz ≤ 60 then .ok (.lst ((sortS ((t.ipaths []).map wd)).map .str)) b else .no
def F_reach_in : Fn := fnOf (fun t : Tr => [t.d]) fun t b => if t.good then .ok (rowD (t.row 0)) b else .no
/-- a row that is a tree's -/
def isRow (ns : List Nat) : Prop := ∃ t : Tr, t.good ∧ t.row 0 = ns
def F_is_reach_in : Fn := fnOf (fun ns : List Nat => [rowD ns]) fun ns b => if isRow ns then .ok (.bl true) b else .no
structure Fits (ns : List Nat) (f e : Nat) (t : Tr) : Prop where
  at_ : Tr.at' t f
  sz : f + t.sz = e + 1
  lt : e < ns.length
  small : ns.length ≤ 60
  row : ∀ i, 0 < i → i < t.sz → ns[f + i]? = (t.row f)[i]?
def rowL (l : Bool) (ns : List Nat) : D := if l then lsD ns else rowD ns
def torF (n : Nat) : Fn := fnOf (fun p : Bool × List Nat × Nat × Nat => [rowL p.1 p.2.1, natD p.2.2.1, natD p.2.2.2]) fun p b => if h : (∃ t, Fits p.2.1 p.2.2.1 p.2.2.2 t) ∧ p.2.2.2 + 1 - p.2.2.1 ≤ n then .ok (h.1.choose).d b else .no
def F_tree_of_row : Fn := torF 60
def allLe : List Nat → List Nat → Bool
  | a :: r, b :: s => decide (a ≤ b) && allLe r s
  | _, _ => true
def F_is_below : Fn := fnOf (fun p : List Nat × List Nat => [rowD p.1, rowD p.2]) fun p b => if p.1.length ≤ 60 ∧ p.2.length = p.1.length then .ok (.bl (allLe p.1 p.2)) b else .no
def F_lower_in : Fn := fnOf (fun p : Tr × Tr => [p.1.d, p.2.d]) fun p b => if p.1.good ∧ p.2.good ∧ p.2.sz = p.1.sz then .ok (Tr.meet p.1.sz p.1 p.2).d b else .no
def flipF (k : Nat) : Fn := fnOf (fun p : Tr × Nat => [p.1.d, natD p.2]) fun p b => if (∀ i ∈ p.1.lv, i < p.2) ∧ p.1.sz ≤ k then .ok (p.1.flip p.2).d b else .no
def F_flipped : Fn := flipF 60
def encMM (p : Mx × Mx) : List D := [p.1.d, p.2.d]
def goodMM (p : Mx × Mx) : Prop := p.1.tr.good ∧ p.2.tr.good ∧ p.2.tr.sz = p.1.tr.sz
def F_sure_pair : Fn := fnOf encMM fun p b => if goodMM p then .ok (.tup [p.1.tr.d, p.2.tr.d]) b else .no
def F_reaches : Fn := fnOf (fun m : Mx => [m.d]) fun m b => if m.tr.good then .ok (rowD (m.tr.row 0)) b else .no
def F_tree_of_reaches : Fn := fnOf (fun ns : List Nat => [rowD ns]) fun ns b => if h : isRow ns then .ok (h.choose).d b else .no
def F_goes_right : Fn := fnOf encMM fun p b => if goodMM p then .ok (.bl (decide (Tr.le p.1.tr p.2.tr))) b else .no
def F_right_below : Fn := fnOf encMM fun p b => if goodMM p then .ok (Tr.meet p.1.tr.sz p.1.tr p.2.tr).d b else .no
def F_right_above : Fn := fnOf encMM fun p b => if goodMM p then .ok (Tr.join p.1.tr.sz p.1.tr p.2.tr).d b else .no
/-! the law's own -/
def takeV (b : Box) (n : Int) : Int := if 0 < b.1 then b.1 % n else
  ((((((((b.2.1 + 48271 * (b.2.2 + 1)) * (39373 + (b.2.2 + 1))) % 2147483647) + (b.2.2 + 1) + b.2.1 / 1000003) * (((b.2.1 + 48271 * (b.2.2 + 1)) * (39373 + (b.2.2 + 1))) % 2147483647 % 40009 + 7)) % 2147483629) * 48271 + ((b.2.1 + 48271 * (b.2.2 + 1)) * (39373 + (b.2.2 + 1))) % 2147483647) % 2147483587 / 64) % n
def takeB (b : Box) (n : Int) : Box := if 0 < b.1 then (b.1 / n, b.2.1, b.2.2) else (b.1, b.2.1, b.2.2 + 1)
theorem take_lo {b : Box} {n : Int} (h : 0 < n) : 0 ≤ takeV b n ∧ takeV b n < n := by
  unfold takeV
  split
  · exact ⟨Int.emod_nonneg _ (by omega), Int.emod_lt_of_pos _ h⟩
  · exact ⟨Int.emod_nonneg _ (by omega), Int.emod_lt_of_pos _ h⟩
/-- room for m more draws -/
def okB (b : Box) (m : Nat) : Prop := 0 ≤ b.2.2 ∧ b.2.2 + m ≤ 100000
theorem okB.take {b : Box} {m : Nat} {n : Int} (h : okB b (m + 1)) : okB (takeB b n) m := by
  unfold takeB okB at *
  split
  · exact ⟨h.1, by show b.2.2 + _ ≤ _; omega⟩
  · exact ⟨by show 0 ≤ b.2.2 + 1; omega, by show b.2.2 + 1 + _ ≤ _; omega⟩
theorem okB.less {b : Box} {m k : Nat} (h : okB b m) (le : k ≤ m) : okB b k := ⟨h.1, by have := h.2; omega⟩
def F__law_take : Fn := fnOf (fun n : Int => [.box, .int n]) fun n b => if 0 < n ∧ n.natAbs.log2 < 9000 ∧ okB b 1 then .ok (.int (takeV b n)) (takeB b n) else .no
def cellV (c : Int) : List Int → Int → Int
  | [], _ => c
  | n :: r, k => cellV (c + n * (k + 2)) r (k + 1)
def cells (ns : List Int) : Int := cellV (ns.headD 0) (ns.drop 1) 0
def F__law_cells : Fn := fnOf (fun ns : List Int => [.scr ns, .int 1]) fun ns b => if ns.length ≤ 63 then .ok (.lst [.int (cells ns)]) b else .no
def absI (i : Int) : Int := if i < 0 then -i else i
def boxOf (i : Int) : Box := (absI i * (if 10 ^ 18 ≤ absI i then 1 else 0), i % 2305843009213693951 + 39373 * 0 + 26309, 0)
def B__law_box : List D → Option Box
  | [.lst [.int i], .int 0] => some (boxOf i)
  | _ => none
def F__law_of : Fn := fnOf (fun ns : List Int => [.box, .lst (ns.map .int)]) fun ns b => if 0 < ns.length ∧ ns.length ≤ 60 ∧ okB b 1 then .ok (.int (ns.getD (takeV b ns.length).toNat 0)) (takeB b ns.length) else .no
def mixV : Tr → Box → Mx × Box
  | .lf i, b => (.lf i, b)
  | .nd l r, b =>
    let x := mixV l b
    let y := mixV r x.2
    (.nd (decide (takeV y.2 2 = 0)) x.1 y.1, takeB y.2 2)
def mixF (n : Nat) : Fn := fnOf (fun t : Tr => [.box, t.d]) fun t b => if t.sz ≤ n ∧ n ≤ 60 ∧ okB b t.sz then .ok (mixV t b).1.d (mixV t b).2 else .no
def F__law_mixed : Fn := mixF 60
def sameF (n : Nat) : Fn := fnOf (fun d : D => [d, d]) fun d b => if smOk d = true ∧ depthD d < n then .ok (.bl true) b else .no
def F__law_same : Fn := sameF 65
def drawT : Nat → Nat → Nat → Box → Tr × Box
  | 0, f, _, b => (.lf f, b)
  | n + 1, f, m, b => if m = 1 then (.lf f, b) else
    let k := 1 + (takeV b ((m : Int) - 1)).toNat
    let x := drawT n f k (takeB b ((m : Int) - 1))
    let y := drawT n (f + k) (m - k) x.2
    (.nd x.1 y.1, y.2)
def treeF (n : Nat) : Fn := fnOf (fun p : Nat × Nat => [.box, natD p.1, natD p.2]) fun p b => if 0 < p.2 ∧ p.2 ≤ n ∧ n ≤ 60 ∧ okB b p.2 then .ok (drawT n p.1 p.2 b).1.d (drawT n p.1 p.2 b).2 else .no
def F__law_tree : Fn := treeF 60
def allT : Nat → Nat → Nat → List Tr
  | 0, _, _ => []
  | n + 1, f, m => if m = 1 then [.lf f] else ((List.range (m - 1)).map fun i => (allT n f (i + 1)).flatMap fun l => (allT n (f + (i + 1)) (m - (i + 1))).map fun r => Tr.nd l r).flatten
def allF (n : Nat) : Fn := fnOf (fun p : Nat × Nat => [natD p.1, natD p.2]) fun p b => if 0 < p.2 ∧ p.2 ≤ n ∧ n ≤ 6 then .ok (.lst ((allT n p.1 p.2).map Tr.d)) b else .no
def F__law_all_trees : Fn := allF 6
def lvF (n : Nat) : Fn := fnOf (fun t : Tr => [t.d]) fun t b => if t.sz ≤ n ∧ n ≤ 60 then .ok (lsD t.lv) b else .no
def F__law_leaves : Fn := lvF 60
def F__law_reach : Fn := fnOf (fun t : Tr => [t.d]) fun t b => if t.good then .ok (rowD (t.row 0)) b else .no
def rightK (b : Box) : Int := [6, 6, 30].getD (takeV b 3).toNat 0
def rightN (b : Box) : Nat := 1 + (takeV (takeB b 3) (rightK b)).toNat
def right1 (b : Box) : Tr × Box := drawT 60 0 (rightN b) (takeB (takeB b 3) (rightK b))
def right2 (b : Box) : Tr × Box := drawT 60 0 (rightN b) (right1 b).2
def right3 (b : Box) : Tr × Box := drawT 60 0 (rightN b) (right2 b).2
def right4 (b : Box) : Mx × Box := mixV (right1 b).1 (right3 b).2
def right5 (b : Box) : Mx × Box := mixV (right2 b).1 (right4 b).2
def F__law_right : Fn := fnOf (fun _ : Unit => [.box]) fun _ b => if okB b 200 then .ok (.bl true) (right5 b).2 else .no
end
end K76
end F76_

section T76_
set_option Elab.async false
set_option linter.all false
set_option maxRecDepth 100000
set_option maxHeartbeats 4000000
namespace K76
open PySem PySem.Spec PyProof.Rows L2 Pv
def topS (i : Nat) : Stmt := PySem.Challenge.pw_orderedcodes_k76_main_nearest_trees_belo.main.body.getD i (.Pass ⟨0, 0, 0, 0⟩)
theorem room65 {k : Nat} {A : Around} (r : Room k A) : A.units + 65 < cLine := by have := r.un; omega
noncomputable section
structure Blt (mg : Str → Option Value) : Prop where
  b_abs : mg "abs" = none
  b_all : mg "all" = none
  b_any : mg "any" = none
  b_bool : mg "bool" = none
  b_enumerate : mg "enumerate" = none
  b_int : mg "int" = none
  b_isinstance : mg "isinstance" = none
  b_len : mg "len" = none
  b_list : mg "list" = none
  b_max : mg "max" = none
  b_min : mg "min" = none
  b_range : mg "range" = none
  b_sorted : mg "sorted" = none
  b_str : mg "str" = none
  b_sum : mg "sum" = none
  b_tuple : mg "tuple" = none
  b_zip : mg "zip" = none
  g_MOST_LETTERS : ∃ t, mg "MOST_LETTERS" = some (.int 60 t)
  g_MOST_LEAVES : ∃ t, mg "MOST_LEAVES" = some (.int 60 t)
abbrev st_is_number : Stmt := topS 4
theorem sc_is_number : FnScope ["thing"] ["thing"] (defScope st_is_number) := ⟨rfl, rfl, rfl, by decide +kernel, rfl, by decide +kernel, by decide +kernel⟩
def m_is_number : MS := sRet (mAnd (mB1 (dIsi ["int"]) (lend 0)) (mNot (mB1 (dIsi ["bool"]) (lend 0))))
theorem d_is_number {P : Program} {w : World} {K : PySem.W.Frag} {mg : Str → Option Value} {base : Heap} {k : Nat} (bl : Blt mg)  (cdv : Value) (A : Around) (outer : List Env) (s : Shared) (H : Hp) (E : XK) (f : Addr) (B : Bd (cxOf (L2.CX P w) P w K mg base ["thing"] "is_number" (defScope st_is_number) f cdv A outer s H E) (fun c d _ H => E c d H) k) :
    PSs (cxOf (L2.CX P w) P w K mg base ["thing"] "is_number" (defScope st_is_number) f cdv A outer s H E) (defBody st_is_number) (tS K (fun c d _ H => E c d H) (m_is_number )) :=
  have hr := B.hr
  have hu := Room.units B.hr
  have hu5 := room65 B.hr
  have nd := sc_is_number.nd
  s_one (s_ret (q_and (q_isi rfl bl.b_isinstance (q_lendN 0) rfl bl.b_int (by decide +kernel) (by decide)) (q_one (q_not (q_isi rfl bl.b_isinstance (q_lendN 0) rfl bl.b_bool (by decide +kernel) (by decide))))))

abbrev st_are_numbers : Stmt := topS 5
theorem sc_are_numbers : FnScope ["thing", "own"] ["thing"] (defScope st_are_numbers) := ⟨rfl, rfl, rfl, by decide +kernel, rfl, by decide +kernel, by decide +kernel⟩
def cm_are_numbers_0 : M (List D) := mComp (iSeq (rd 0)) (gN 1) (mYes) (mCall (F_is_number) (aCons (rd 1) (aNil))) [1]
def m_are_numbers : MS := sRet (mAnd (mB1 (dIsi ["tuple"]) (lend 0)) (mB1 dAll (mLst (cm_are_numbers_0 ))))
theorem d_are_numbers {P : Program} {w : World} {K : PySem.W.Frag} {mg : Str → Option Value} {base : Heap} {k : Nat} (bl : Blt mg) (h_is_number : Has P w K mg base "is_number" 1 k (F_is_number)) (cdv : Value) (A : Around) (outer : List Env) (s : Shared) (H : Hp) (E : XK) (f : Addr) (B : Bd (cxOf (L2.CX P w) P w K mg base ["thing", "own"] "are_numbers" (defScope st_are_numbers) f cdv A outer s H E) (fun c d _ H => E c d H) k) :
    PSs (cxOf (L2.CX P w) P w K mg base ["thing", "own"] "are_numbers" (defScope st_are_numbers) f cdv A outer s H E) (defBody st_are_numbers) (tS K (fun c d _ H => E c d H) (m_are_numbers )) :=
  have hr := B.hr
  have hu := Room.units B.hr
  have hu5 := room65 B.hr
  have nd := sc_are_numbers.nd
  s_one (s_ret (q_and (q_isi rfl bl.b_isinstance (q_lendN 0) rfl bl.b_tuple (by decide +kernel) (by decide)) (q_one (q_all rfl rfl bl.b_all (q_lendF (f_comp (own := [("own", 1)]) rfl nd (i_seq (q_rd 0)) (blkOk_by (N := ["thing", "own"]) (sc := defScope st_are_numbers) (by decide +kernel)) (by decide) (fun _ _ _ _ _ => g_name (i := 1) nd rfl (.inl rfl)) (fun _ _ _ _ _ => ts_nil) (fun _ _ _ _ _ => q_callH h_is_number hr takes_none5 rfl (a_cons (q_rd 1) (a_nil)) (aCons_len aNil_len))))))))

abbrev st_tupled : Stmt := topS 6
theorem sc_tupled : FnScope ["value", "own"] ["value"] (defScope st_tupled) := ⟨rfl, rfl, rfl, by decide +kernel, rfl, by decide +kernel, by decide +kernel⟩
def cm_tupled_0 (rec : Fn) : M (List D) := mComp (iSeq (rd 0)) (gN 1) (mYes) (mCall (rec) (aCons (rd 1) (aNil))) [1]
def m_tupled (rec : Fn) : MS := sRet (mIf (mT (mB1 (dIsi ["list", "tuple"]) (lend 0))) (mB1 dTuple (mLst (cm_tupled_0 rec))) (rd 0))
theorem d_tupled {rec : Fn} {P : Program} {w : World} {K : PySem.W.Frag} {mg : Str → Option Value} {base : Heap} {k : Nat} (bl : Blt mg) (h_tupled : Has P w K mg base "tupled" 1 k (rec)) (cdv : Value) (A : Around) (outer : List Env) (s : Shared) (H : Hp) (E : XK) (f : Addr) (B : Bd (cxOf (L2.CX P w) P w K mg base ["value", "own"] "tupled" (defScope st_tupled) f cdv A outer s H E) (fun c d _ H => E c d H) k) :
    PSs (cxOf (L2.CX P w) P w K mg base ["value", "own"] "tupled" (defScope st_tupled) f cdv A outer s H E) (defBody st_tupled) (tS K (fun c d _ H => E c d H) (m_tupled rec)) :=
  have hr := B.hr
  have hu := Room.units B.hr
  have hu5 := room65 B.hr
  have nd := sc_tupled.nd
  s_one (s_ret (q_if (t_val (q_isi2 rfl bl.b_isinstance (q_lendN 0) rfl bl.b_list (by decide +kernel) (by decide) rfl bl.b_tuple (by decide +kernel) (by decide))) (q_tuple rfl bl.b_tuple (q_lendF (f_comp (own := [("own", 1)]) rfl nd (i_seq (q_rd 0)) (blkOk_by (N := ["value", "own"]) (sc := defScope st_tupled) (by decide +kernel)) (by decide) (fun _ _ _ _ _ => g_name (i := 1) nd rfl (.inl rfl)) (fun _ _ _ _ _ => ts_nil) (fun _ _ _ _ _ => q_callH h_tupled hr takes_none5 rfl (a_cons (q_rd 1) (a_nil)) (aCons_len aNil_len))))) (q_rd 0)))

abbrev st_leaves_in : Stmt := topS 9
theorem sc_leaves_in : FnScope ["tree", "line", "found", "here"] ["tree"] (defScope st_leaves_in) := ⟨rfl, rfl, rfl, by decide +kernel, rfl, by decide +kernel, by decide +kernel⟩
def lp_leaves_in_0 : MS := sSeq (sSet 3 (mPop 1)) (sIf (tAndM (mT (mB1 (dIsi ["tuple"]) (lend 3))) (m2b dEq (mB1 dLen (lend 3)) (con (.int 2)))) (sDrop (mExt 1 (mLst (lNew (aCons (mIxN 3 (con (.int 1))) (aCons (mIxN 3 (con (.int 0))) (aNil))))))) (sDrop (mApp 2 (mIf (mT (mCall (F_is_number) (aCons (rd 3) (aNil)))) (rd 3) (con .non)))))
def lp_leaves_in_0_c : M Bool := m2N (fun x y => (dEq x y).map (!·)) 1 (fz (lNew (aNil)))
def m_leaves_in : MS := sSeq (sParV 1 2 (mNew (lNew (aCons (rd 0) (aNil)))) (mNew (lNew (aNil)))) (sSeq (sWhile (lp_leaves_in_0_c ) (lp_leaves_in_0 ) 200) (sRet (rd 2)))
theorem d_leaves_in {P : Program} {w : World} {K : PySem.W.Frag} {mg : Str → Option Value} {base : Heap} {k : Nat} (bl : Blt mg) (h_is_number : Has P w K mg base "is_number" 1 k (F_is_number)) (cdv : Value) (A : Around) (outer : List Env) (s : Shared) (H : Hp) (E : XK) (f : Addr) (B : Bd (cxOf (L2.CX P w) P w K mg base ["tree", "line", "found", "here"] "leaves_in" (defScope st_leaves_in) f cdv A outer s H E) (fun c d _ H => E c d H) k) :
    PSs (cxOf (L2.CX P w) P w K mg base ["tree", "line", "found", "here"] "leaves_in" (defScope st_leaves_in) f cdv A outer s H E) (defBody st_leaves_in) (tS K (fun c d _ H => E c d H) (m_leaves_in )) :=
  have hr := B.hr
  have hu := Room.units B.hr
  have hu5 := room65 B.hr
  have nd := sc_leaves_in.nd
  s_cons (s_parV (i := 1) (j := 2) rfl nd rfl rfl (by decide) rfl rfl (v_new (f_lst (a_cons (q_rd 0) (a_nil)))) (v_new (f_lst (a_nil))))
 (s_cons (s_while 200 B.po (t_cmpN 1 (op_neA hu) neL_ok (nobehind _ (by decide) (by decide)) (q_fz (f_lst (a_nil))))
 (s_cons (s_set (i := 3) nd rfl (.inl rfl) (q_pop 1))
 (s_one (s_if (PW.pt (t_and (t_val (q_isi rfl bl.b_isinstance (q_lendN 3) rfl bl.b_tuple (by decide +kernel) (by decide))) (t_and1 (t_cmp (op_eqA hu) eqA_ok (nobehind _ (by decide) (by decide)) (q_len rfl bl.b_len (q_lendN 3)) (q_int))))) (s_one (s_expr (q_extend 1 (q_lendF (f_lst (a_cons (q_ixN 3 (q_int)) (a_cons (q_ixN 3 (q_int)) (a_nil)))))))) (s_one (s_expr (q_append 2 (q_if (t_val (q_callH h_is_number hr B.tk rfl (a_cons (q_rd 3) (a_nil)) (aCons_len aNil_len))) (q_rd 3) (q_non)))))))))
 (s_one (s_ret (q_rd 2))))

abbrev st_sure_tree : Stmt := topS 10
theorem sc_sure_tree : FnScope ["value", "own", "leaves"] ["value"] (defScope st_sure_tree) := ⟨rfl, rfl, rfl, by decide +kernel, rfl, by decide +kernel, by decide +kernel⟩
def m_sure_tree : MS := sSeq (sSet 1 (mCall (F_tupled) (aCons (rd 0) (aNil)))) (sSeq (sSet 2 (mCall (F_leaves_in) (aCons (rd 1) (aNil)))) (sSeq (sIf (tOrM (m2b (dOrd (fun i j => decide (j < i)) fun a b => strLt b a) (mB1 dLen (lend 2)) (con (.int 60))) (tOrM (m2b (fun x y => (dIn x y).map fun b => if false then !b else b) (con .non) (rd 2)) (m2b (fun x y => (dEq x y).map (!·)) (rd 2) (fz (mRg1 (mB1 dLen (lend 2))))))) ((fun _ => .no)) (sNx)) (sRet (rd 1))))
theorem d_sure_tree {P : Program} {w : World} {K : PySem.W.Frag} {mg : Str → Option Value} {base : Heap} {k : Nat} (bl : Blt mg) (h_tupled : Has P w K mg base "tupled" 1 k (F_tupled)) (h_leaves_in : Has P w K mg base "leaves_in" 1 k (F_leaves_in)) (cdv : Value) (A : Around) (outer : List Env) (s : Shared) (H : Hp) (E : XK) (f : Addr) (B : Bd (cxOf (L2.CX P w) P w K mg base ["value", "own", "leaves"] "sure_tree" (defScope st_sure_tree) f cdv A outer s H E) (fun c d _ H => E c d H) k) :
    PSs (cxOf (L2.CX P w) P w K mg base ["value", "own", "leaves"] "sure_tree" (defScope st_sure_tree) f cdv A outer s H E) (defBody st_sure_tree) (tS K (fun c d _ H => E c d H) (m_sure_tree )) :=
  have hr := B.hr
  have hu := Room.units B.hr
  have hu5 := room65 B.hr
  have nd := sc_sure_tree.nd
  s_cons (s_set (i := 1) nd rfl (.inl rfl) (q_callH h_tupled hr B.tk rfl (a_cons (q_rd 0) (a_nil)) (aCons_len aNil_len)))
 (s_cons (s_set (i := 2) nd rfl (.inl rfl) (q_callH h_leaves_in hr B.tk rfl (a_cons (q_rd 1) (a_nil)) (aCons_len aNil_len)))
 (s_cons (s_if (PW.pt (t_or (t_cmp op_gtA (ord_ok _ _) (nobehind _ (by decide) (by decide)) (q_len rfl bl.b_len (q_lendN 2)) (q_gintE rfl bl.g_MOST_LETTERS)) (t_or (t_cmp (op_inA hu5) (inA_ok false) rfl (q_non) (q_rd 2)) (t_or1 (t_cmp (op_neA hu) neA_ok (nobehind _ (by decide) (by decide)) (q_rd 2) (q_fz (f_rg1 rfl rfl bl.b_list rfl bl.b_range (q_len rfl bl.b_len (q_lendN 2))))))))) (s_one (s_no)) (s_nil))
 (s_one (s_ret (q_rd 1)))))

abbrev st_words_in : Stmt := topS 11
theorem sc_words_in : FnScope ["tree", "line", "found", "here", "word"] ["tree"] (defScope st_words_in) := ⟨rfl, rfl, rfl, by decide +kernel, rfl, by decide +kernel, by decide +kernel⟩
def lp_words_in_0 : MS := sSeq (sAsg (gT 2 (gCons' (gN 3) (gCons' (gN 4) (gNil')))) (mPop 1)) (sIf (mT (mB1 (dIsi ["tuple"]) (lend 3))) (sDrop (mExt 1 (mLst (lNew (aCons (mTup (aCons (mIxN 3 (con (.int 1))) (aCons (m2 dAdd (rd 4) (con (.str (Str.ofString "1")))) (aNil)))) (aCons (mTup (aCons (mIxN 3 (con (.int 0))) (aCons (m2 dAdd (rd 4) (con (.str (Str.ofString "0")))) (aNil)))) (aNil))))))) (sDrop (mApp 2 (rd 4))))
def lp_words_in_0_c : M Bool := m2N (fun x y => (dEq x y).map (!·)) 1 (fz (lNew (aNil)))
def m_words_in : MS := sSeq (sParV 1 2 (mNew (lNew (aCons (mTup (aCons (rd 0) (aCons (con (.str (Str.ofString ""))) (aNil)))) (aNil)))) (mNew (lNew (aNil)))) (sSeq (sWhile (lp_words_in_0_c ) (lp_words_in_0 ) 200) (sRet (mB1 dTuple (lend 2))))
theorem d_words_in {P : Program} {w : World} {K : PySem.W.Frag} {mg : Str → Option Value} {base : Heap} {k : Nat} (bl : Blt mg)  (cdv : Value) (A : Around) (outer : List Env) (s : Shared) (H : Hp) (E : XK) (f : Addr) (B : Bd (cxOf (L2.CX P w) P w K mg base ["tree", "line", "found", "here", "word"] "words_in" (defScope st_words_in) f cdv A outer s H E) (fun c d _ H => E c d H) k) :
    PSs (cxOf (L2.CX P w) P w K mg base ["tree", "line", "found", "here", "word"] "words_in" (defScope st_words_in) f cdv A outer s H E) (defBody st_words_in) (tS K (fun c d _ H => E c d H) (m_words_in )) :=
  have hr := B.hr
  have hu := Room.units B.hr
  have hu5 := room65 B.hr
  have nd := sc_words_in.nd
  s_cons (s_parV (i := 1) (j := 2) rfl nd rfl rfl (by decide) rfl rfl (v_new (f_lst (a_cons (q_tup (a_cons (q_rd 0) (a_cons (q_str) (a_nil)))) (a_nil)))) (v_new (f_lst (a_nil))))
 (s_cons (s_while 200 B.po (t_cmpN 1 (op_neA hu) neL_ok (nobehind _ (by decide) (by decide)) (q_fz (f_lst (a_nil))))
 (s_cons (s_asg (q_pop 1) (g_tup rfl (g_cons (g_name (i := 3) nd rfl (.inl rfl)) (g_cons (g_name (i := 4) nd rfl (.inl rfl)) (g_nil)))))
 (s_one (s_if (t_val (q_isi rfl bl.b_isinstance (q_lendN 3) rfl bl.b_tuple (by decide +kernel) (by decide))) (s_one (s_expr (q_extend 1 (q_lendF (f_lst (a_cons (q_tup (a_cons (q_ixN 3 (q_int)) (a_cons (q_add (q_rd 4) (q_str)) (a_nil)))) (a_cons (q_tup (a_cons (q_ixN 3 (q_int)) (a_cons (q_add (q_rd 4) (q_str)) (a_nil)))) (a_nil)))))))) (s_one (s_expr (q_append 2 (q_rd 4))))))))
 (s_one (s_ret (q_tuple rfl bl.b_tuple (q_lendN 2)))))

abbrev st_stacked : Stmt := topS 12
theorem sc_stacked : FnScope ["lengths", "found", "place", "own", "right", "left"] ["lengths"] (defScope st_stacked) := ⟨rfl, rfl, rfl, by decide +kernel, rfl, by decide +kernel, by decide +kernel⟩
def lp_stacked_0 : MS := sSeq (sSet 4 (mPop 1)) (sSeq (sSet 5 (mPop 1)) (sDrop (mApp 1 (mTup (aCons (m2 dSub (mIxN 5 (con (.int 0))) (con (.int 1))) (aCons (mTup (aCons (mIxN 5 (con (.int 1))) (aCons (mIxN 4 (con (.int 1))) (aNil)))) (aNil)))))))
def lp_stacked_0_c : M Bool := tAndM (m2b (dOrd (fun i j => decide (j < i)) fun a b => strLt b a) (mB1 dLen (lend 1)) (con (.int 1))) (tAndM (m2b dEq (mIx (mIxN 1 (mNeg (con (.int 1)))) (con (.int 0))) (mIx (mIxN 1 (mNeg (con (.int 2)))) (con (.int 0)))) (m2b (dOrd (fun i j => decide (j < i)) fun a b => strLt b a) (mIx (mIxN 1 (mNeg (con (.int 1)))) (con (.int 0))) (con (.int 0))))
def lp_stacked_1 : MS := sSeq (sDrop (mApp 1 (mTup (aCons (rd 3) (aCons (rd 2) (aNil)))))) (sWhile (lp_stacked_0_c ) (lp_stacked_0 ) 200)
def m_stacked : MS := sSeq (sSetF 1 (lNew (aNil))) (sSeq (sFor (iEnM (rd 0)) (gT 2 (gCons' (gN 2) (gCons' (gN 3) (gNil')))) (lp_stacked_1 )) (sRet (rd 1)))
theorem d_stacked {P : Program} {w : World} {K : PySem.W.Frag} {mg : Str → Option Value} {base : Heap} {k : Nat} (bl : Blt mg)  (cdv : Value) (A : Around) (outer : List Env) (s : Shared) (H : Hp) (E : XK) (f : Addr) (B : Bd (cxOf (L2.CX P w) P w K mg base ["lengths", "found", "place", "own", "right", "left"] "stacked" (defScope st_stacked) f cdv A outer s H E) (fun c d _ H => E c d H) k) :
    PSs (cxOf (L2.CX P w) P w K mg base ["lengths", "found", "place", "own", "right", "left"] "stacked" (defScope st_stacked) f cdv A outer s H E) (defBody st_stacked) (tS K (fun c d _ H => E c d H) (m_stacked )) :=
  have hr := B.hr
  have hu := Room.units B.hr
  have hu5 := room65 B.hr
  have nd := sc_stacked.nd
  s_cons (s_setF (i := 1) nd rfl (.inl rfl) (f_lst (a_nil)))
 (s_cons (s_for B.po rfl (i_en rfl bl.b_enumerate (q_rd 0)) (g_tup rfl (g_cons (g_name (i := 2) nd rfl (.inl rfl)) (g_cons (g_name (i := 3) nd rfl (.inl rfl)) (g_nil))))
 (s_cons (s_expr (q_append 1 (q_tup (a_cons (q_rd 3) (a_cons (q_rd 2) (a_nil))))))
 (s_one (s_while 200 B.po (PW.pt (t_and (t_cmp op_gtA (ord_ok _ _) (nobehind _ (by decide) (by decide)) (q_len rfl bl.b_len (q_lendN 1)) (q_int)) (t_and (t_cmp (op_eqA hu) eqA_ok (nobehind _ (by decide) (by decide)) (q_ix (q_ixN 1 (q_neg (q_int))) (q_int)) (q_ix (q_ixN 1 (q_neg (q_int))) (q_int))) (t_and1 (t_cmp op_gtA (ord_ok _ _) (nobehind _ (by decide) (by decide)) (q_ix (q_ixN 1 (q_neg (q_int))) (q_int)) (q_int))))))
 (s_cons (s_set (i := 4) nd rfl (.inl rfl) (q_pop 1))
 (s_cons (s_set (i := 5) nd rfl (.inl rfl) (q_pop 1))
 (s_one (s_expr (q_append 1 (q_tup (a_cons (q_sub (q_ixN 5 (q_int)) (q_int)) (a_cons (q_tup (a_cons (q_ixN 5 (q_int)) (a_cons (q_ixN 4 (q_int)) (a_nil)))) (a_nil)))))))))))))
 (s_one (s_ret (q_rd 1))))

abbrev st_tree_in : Stmt := topS 13
theorem sc_tree_in : FnScope ["lengths", "found"] ["lengths"] (defScope st_tree_in) := ⟨rfl, rfl, rfl, by decide +kernel, rfl, by decide +kernel, by decide +kernel⟩
def m_tree_in : MS := sSeq (sSet 1 (mCall (F_stacked) (aCons (rd 0) (aNil)))) (sRet (mIf (tAndM (m2b dEq (mB1 dLen (lend 1)) (con (.int 1))) (m2b dEq (mIx (mIxN 1 (con (.int 0))) (con (.int 0))) (con (.int 0)))) (mIx (mIxN 1 (con (.int 0))) (con (.int 1))) (con .non)))
theorem d_tree_in {P : Program} {w : World} {K : PySem.W.Frag} {mg : Str → Option Value} {base : Heap} {k : Nat} (bl : Blt mg) (h_stacked : Has P w K mg base "stacked" 1 k (F_stacked)) (cdv : Value) (A : Around) (outer : List Env) (s : Shared) (H : Hp) (E : XK) (f : Addr) (B : Bd (cxOf (L2.CX P w) P w K mg base ["lengths", "found"] "tree_in" (defScope st_tree_in) f cdv A outer s H E) (fun c d _ H => E c d H) k) :
    PSs (cxOf (L2.CX P w) P w K mg base ["lengths", "found"] "tree_in" (defScope st_tree_in) f cdv A outer s H E) (defBody st_tree_in) (tS K (fun c d _ H => E c d H) (m_tree_in )) :=
  have hr := B.hr
  have hu := Room.units B.hr
  have hu5 := room65 B.hr
  have nd := sc_tree_in.nd
  s_cons (s_set (i := 1) nd rfl (.inl rfl) (q_callH h_stacked hr B.tk rfl (a_cons (q_rd 0) (a_nil)) (aCons_len aNil_len)))
 (s_one (s_ret (q_if (PW.pt (t_and (t_cmp (op_eqA hu) eqA_ok (nobehind _ (by decide) (by decide)) (q_len rfl bl.b_len (q_lendN 1)) (q_int)) (t_and1 (t_cmp (op_eqA hu) eqA_ok (nobehind _ (by decide) (by decide)) (q_ix (q_ixN 1 (q_int)) (q_int)) (q_int))))) (q_ix (q_ixN 1 (q_int)) (q_int)) (q_non))))

abbrev st_turned_tree : Stmt := topS 14
theorem sc_turned_tree : FnScope ["tree", "lengths", "word"] ["tree"] (defScope st_turned_tree) := ⟨rfl, rfl, rfl, by decide +kernel, rfl, by decide +kernel, by decide +kernel⟩
def cm_turned_tree_0 : M (List D) := mComp (iSeq (mCall (F_words_in) (aCons (mCall (F_sure_tree) (aCons (rd 0) (aNil))) (aNil)))) (gN 2) (mYes) (mB1 dLen (lend 2)) [2]
def m_turned_tree : MS := sSeq (sSetF 1 (cm_turned_tree_0 )) (sRet (mCall (F_tree_in) (aCons (m1 dBack (rd 1)) (aNil))))
theorem d_turned_tree {P : Program} {w : World} {K : PySem.W.Frag} {mg : Str → Option Value} {base : Heap} {k : Nat} (bl : Blt mg) (h_words_in : Has P w K mg base "words_in" 1 k (F_words_in)) (h_sure_tree : Has P w K mg base "sure_tree" 1 k (F_sure_tree)) (h_tree_in : Has P w K mg base "tree_in" 1 k (F_tree_in)) (cdv : Value) (A : Around) (outer : List Env) (s : Shared) (H : Hp) (E : XK) (f : Addr) (B : Bd (cxOf (L2.CX P w) P w K mg base ["tree", "lengths", "word"] "turned_tree" (defScope st_turned_tree) f cdv A outer s H E) (fun c d _ H => E c d H) k) :
    PSs (cxOf (L2.CX P w) P w K mg base ["tree", "lengths", "word"] "turned_tree" (defScope st_turned_tree) f cdv A outer s H E) (defBody st_turned_tree) (tS K (fun c d _ H => E c d H) (m_turned_tree )) :=
  have hr := B.hr
  have hu := Room.units B.hr
  have hu5 := room65 B.hr
  have nd := sc_turned_tree.nd
  s_cons (s_setLc (i := 1) (own := [("word", 2)]) rfl nd rfl rfl (sw_true rfl rfl rfl (by decide +kernel)) (i_seq (q_callH h_words_in hr B.tk rfl (a_cons (q_callH h_sure_tree hr B.tk rfl (a_cons (q_rd 0) (a_nil)) (aCons_len aNil_len)) (a_nil)) (aCons_len aNil_len))) (blkOk_by (N := ["tree", "lengths", "word"]) (sc := defScope st_turned_tree) (by decide +kernel)) (by decide) (fun _ _ _ _ _ => g_name (i := 2) nd rfl (.inl rfl)) (fun _ _ _ _ _ => ts_nil) (fun _ _ _ _ _ => q_len rfl bl.b_len (q_lendN 2)))
 (s_one (s_ret (q_callH h_tree_in hr B.tk rfl (a_cons (q_back (q_rd 1)) (a_nil)) (aCons_len aNil_len))))

abbrev st_piece_at : Stmt := topS 17
theorem sc_piece_at : FnScope ["tree", "word", "here", "sign"] ["tree", "word"] (defScope st_piece_at) := ⟨rfl, rfl, rfl, by decide +kernel, rfl, by decide +kernel, by decide +kernel⟩
def lp_piece_at_0 : MS := sSeq (sIf (tNotM (mT (mB1 (dIsi ["tuple"]) (lend 2)))) (sRet (con .non)) (sNx)) (sSet 2 (mIxN 2 (mB1 dIntS (lend 3))))
def m_piece_at : MS := sSeq (sSet 2 (rd 0)) (sSeq (sFor (iSeq (rd 1)) (gN 3) (lp_piece_at_0 )) (sRet (rd 2)))
theorem d_piece_at {P : Program} {w : World} {K : PySem.W.Frag} {mg : Str → Option Value} {base : Heap} {k : Nat} (bl : Blt mg)  (cdv : Value) (A : Around) (outer : List Env) (s : Shared) (H : Hp) (E : XK) (f : Addr) (B : Bd (cxOf (L2.CX P w) P w K mg base ["tree", "word", "here", "sign"] "piece_at" (defScope st_piece_at) f cdv A outer s H E) (fun c d _ H => E c d H) k) :
    PSs (cxOf (L2.CX P w) P w K mg base ["tree", "word", "here", "sign"] "piece_at" (defScope st_piece_at) f cdv A outer s H E) (defBody st_piece_at) (tS K (fun c d _ H => E c d H) (m_piece_at )) :=
  have hr := B.hr
  have hu := Room.units B.hr
  have hu5 := room65 B.hr
  have nd := sc_piece_at.nd
  s_cons (s_set (i := 2) nd rfl (.inl rfl) (q_rd 0))
 (s_cons (s_for B.po rfl (i_seq (q_rd 1)) (g_name (i := 3) nd rfl (.inl rfl))
 (s_cons (s_if (t_not (t_val (q_isi rfl bl.b_isinstance (q_lendN 2) rfl bl.b_tuple (by decide +kernel) (by decide)))) (s_one (s_ret (q_non))) (s_nil))
 (s_one (s_set (i := 2) nd rfl (.inl rfl) (q_ixN 2 (q_intS rfl bl.b_int (q_lendN 3)))))))
 (s_one (s_ret (q_rd 2))))

abbrev st_pair_words : Stmt := topS 18
theorem sc_pair_words : FnScope ["tree", "line", "found", "here", "word"] ["tree"] (defScope st_pair_words) := ⟨rfl, rfl, rfl, by decide +kernel, rfl, by decide +kernel, by decide +kernel⟩
def lp_pair_words_0 : MS := sSeq (sAsg (gT 2 (gCons' (gN 3) (gCons' (gN 4) (gNil')))) (mPop 1)) (sIf (mT (mB1 (dIsi ["tuple"]) (lend 3))) (sSeq (sDrop (mApp 2 (rd 4))) (sDrop (mExt 1 (mLst (lNew (aCons (mTup (aCons (mIxN 3 (con (.int 1))) (aCons (m2 dAdd (rd 4) (con (.str (Str.ofString "1")))) (aNil)))) (aCons (mTup (aCons (mIxN 3 (con (.int 0))) (aCons (m2 dAdd (rd 4) (con (.str (Str.ofString "0")))) (aNil)))) (aNil)))))))) (sNx))
def lp_pair_words_0_c : M Bool := m2N (fun x y => (dEq x y).map (!·)) 1 (fz (lNew (aNil)))
def m_pair_words : MS := sSeq (sParV 1 2 (mNew (lNew (aCons (mTup (aCons (rd 0) (aCons (con (.str (Str.ofString ""))) (aNil)))) (aNil)))) (mNew (lNew (aNil)))) (sSeq (sWhile (lp_pair_words_0_c ) (lp_pair_words_0 ) 200) (sRet (fz (mB1F dSort (lend 2)))))
theorem d_pair_words {P : Program} {w : World} {K : PySem.W.Frag} {mg : Str → Option Value} {base : Heap} {k : Nat} (bl : Blt mg)  (cdv : Value) (A : Around) (outer : List Env) (s : Shared) (H : Hp) (E : XK) (f : Addr) (B : Bd (cxOf (L2.CX P w) P w K mg base ["tree", "line", "found", "here", "word"] "pair_words" (defScope st_pair_words) f cdv A outer s H E) (fun c d _ H => E c d H) k) :
    PSs (cxOf (L2.CX P w) P w K mg base ["tree", "line", "found", "here", "word"] "pair_words" (defScope st_pair_words) f cdv A outer s H E) (defBody st_pair_words) (tS K (fun c d _ H => E c d H) (m_pair_words )) :=
  have hr := B.hr
  have hu := Room.units B.hr
  have hu5 := room65 B.hr
  have nd := sc_pair_words.nd
  s_cons (s_parV (i := 1) (j := 2) rfl nd rfl rfl (by decide) rfl rfl (v_new (f_lst (a_cons (q_tup (a_cons (q_rd 0) (a_cons (q_str) (a_nil)))) (a_nil)))) (v_new (f_lst (a_nil))))
 (s_cons (s_while 200 B.po (t_cmpN 1 (op_neA hu) neL_ok (nobehind _ (by decide) (by decide)) (q_fz (f_lst (a_nil))))
 (s_cons (s_asg (q_pop 1) (g_tup rfl (g_cons (g_name (i := 3) nd rfl (.inl rfl)) (g_cons (g_name (i := 4) nd rfl (.inl rfl)) (g_nil)))))
 (s_one (s_if (t_val (q_isi rfl bl.b_isinstance (q_lendN 3) rfl bl.b_tuple (by decide +kernel) (by decide))) (s_cons (s_expr (q_append 2 (q_rd 4)))
 (s_one (s_expr (q_extend 1 (q_lendF (f_lst (a_cons (q_tup (a_cons (q_ixN 3 (q_int)) (a_cons (q_add (q_rd 4) (q_str)) (a_nil)))) (a_cons (q_tup (a_cons (q_ixN 3 (q_int)) (a_cons (q_add (q_rd 4) (q_str)) (a_nil)))) (a_nil))))))))) (s_nil)))))
 (s_one (s_ret (q_fz (f_sort rfl bl.b_sorted (q_lendN 2))))))

abbrev st_reach_in : Stmt := topS 19
theorem sc_reach_in : FnScope ["tree", "found", "word", "leaves"] ["tree"] (defScope st_reach_in) := ⟨rfl, rfl, rfl, by decide +kernel, rfl, by decide +kernel, by decide +kernel⟩
def lp_reach_in_0 : MS := sSeq (sSet 3 (mCall (F_leaves_in) (aCons (mCall (F_piece_at) (aCons (rd 0) (aCons (rd 2) (aNil)))) (aNil)))) (sPutIx 1 (mIxN 3 (con (.int 0))) (m2 dMax2 (mIxN 1 (mIxN 3 (con (.int 0)))) (mIxN 3 (mNeg (con (.int 1))))))
def m_reach_in : MS := sSeq (sSetF 1 (mRg1 (mB1 dLen (mCall (F_leaves_in) (aCons (rd 0) (aNil)))))) (sSeq (sFor (iSeq (m1 dBack (mCall (F_pair_words) (aCons (rd 0) (aNil))))) (gN 2) (lp_reach_in_0 )) (sRet (mB1 dTuple (lend 1))))
theorem d_reach_in {P : Program} {w : World} {K : PySem.W.Frag} {mg : Str → Option Value} {base : Heap} {k : Nat} (bl : Blt mg) (h_leaves_in : Has P w K mg base "leaves_in" 1 k (F_leaves_in)) (h_pair_words : Has P w K mg base "pair_words" 1 k (F_pair_words)) (h_piece_at : Has P w K mg base "piece_at" 2 k (F_piece_at)) (cdv : Value) (A : Around) (outer : List Env) (s : Shared) (H : Hp) (E : XK) (f : Addr) (B : Bd (cxOf (L2.CX P w) P w K mg base ["tree", "found", "word", "leaves"] "reach_in" (defScope st_reach_in) f cdv A outer s H E) (fun c d _ H => E c d H) k) :
    PSs (cxOf (L2.CX P w) P w K mg base ["tree", "found", "word", "leaves"] "reach_in" (defScope st_reach_in) f cdv A outer s H E) (defBody st_reach_in) (tS K (fun c d _ H => E c d H) (m_reach_in )) :=
  have hr := B.hr
  have hu := Room.units B.hr
  have hu5 := room65 B.hr
  have nd := sc_reach_in.nd
  s_cons (s_setF (i := 1) nd rfl (.inl rfl) (f_rg1 rfl rfl bl.b_list rfl bl.b_range (q_len rfl bl.b_len (q_lend (q_callH h_leaves_in hr B.tk rfl (a_cons (q_rd 0) (a_nil)) (aCons_len aNil_len))))))
 (s_cons (s_for B.po rfl (i_seq (q_back (q_callH h_pair_words hr B.tk rfl (a_cons (q_rd 0) (a_nil)) (aCons_len aNil_len)))) (g_name (i := 2) nd rfl (.inl rfl))
 (s_cons (s_set (i := 3) nd rfl (.inl rfl) (q_callH h_leaves_in hr B.tk rfl (a_cons (q_callH h_piece_at hr B.tk rfl (a_cons (q_rd 0) (a_cons (q_rd 2) (a_nil))) (aCons_len (aCons_len aNil_len))) (a_nil)) (aCons_len aNil_len)))
 (s_one (s_putIx 1 (q_max2 rfl rfl bl.b_max (q_ixN 1 (q_ixN 3 (q_int))) (q_ixN 3 (q_neg (q_int)))) (q_ixN 3 (q_int))))))
 (s_one (s_ret (q_tuple rfl bl.b_tuple (q_lendN 1)))))

abbrev st_is_reach_in : Stmt := topS 20
theorem sc_is_reach_in : FnScope ["row", "last", "place", "own"] ["row"] (defScope st_is_reach_in) := ⟨rfl, rfl, rfl, by decide +kernel, rfl, by decide +kernel, by decide +kernel⟩
def cm_is_reach_in_0 : M (List D) := mComp (iEnM (rd 0)) (gT 2 (gCons' (gN 2) (gCons' (gN 3) (gNil')))) (mYes) (mB (m3b (dOrd (fun i j => decide (i ≤ j)) fun a b => !strLt b a) (dOrd (fun i j => decide (i ≤ j)) fun a b => !strLt b a) (rd 2) (rd 3) (rd 1))) [2, 3]
def cm_is_reach_in_1 : M (List D) := mComp (iEnM (rd 0)) (gT 2 (gCons' (gN 2) (gCons' (gN 3) (gNil')))) (mYes) (mB (m2b dEq (mB1 dMax (mSl (rd 0) (oIn (rd 2)) (oIn (m2 dAdd (rd 3) (con (.int 1)))))) (rd 3))) [2, 3]
def m_is_reach_in : MS := sSeq (sSet 1 (m2 dSub (mB1 dLen (lend 0)) (con (.int 1)))) (sSeq (sIf (tOrM (m2b (fun x y => (dEq x y).map (!·)) (mIxN 0 (con (.int 0))) (rd 1)) (tNotM (mT (mB1 dAll (mLst (cm_is_reach_in_0 )))))) (sRet (con (.bl false))) (sNx)) (sRet (mB1 dAll (mLst (cm_is_reach_in_1 )))))
theorem d_is_reach_in {P : Program} {w : World} {K : PySem.W.Frag} {mg : Str → Option Value} {base : Heap} {k : Nat} (bl : Blt mg)  (cdv : Value) (A : Around) (outer : List Env) (s : Shared) (H : Hp) (E : XK) (f : Addr) (B : Bd (cxOf (L2.CX P w) P w K mg base ["row", "last", "place", "own"] "is_reach_in" (defScope st_is_reach_in) f cdv A outer s H E) (fun c d _ H => E c d H) k) :
    PSs (cxOf (L2.CX P w) P w K mg base ["row", "last", "place", "own"] "is_reach_in" (defScope st_is_reach_in) f cdv A outer s H E) (defBody st_is_reach_in) (tS K (fun c d _ H => E c d H) (m_is_reach_in )) :=
  have hr := B.hr
  have hu := Room.units B.hr
  have hu5 := room65 B.hr
  have nd := sc_is_reach_in.nd
  s_cons (s_set (i := 1) nd rfl (.inr rfl) (q_sub (q_len rfl bl.b_len (q_lendN 0)) (q_int)))
 (s_cons (s_if (PW.pt (t_or (t_cmp (op_neA hu) neA_ok (nobehind _ (by decide) (by decide)) (q_ixN 0 (q_int)) (q_rd 1)) (t_or1 (t_not (t_val (q_all rfl rfl bl.b_all (q_lendF (f_comp (own := [("place", 2), ("own", 3)]) rfl nd (i_en rfl bl.b_enumerate (q_rd 0)) (blkOk_by (N := ["row", "last", "place", "own"]) (sc := defScope st_is_reach_in) (by decide +kernel)) (by decide) (fun _ _ _ _ _ => g_tup rfl (g_cons (g_name (i := 2) nd rfl (.inl rfl)) (g_cons (g_name (i := 3) nd rfl (.inl rfl)) (g_nil)))) (fun _ _ _ _ _ => ts_nil) (fun _ _ _ _ _ => q_chain op_leA (ord_ok _ _) op_leA (ord_ok _ _) (q_rd 2) (q_rd 3) (q_rd 1)))))))))) (s_one (s_ret (q_bl))) (s_nil))
 (s_one (s_ret (q_all rfl rfl bl.b_all (q_lendF (f_comp (own := [("place", 2), ("own", 3)]) rfl nd (i_en rfl bl.b_enumerate (q_rd 0)) (blkOk_by (N := ["row", "last", "place", "own"]) (sc := defScope st_is_reach_in) (by decide +kernel)) (by decide) (fun _ _ _ _ _ => g_tup rfl (g_cons (g_name (i := 2) nd rfl (.inl rfl)) (g_cons (g_name (i := 3) nd rfl (.inl rfl)) (g_nil)))) (fun _ _ _ _ _ => ts_nil) (fun _ _ _ _ _ => q_cmp (op_eqA hu) eqA_ok (nobehind _ (by decide) (by decide)) (q_max rfl rfl bl.b_max (q_lend (q_sl (q_rd 0) (o_in (q_rd 2)) (o_in (q_add (q_rd 3) (q_int)))))) (q_rd 3))))))))

abbrev st_tree_of_row : Stmt := topS 21
theorem sc_tree_of_row : FnScope ["row", "first", "last", "start"] ["row", "first", "last"] (defScope st_tree_of_row) := ⟨rfl, rfl, rfl, by decide +kernel, rfl, by decide +kernel, by decide +kernel⟩
def lp_tree_of_row_0 (rec : Fn) : MS := sSet 3 (m2 dAdd (mIxN 0 (rd 3)) (con (.int 1)))
def lp_tree_of_row_0_c (rec : Fn) : M Bool := m2b (dOrd (fun i j => decide (i < j)) strLt) (mIxN 0 (rd 3)) (rd 2)
def m_tree_of_row (rec : Fn) : MS := sSeq (sIf (m2b dEq (rd 1) (rd 2)) (sRet (rd 1)) (sNx)) (sSeq (sSet 3 (m2 dAdd (rd 1) (con (.int 1)))) (sSeq (sWhile (lp_tree_of_row_0_c rec) (lp_tree_of_row_0 rec) 200) (sRet (mTup (aCons (mCall (rec) (aCons (rd 0) (aCons (rd 1) (aCons (m2 dSub (rd 3) (con (.int 1))) (aNil))))) (aCons (mCall (rec) (aCons (rd 0) (aCons (rd 3) (aCons (rd 2) (aNil))))) (aNil)))))))
theorem d_tree_of_row {rec : Fn} {P : Program} {w : World} {K : PySem.W.Frag} {mg : Str → Option Value} {base : Heap} {k : Nat} (bl : Blt mg) (h_tree_of_row : Has P w K mg base "tree_of_row" 3 k (rec)) (cdv : Value) (A : Around) (outer : List Env) (s : Shared) (H : Hp) (E : XK) (f : Addr) (B : Bd (cxOf (L2.CX P w) P w K mg base ["row", "first", "last", "start"] "tree_of_row" (defScope st_tree_of_row) f cdv A outer s H E) (fun c d _ H => E c d H) k) :
    PSs (cxOf (L2.CX P w) P w K mg base ["row", "first", "last", "start"] "tree_of_row" (defScope st_tree_of_row) f cdv A outer s H E) (defBody st_tree_of_row) (tS K (fun c d _ H => E c d H) (m_tree_of_row rec)) :=
  have hr := B.hr
  have hu := Room.units B.hr
  have hu5 := room65 B.hr
  have nd := sc_tree_of_row.nd
  s_cons (s_if (t_cmp (op_eqA hu) eqA_ok (nobehind _ (by decide) (by decide)) (q_rd 1) (q_rd 2)) (s_one (s_ret (q_rd 1))) (s_nil))
 (s_cons (s_set (i := 3) nd rfl (.inl rfl) (q_add (q_rd 1) (q_int)))
 (s_cons (s_while 200 B.po (t_cmp op_ltA (ord_ok _ _) (nobehind _ (by decide) (by decide)) (q_ixN 0 (q_rd 3)) (q_rd 2))
 (s_one (s_set (i := 3) nd rfl (.inl rfl) (q_add (q_ixN 0 (q_rd 3)) (q_int)))))
 (s_one (s_ret (q_tup (a_cons (q_callH h_tree_of_row hr B.tk rfl (a_cons (q_rd 0) (a_cons (q_rd 1) (a_cons (q_sub (q_rd 3) (q_int)) (a_nil)))) (aCons_len (aCons_len (aCons_len aNil_len)))) (a_cons (q_callH h_tree_of_row hr B.tk rfl (a_cons (q_rd 0) (a_cons (q_rd 3) (a_cons (q_rd 2) (a_nil)))) (aCons_len (aCons_len (aCons_len aNil_len)))) (a_nil))))))))

abbrev st_is_below : Stmt := topS 22
theorem sc_is_below : FnScope ["one", "other", "near", "far"] ["one", "other"] (defScope st_is_below) := ⟨rfl, rfl, rfl, by decide +kernel, rfl, by decide +kernel, by decide +kernel⟩
def cm_is_below_0 : M (List D) := mComp (iZpM (rd 0) (rd 1)) (gT 2 (gCons' (gN 2) (gCons' (gN 3) (gNil')))) (mYes) (mB (m2b (dOrd (fun i j => decide (i ≤ j)) fun a b => !strLt b a) (rd 2) (rd 3))) [2, 3]
def m_is_below : MS := sRet (mB1 dAll (mLst (cm_is_below_0 )))
theorem d_is_below {P : Program} {w : World} {K : PySem.W.Frag} {mg : Str → Option Value} {base : Heap} {k : Nat} (bl : Blt mg)  (cdv : Value) (A : Around) (outer : List Env) (s : Shared) (H : Hp) (E : XK) (f : Addr) (B : Bd (cxOf (L2.CX P w) P w K mg base ["one", "other", "near", "far"] "is_below" (defScope st_is_below) f cdv A outer s H E) (fun c d _ H => E c d H) k) :
    PSs (cxOf (L2.CX P w) P w K mg base ["one", "other", "near", "far"] "is_below" (defScope st_is_below) f cdv A outer s H E) (defBody st_is_below) (tS K (fun c d _ H => E c d H) (m_is_below )) :=
  have hr := B.hr
  have hu := Room.units B.hr
  have hu5 := room65 B.hr
  have nd := sc_is_below.nd
  s_one (s_ret (q_all rfl rfl bl.b_all (q_lendF (f_comp (own := [("near", 2), ("far", 3)]) rfl nd (i_zp rfl bl.b_zip (q_rd 0) (q_rd 1)) (blkOk_by (N := ["one", "other", "near", "far"]) (sc := defScope st_is_below) (by decide +kernel)) (by decide) (fun _ _ _ _ _ => g_tup rfl (g_cons (g_name (i := 2) nd rfl (.inl rfl)) (g_cons (g_name (i := 3) nd rfl (.inl rfl)) (g_nil)))) (fun _ _ _ _ _ => ts_nil) (fun _ _ _ _ _ => q_cmp op_leA (ord_ok _ _) (nobehind _ (by decide) (by decide)) (q_rd 2) (q_rd 3))))))

abbrev st_lower_in : Stmt := topS 23
theorem sc_lower_in : FnScope ["one", "other", "row", "near", "far"] ["one", "other"] (defScope st_lower_in) := ⟨rfl, rfl, rfl, by decide +kernel, rfl, by decide +kernel, by decide +kernel⟩
def cm_lower_in_0 : M (List D) := mComp (iZpM (mCall (F_reach_in) (aCons (rd 0) (aNil))) (mCall (F_reach_in) (aCons (rd 1) (aNil)))) (gT 2 (gCons' (gN 3) (gCons' (gN 4) (gNil')))) (mYes) (m2 dMin2 (rd 3) (rd 4)) [3, 4]
def m_lower_in : MS := sSeq (sSetF 2 (cm_lower_in_0 )) (sRet (mCall (F_tree_of_row) (aCons (rd 2) (aCons (con (.int 0)) (aCons (m2 dSub (mB1 dLen (lend 2)) (con (.int 1))) (aNil))))))
theorem d_lower_in {P : Program} {w : World} {K : PySem.W.Frag} {mg : Str → Option Value} {base : Heap} {k : Nat} (bl : Blt mg) (h_reach_in : Has P w K mg base "reach_in" 1 k (F_reach_in)) (h_tree_of_row : Has P w K mg base "tree_of_row" 3 k (F_tree_of_row)) (cdv : Value) (A : Around) (outer : List Env) (s : Shared) (H : Hp) (E : XK) (f : Addr) (B : Bd (cxOf (L2.CX P w) P w K mg base ["one", "other", "row", "near", "far"] "lower_in" (defScope st_lower_in) f cdv A outer s H E) (fun c d _ H => E c d H) k) :
    PSs (cxOf (L2.CX P w) P w K mg base ["one", "other", "row", "near", "far"] "lower_in" (defScope st_lower_in) f cdv A outer s H E) (defBody st_lower_in) (tS K (fun c d _ H => E c d H) (m_lower_in )) :=
  have hr := B.hr
  have hu := Room.units B.hr
  have hu5 := room65 B.hr
  have nd := sc_lower_in.nd
  s_cons (s_setLc (i := 2) (own := [("near", 3), ("far", 4)]) rfl nd rfl rfl (sw_true rfl rfl rfl (by decide +kernel)) (i_zp rfl bl.b_zip (q_callH h_reach_in hr B.tk rfl (a_cons (q_rd 0) (a_nil)) (aCons_len aNil_len)) (q_callH h_reach_in hr B.tk rfl (a_cons (q_rd 1) (a_nil)) (aCons_len aNil_len))) (blkOk_by (N := ["one", "other", "row", "near", "far"]) (sc := defScope st_lower_in) (by decide +kernel)) (by decide) (fun _ _ _ _ _ => g_tup rfl (g_cons (g_name (i := 3) nd rfl (.inl rfl)) (g_cons (g_name (i := 4) nd rfl (.inl rfl)) (g_nil)))) (fun _ _ _ _ _ => ts_nil) (fun _ _ _ _ _ => q_min2 rfl rfl bl.b_min (q_rd 3) (q_rd 4)))
 (s_one (s_ret (q_callH h_tree_of_row hr B.tk rfl (a_cons (q_rd 2) (a_cons (q_int) (a_cons (q_sub (q_len rfl bl.b_len (q_lendN 2)) (q_int)) (a_nil)))) (aCons_len (aCons_len (aCons_len aNil_len))))))

abbrev st_flipped : Stmt := topS 24
theorem sc_flipped : FnScope ["tree", "many"] ["tree", "many"] (defScope st_flipped) := ⟨rfl, rfl, rfl, by decide +kernel, rfl, by decide +kernel, by decide +kernel⟩
def m_flipped (rec : Fn) : MS := sSeq (sIf (tNotM (mT (mB1 (dIsi ["tuple"]) (lend 0)))) (sRet (m2 dSub (m2 dSub (rd 1) (con (.int 1))) (rd 0))) (sNx)) (sRet (mTup (aCons (mCall (rec) (aCons (mIxN 0 (con (.int 1))) (aCons (rd 1) (aNil)))) (aCons (mCall (rec) (aCons (mIxN 0 (con (.int 0))) (aCons (rd 1) (aNil)))) (aNil)))))
theorem d_flipped {rec : Fn} {P : Program} {w : World} {K : PySem.W.Frag} {mg : Str → Option Value} {base : Heap} {k : Nat} (bl : Blt mg) (h_flipped : Has P w K mg base "flipped" 2 k (rec)) (cdv : Value) (A : Around) (outer : List Env) (s : Shared) (H : Hp) (E : XK) (f : Addr) (B : Bd (cxOf (L2.CX P w) P w K mg base ["tree", "many"] "flipped" (defScope st_flipped) f cdv A outer s H E) (fun c d _ H => E c d H) k) :
    PSs (cxOf (L2.CX P w) P w K mg base ["tree", "many"] "flipped" (defScope st_flipped) f cdv A outer s H E) (defBody st_flipped) (tS K (fun c d _ H => E c d H) (m_flipped rec)) :=
  have hr := B.hr
  have hu := Room.units B.hr
  have hu5 := room65 B.hr
  have nd := sc_flipped.nd
  s_cons (s_if (t_not (t_val (q_isi rfl bl.b_isinstance (q_lendN 0) rfl bl.b_tuple (by decide +kernel) (by decide)))) (s_one (s_ret (q_sub (q_sub (q_rd 1) (q_int)) (q_rd 0)))) (s_nil))
 (s_one (s_ret (q_tup (a_cons (q_callH h_flipped hr B.tk rfl (a_cons (q_ixN 0 (q_int)) (a_cons (q_rd 1) (a_nil))) (aCons_len (aCons_len aNil_len))) (a_cons (q_callH h_flipped hr B.tk rfl (a_cons (q_ixN 0 (q_int)) (a_cons (q_rd 1) (a_nil))) (aCons_len (aCons_len aNil_len))) (a_nil))))))

abbrev st_sure_pair : Stmt := topS 25
theorem sc_sure_pair : FnScope ["one", "other", "near", "far"] ["one", "other"] (defScope st_sure_pair) := ⟨rfl, rfl, rfl, by decide +kernel, rfl, by decide +kernel, by decide +kernel⟩
def m_sure_pair : MS := sSeq (sSet 2 (mCall (F_sure_tree) (aCons (rd 0) (aNil)))) (sSeq (sSet 3 (mCall (F_sure_tree) (aCons (rd 1) (aNil)))) (sSeq (sIf (m2b (fun x y => (dEq x y).map (!·)) (mB1 dLen (mCall (F_leaves_in) (aCons (rd 2) (aNil)))) (mB1 dLen (mCall (F_leaves_in) (aCons (rd 3) (aNil))))) ((fun _ => .no)) (sNx)) (sRet (mTup (aCons (rd 2) (aCons (rd 3) (aNil)))))))
theorem d_sure_pair {P : Program} {w : World} {K : PySem.W.Frag} {mg : Str → Option Value} {base : Heap} {k : Nat} (bl : Blt mg) (h_sure_tree : Has P w K mg base "sure_tree" 1 k (F_sure_tree)) (h_leaves_in : Has P w K mg base "leaves_in" 1 k (F_leaves_in)) (cdv : Value) (A : Around) (outer : List Env) (s : Shared) (H : Hp) (E : XK) (f : Addr) (B : Bd (cxOf (L2.CX P w) P w K mg base ["one", "other", "near", "far"] "sure_pair" (defScope st_sure_pair) f cdv A outer s H E) (fun c d _ H => E c d H) k) :
    PSs (cxOf (L2.CX P w) P w K mg base ["one", "other", "near", "far"] "sure_pair" (defScope st_sure_pair) f cdv A outer s H E) (defBody st_sure_pair) (tS K (fun c d _ H => E c d H) (m_sure_pair )) :=
  have hr := B.hr
  have hu := Room.units B.hr
  have hu5 := room65 B.hr
  have nd := sc_sure_pair.nd
  s_cons (s_set (i := 2) nd rfl (.inl rfl) (q_callH h_sure_tree hr B.tk rfl (a_cons (q_rd 0) (a_nil)) (aCons_len aNil_len)))
 (s_cons (s_set (i := 3) nd rfl (.inl rfl) (q_callH h_sure_tree hr B.tk rfl (a_cons (q_rd 1) (a_nil)) (aCons_len aNil_len)))
 (s_cons (s_if (t_cmp (op_neA hu) neA_ok (nobehind _ (by decide) (by decide)) (q_len rfl bl.b_len (q_lend (q_callH h_leaves_in hr B.tk rfl (a_cons (q_rd 2) (a_nil)) (aCons_len aNil_len)))) (q_len rfl bl.b_len (q_lend (q_callH h_leaves_in hr B.tk rfl (a_cons (q_rd 3) (a_nil)) (aCons_len aNil_len))))) (s_one (s_no)) (s_nil))
 (s_one (s_ret (q_tup (a_cons (q_rd 2) (a_cons (q_rd 3) (a_nil))))))))

abbrev st_reaches : Stmt := topS 26
theorem sc_reaches : FnScope ["tree"] ["tree"] (defScope st_reaches) := ⟨rfl, rfl, rfl, by decide +kernel, rfl, by decide +kernel, by decide +kernel⟩
def m_reaches : MS := sRet (mCall (F_reach_in) (aCons (mCall (F_sure_tree) (aCons (rd 0) (aNil))) (aNil)))
theorem d_reaches {P : Program} {w : World} {K : PySem.W.Frag} {mg : Str → Option Value} {base : Heap} {k : Nat} (bl : Blt mg) (h_reach_in : Has P w K mg base "reach_in" 1 k (F_reach_in)) (h_sure_tree : Has P w K mg base "sure_tree" 1 k (F_sure_tree)) (cdv : Value) (A : Around) (outer : List Env) (s : Shared) (H : Hp) (E : XK) (f : Addr) (B : Bd (cxOf (L2.CX P w) P w K mg base ["tree"] "reaches" (defScope st_reaches) f cdv A outer s H E) (fun c d _ H => E c d H) k) :
    PSs (cxOf (L2.CX P w) P w K mg base ["tree"] "reaches" (defScope st_reaches) f cdv A outer s H E) (defBody st_reaches) (tS K (fun c d _ H => E c d H) (m_reaches )) :=
  have hr := B.hr
  have hu := Room.units B.hr
  have hu5 := room65 B.hr
  have nd := sc_reaches.nd
  s_one (s_ret (q_callH h_reach_in hr B.tk rfl (a_cons (q_callH h_sure_tree hr B.tk rfl (a_cons (q_rd 0) (a_nil)) (aCons_len aNil_len)) (a_nil)) (aCons_len aNil_len)))

abbrev st_tree_of_reaches : Stmt := topS 27
theorem sc_tree_of_reaches : FnScope ["row", "own"] ["row"] (defScope st_tree_of_reaches) := ⟨rfl, rfl, rfl, by decide +kernel, rfl, by decide +kernel, by decide +kernel⟩
def m_tree_of_reaches : MS := sSeq (sSet 1 (mCall (F_tupled) (aCons (rd 0) (aNil)))) (sSeq (sIf (tOrM (tNotM (mT (mCall (F_are_numbers) (aCons (rd 1) (aNil))))) (tNotM (m3b (dOrd (fun i j => decide (i ≤ j)) fun a b => !strLt b a) (dOrd (fun i j => decide (i ≤ j)) fun a b => !strLt b a) (con (.int 1)) (mB1 dLen (lend 1)) (con (.int 60))))) ((fun _ => .no)) (sNx)) (sSeq (sIf (tNotM (mT (mCall (F_is_reach_in) (aCons (rd 1) (aNil))))) ((fun _ => .no)) (sNx)) (sRet (mCall (F_tree_of_row) (aCons (rd 1) (aCons (con (.int 0)) (aCons (m2 dSub (mB1 dLen (lend 1)) (con (.int 1))) (aNil))))))))
theorem d_tree_of_reaches {P : Program} {w : World} {K : PySem.W.Frag} {mg : Str → Option Value} {base : Heap} {k : Nat} (bl : Blt mg) (h_tupled : Has P w K mg base "tupled" 1 k (F_tupled)) (h_are_numbers : Has P w K mg base "are_numbers" 1 k (F_are_numbers)) (h_is_reach_in : Has P w K mg base "is_reach_in" 1 k (F_is_reach_in)) (h_tree_of_row : Has P w K mg base "tree_of_row" 3 k (F_tree_of_row)) (cdv : Value) (A : Around) (outer : List Env) (s : Shared) (H : Hp) (E : XK) (f : Addr) (B : Bd (cxOf (L2.CX P w) P w K mg base ["row", "own"] "tree_of_reaches" (defScope st_tree_of_reaches) f cdv A outer s H E) (fun c d _ H => E c d H) k) :
    PSs (cxOf (L2.CX P w) P w K mg base ["row", "own"] "tree_of_reaches" (defScope st_tree_of_reaches) f cdv A outer s H E) (defBody st_tree_of_reaches) (tS K (fun c d _ H => E c d H) (m_tree_of_reaches )) :=
  have hr := B.hr
  have hu := Room.units B.hr
  have hu5 := room65 B.hr
  have nd := sc_tree_of_reaches.nd
  s_cons (s_set (i := 1) nd rfl (.inl rfl) (q_callH h_tupled hr B.tk rfl (a_cons (q_rd 0) (a_nil)) (aCons_len aNil_len)))
 (s_cons (s_if (PW.pt (t_or (t_not (t_val (q_callH h_are_numbers hr B.tk rfl (a_cons (q_rd 1) (a_nil)) (aCons_len aNil_len)))) (t_or1 (t_not (t_chain op_leA (ord_ok _ _) op_leA (ord_ok _ _) (q_int) (q_len rfl bl.b_len (q_lendN 1)) (q_gintE rfl bl.g_MOST_LEAVES)))))) (s_one (s_no)) (s_nil))
 (s_cons (s_if (t_not (t_val (q_callH h_is_reach_in hr B.tk rfl (a_cons (q_rd 1) (a_nil)) (aCons_len aNil_len)))) (s_one (s_no)) (s_nil))
 (s_one (s_ret (q_callH h_tree_of_row hr B.tk rfl (a_cons (q_rd 1) (a_cons (q_int) (a_cons (q_sub (q_len rfl bl.b_len (q_lendN 1)) (q_int)) (a_nil)))) (aCons_len (aCons_len (aCons_len aNil_len))))))))

abbrev st_goes_right : Stmt := topS 28
theorem sc_goes_right : FnScope ["one", "other", "near", "far"] ["one", "other"] (defScope st_goes_right) := ⟨rfl, rfl, rfl, by decide +kernel, rfl, by decide +kernel, by decide +kernel⟩
def m_goes_right : MS := sSeq (sAsg (gT 2 (gCons' (gN 2) (gCons' (gN 3) (gNil')))) (mCall (F_sure_pair) (aCons (rd 0) (aCons (rd 1) (aNil))))) (sRet (mCall (F_is_below) (aCons (mCall (F_reach_in) (aCons (rd 2) (aNil))) (aCons (mCall (F_reach_in) (aCons (rd 3) (aNil))) (aNil)))))
theorem d_goes_right {P : Program} {w : World} {K : PySem.W.Frag} {mg : Str → Option Value} {base : Heap} {k : Nat} (bl : Blt mg) (h_sure_pair : Has P w K mg base "sure_pair" 2 k (F_sure_pair)) (h_is_below : Has P w K mg base "is_below" 2 k (F_is_below)) (h_reach_in : Has P w K mg base "reach_in" 1 k (F_reach_in)) (cdv : Value) (A : Around) (outer : List Env) (s : Shared) (H : Hp) (E : XK) (f : Addr) (B : Bd (cxOf (L2.CX P w) P w K mg base ["one", "other", "near", "far"] "goes_right" (defScope st_goes_right) f cdv A outer s H E) (fun c d _ H => E c d H) k) :
    PSs (cxOf (L2.CX P w) P w K mg base ["one", "other", "near", "far"] "goes_right" (defScope st_goes_right) f cdv A outer s H E) (defBody st_goes_right) (tS K (fun c d _ H => E c d H) (m_goes_right )) :=
  have hr := B.hr
  have hu := Room.units B.hr
  have hu5 := room65 B.hr
  have nd := sc_goes_right.nd
  s_cons (s_asg (q_callH h_sure_pair hr B.tk rfl (a_cons (q_rd 0) (a_cons (q_rd 1) (a_nil))) (aCons_len (aCons_len aNil_len))) (g_tup rfl (g_cons (g_name (i := 2) nd rfl (.inl rfl)) (g_cons (g_name (i := 3) nd rfl (.inl rfl)) (g_nil)))))
 (s_one (s_ret (q_callH h_is_below hr B.tk rfl (a_cons (q_callH h_reach_in hr B.tk rfl (a_cons (q_rd 2) (a_nil)) (aCons_len aNil_len)) (a_cons (q_callH h_reach_in hr B.tk rfl (a_cons (q_rd 3) (a_nil)) (aCons_len aNil_len)) (a_nil))) (aCons_len (aCons_len aNil_len)))))

abbrev st_right_below : Stmt := topS 29
theorem sc_right_below : FnScope ["one", "other", "near", "far"] ["one", "other"] (defScope st_right_below) := ⟨rfl, rfl, rfl, by decide +kernel, rfl, by decide +kernel, by decide +kernel⟩
def m_right_below : MS := sSeq (sAsg (gT 2 (gCons' (gN 2) (gCons' (gN 3) (gNil')))) (mCall (F_sure_pair) (aCons (rd 0) (aCons (rd 1) (aNil))))) (sRet (mCall (F_lower_in) (aCons (rd 2) (aCons (rd 3) (aNil)))))
theorem d_right_below {P : Program} {w : World} {K : PySem.W.Frag} {mg : Str → Option Value} {base : Heap} {k : Nat} (bl : Blt mg) (h_sure_pair : Has P w K mg base "sure_pair" 2 k (F_sure_pair)) (h_lower_in : Has P w K mg base "lower_in" 2 k (F_lower_in)) (cdv : Value) (A : Around) (outer : List Env) (s : Shared) (H : Hp) (E : XK) (f : Addr) (B : Bd (cxOf (L2.CX P w) P w K mg base ["one", "other", "near", "far"] "right_below" (defScope st_right_below) f cdv A outer s H E) (fun c d _ H => E c d H) k) :
    PSs (cxOf (L2.CX P w) P w K mg base ["one", "other", "near", "far"] "right_below" (defScope st_right_below) f cdv A outer s H E) (defBody st_right_below) (tS K (fun c d _ H => E c d H) (m_right_below )) :=
  have hr := B.hr
  have hu := Room.units B.hr
  have hu5 := room65 B.hr
  have nd := sc_right_below.nd
  s_cons (s_asg (q_callH h_sure_pair hr B.tk rfl (a_cons (q_rd 0) (a_cons (q_rd 1) (a_nil))) (aCons_len (aCons_len aNil_len))) (g_tup rfl (g_cons (g_name (i := 2) nd rfl (.inl rfl)) (g_cons (g_name (i := 3) nd rfl (.inl rfl)) (g_nil)))))
 (s_one (s_ret (q_callH h_lower_in hr B.tk rfl (a_cons (q_rd 2) (a_cons (q_rd 3) (a_nil))) (aCons_len (aCons_len aNil_len)))))

abbrev st_right_above : Stmt := topS 30
theorem sc_right_above : FnScope ["one", "other", "many", "near", "far"] ["one", "other"] (defScope st_right_above) := ⟨rfl, rfl, rfl, by decide +kernel, rfl, by decide +kernel, by decide +kernel⟩
def m_right_above : MS := sSeq (sAsg (gT 2 (gCons' (gN 3) (gCons' (gN 4) (gNil')))) (mCall (F_sure_pair) (aCons (rd 0) (aCons (rd 1) (aNil))))) (sSeq (sSet 2 (mB1 dLen (mCall (F_leaves_in) (aCons (rd 3) (aNil))))) (sRet (mCall (F_flipped) (aCons (mCall (F_lower_in) (aCons (mCall (F_flipped) (aCons (rd 3) (aCons (rd 2) (aNil)))) (aCons (mCall (F_flipped) (aCons (rd 4) (aCons (rd 2) (aNil)))) (aNil)))) (aCons (rd 2) (aNil))))))
theorem d_right_above {P : Program} {w : World} {K : PySem.W.Frag} {mg : Str → Option Value} {base : Heap} {k : Nat} (bl : Blt mg) (h_sure_pair : Has P w K mg base "sure_pair" 2 k (F_sure_pair)) (h_leaves_in : Has P w K mg base "leaves_in" 1 k (F_leaves_in)) (h_flipped : Has P w K mg base "flipped" 2 k (F_flipped)) (h_lower_in : Has P w K mg base "lower_in" 2 k (F_lower_in)) (cdv : Value) (A : Around) (outer : List Env) (s : Shared) (H : Hp) (E : XK) (f : Addr) (B : Bd (cxOf (L2.CX P w) P w K mg base ["one", "other", "many", "near", "far"] "right_above" (defScope st_right_above) f cdv A outer s H E) (fun c d _ H => E c d H) k) :
    PSs (cxOf (L2.CX P w) P w K mg base ["one", "other", "many", "near", "far"] "right_above" (defScope st_right_above) f cdv A outer s H E) (defBody st_right_above) (tS K (fun c d _ H => E c d H) (m_right_above )) :=
  have hr := B.hr
  have hu := Room.units B.hr
  have hu5 := room65 B.hr
  have nd := sc_right_above.nd
  s_cons (s_asg (q_callH h_sure_pair hr B.tk rfl (a_cons (q_rd 0) (a_cons (q_rd 1) (a_nil))) (aCons_len (aCons_len aNil_len))) (g_tup rfl (g_cons (g_name (i := 3) nd rfl (.inl rfl)) (g_cons (g_name (i := 4) nd rfl (.inl rfl)) (g_nil)))))
 (s_cons (s_set (i := 2) nd rfl (.inl rfl) (q_len rfl bl.b_len (q_lend (q_callH h_leaves_in hr B.tk rfl (a_cons (q_rd 3) (a_nil)) (aCons_len aNil_len)))))
 (s_one (s_ret (q_callH h_flipped hr B.tk rfl (a_cons (q_callH h_lower_in hr B.tk rfl (a_cons (q_callH h_flipped hr B.tk rfl (a_cons (q_rd 3) (a_cons (q_rd 2) (a_nil))) (aCons_len (aCons_len aNil_len))) (a_cons (q_callH h_flipped hr B.tk rfl (a_cons (q_rd 4) (a_cons (q_rd 2) (a_nil))) (aCons_len (aCons_len aNil_len))) (a_nil))) (aCons_len (aCons_len aNil_len))) (a_cons (q_rd 2) (a_nil))) (aCons_len (aCons_len aNil_len))))))

abbrev st__law_box : Stmt := topS 32
theorem sc__law_box : FnScope ["script", "k", "bit_so"] ["script", "k"] (defScope st__law_box) := ⟨rfl, rfl, rfl, by decide +kernel, rfl, by decide +kernel, by decide +kernel⟩
def m__law_box : M (List D) := rSeq (sSet 2 (mIf (m2b (dOrd (fun i j => decide (i < j)) strLt) (rd 1) (mB1 dLen (lend 0))) (mIxN 0 (rd 1)) (con (.int 0)))) (lNew (aCons (m2 dMul (mB1 dAbs (lend 2)) (mB1 dIntS (mB (m2b (dOrd (fun i j => decide (j ≤ i)) fun a b => !strLt a b) (mB1 dAbs (lend 2)) (m2 dPow (con (.int 10)) (con (.int 18))))))) (aCons (m2 dAdd (m2 dAdd (m2 dMod (mB1 dIntS (lend 2)) (con (.int 2305843009213693951))) (m2 dMul (con (.int 39373)) (rd 1))) (con (.int 26309))) (aCons (con (.int 0)) (aNil)))))
theorem d__law_box {P : Program} {w : World} {K : PySem.W.Frag} {mg : Str → Option Value} {base : Heap} {k : Nat} (bl : Blt mg)  (cdv : Value) (A : Around) (outer : List Env) (s : Shared) (H : Hp) (E : XK) (f : Addr) (B : Bd (cxOf (L2.CX P w) P w K mg base ["script", "k", "bit_so"] "_law_box" (defScope st__law_box) f cdv A outer s H E) (fun c d _ H => E c d H) k) :
    PSs (cxOf (L2.CX P w) P w K mg base ["script", "k", "bit_so"] "_law_box" (defScope st__law_box) f cdv A outer s H E) (defBody st__law_box) (tR K (fun c d _ H => E c d H) (m__law_box )) :=
  have hr := B.hr
  have hu := Room.units B.hr
  have hu5 := room65 B.hr
  have nd := sc__law_box.nd
  r_cons (s_set (i := 2) nd rfl (.inl rfl) (q_if (t_cmp op_ltA (ord_ok _ _) (nobehind _ (by decide) (by decide)) (q_rd 1) (q_len rfl bl.b_len (q_lendN 0))) (q_ixN 0 (q_rd 1)) (q_int)))
 (r_one (s_retF (f_lst (a_cons (q_mul (q_abs rfl bl.b_abs (q_lendN 2)) (q_intS rfl bl.b_int (q_lend (q_cmp op_geA (ord_ok _ _) (nobehind _ (by decide) (by decide)) (q_abs rfl bl.b_abs (q_lendN 2)) (q_pow (q_int) (q_int)))))) (a_cons (q_add (q_add (q_mod (q_intS rfl bl.b_int (q_lendN 2)) (q_int)) (q_mul (q_int) (q_rd 1))) (q_int)) (a_cons (q_int) (a_nil)))))))

abbrev st__law_take : Stmt := topS 33
theorem sc__law_take : FnScope ["tin", "below_so", "once_so", "wide_so", "twice_so", "drawn_so"] ["tin", "below_so"] (defScope st__law_take) := ⟨rfl, rfl, rfl, by decide +kernel, rfl, by decide +kernel, by decide +kernel⟩
def m__law_take : MS := sSeq (sIf (m2b (dOrd (fun i j => decide (j < i)) fun a b => strLt b a) (mIxN 0 (con (.int 0))) (con (.int 0))) (sSeq (sSet 5 (m2 dMod (mB1 dIntS (mIxN 0 (con (.int 0)))) (rd 1))) (sSeq (sPutIx 0 (con (.int 0)) (m2 dDiv (mIxN 0 (con (.int 0))) (rd 1))) (sRet (rd 5)))) (sNx)) (sSeq (sPutIx 0 (con (.int 2)) (m2 dAdd (mIxN 0 (con (.int 2))) (con (.int 1)))) (sSeq (sSet 2 (m2 dMod (mB1 dIntS (m2 dMul (m2 dAdd (mIxN 0 (con (.int 1))) (m2 dMul (con (.int 48271)) (mIxN 0 (con (.int 2))))) (m2 dAdd (con (.int 39373)) (mIxN 0 (con (.int 2)))))) (con (.int 2147483647)))) (sSeq (sSet 3 (m2 dAdd (m2 dMod (mB1 dIntS (lend 2)) (con (.int 40009))) (con (.int 7)))) (sSeq (sSet 4 (m2 dMod (mB1 dIntS (m2 dMul (m2 dAdd (m2 dAdd (rd 2) (mIxN 0 (con (.int 2)))) (m2 dDiv (mIxN 0 (con (.int 1))) (con (.int 1000003)))) (rd 3))) (con (.int 2147483629)))) (sRet (m2 dMod (mB1 dIntS (m2 dDiv (m2 dMod (mB1 dIntS (m2 dAdd (m2 dMul (rd 4) (con (.int 48271))) (rd 2))) (con (.int 2147483587))) (con (.int 64)))) (rd 1)))))))
theorem d__law_take {P : Program} {w : World} {K : PySem.W.Frag} {mg : Str → Option Value} {base : Heap} {k : Nat} (bl : Blt mg)  (cdv : Value) (A : Around) (outer : List Env) (s : Shared) (H : Hp) (E : XK) (f : Addr) (B : Bd (cxOf (L2.CX P w) P w K mg base ["tin", "below_so", "once_so", "wide_so", "twice_so", "drawn_so"] "_law_take" (defScope st__law_take) f cdv A outer s H E) (fun c d _ H => E c d H) k) :
    PSs (cxOf (L2.CX P w) P w K mg base ["tin", "below_so", "once_so", "wide_so", "twice_so", "drawn_so"] "_law_take" (defScope st__law_take) f cdv A outer s H E) (defBody st__law_take) (tS K (fun c d _ H => E c d H) (m__law_take )) :=
  have hr := B.hr
  have hu := Room.units B.hr
  have hu5 := room65 B.hr
  have nd := sc__law_take.nd
  s_cons (s_if (t_cmp op_gtA (ord_ok _ _) (nobehind _ (by decide) (by decide)) (q_ixN 0 (q_int)) (q_int)) (s_cons (s_set (i := 5) nd rfl (.inl rfl) (q_mod (q_intS rfl bl.b_int (q_lend (q_ixN 0 (q_int)))) (q_rd 1)))
 (s_cons (s_putIx 0 (q_div (q_ixN 0 (q_int)) (q_rd 1)) (q_int))
 (s_one (s_ret (q_rd 5))))) (s_nil))
 (s_cons (s_putIx 0 (q_add (q_ixN 0 (q_int)) (q_int)) (q_int))
 (s_cons (s_set (i := 2) nd rfl (.inl rfl) (q_mod (q_intS rfl bl.b_int (q_lend (q_mul (q_add (q_ixN 0 (q_int)) (q_mul (q_int) (q_ixN 0 (q_int)))) (q_add (q_int) (q_ixN 0 (q_int)))))) (q_int)))
 (s_cons (s_set (i := 3) nd rfl (.inl rfl) (q_add (q_mod (q_intS rfl bl.b_int (q_lendN 2)) (q_int)) (q_int)))
 (s_cons (s_set (i := 4) nd rfl (.inl rfl) (q_mod (q_intS rfl bl.b_int (q_lend (q_mul (q_add (q_add (q_rd 2) (q_ixN 0 (q_int))) (q_div (q_ixN 0 (q_int)) (q_int))) (q_rd 3)))) (q_int)))
 (s_one (s_ret (q_mod (q_intS rfl bl.b_int (q_lend (q_div (q_mod (q_intS rfl bl.b_int (q_lend (q_add (q_mul (q_rd 4) (q_int)) (q_rd 2)))) (q_int)) (q_int)))) (q_rd 1))))))))

abbrev st__law_cells : Stmt := topS 34
theorem sc__law_cells : FnScope ["script", "most_so", "cells_so", "k", "bit_so", "at_so"] ["script", "most_so"] (defScope st__law_cells) := ⟨rfl, rfl, rfl, by decide +kernel, rfl, by decide +kernel, by decide +kernel⟩
def lp__law_cells_0 : MS := sSeq (sSet 5 (m2 dMod (mB1 dIntS (lend 3)) (rd 1))) (sPutIx 2 (rd 5) (m2 dAdd (mIxN 2 (rd 5)) (m2 dMul (rd 4) (m2 dAdd (rd 3) (con (.int 2))))))
def m__law_cells : MS := sSeq (sSetF 2 (fOr (mB1F dList (mSl (rd 0) (oNo) (oIn (rd 1)))) (lNew (aCons (con (.int 0)) (aNil))))) (sSeq (sFor (iEnM (mSl (rd 0) (oIn (rd 1)) (oIn (con (.int 63))))) (gT 2 (gCons' (gN 3) (gCons' (gN 4) (gNil')))) (lp__law_cells_0 )) (sRet (rd 2)))
theorem d__law_cells {P : Program} {w : World} {K : PySem.W.Frag} {mg : Str → Option Value} {base : Heap} {k : Nat} (bl : Blt mg)  (cdv : Value) (A : Around) (outer : List Env) (s : Shared) (H : Hp) (E : XK) (f : Addr) (B : Bd (cxOf (L2.CX P w) P w K mg base ["script", "most_so", "cells_so", "k", "bit_so", "at_so"] "_law_cells" (defScope st__law_cells) f cdv A outer s H E) (fun c d _ H => E c d H) k) :
    PSs (cxOf (L2.CX P w) P w K mg base ["script", "most_so", "cells_so", "k", "bit_so", "at_so"] "_law_cells" (defScope st__law_cells) f cdv A outer s H E) (defBody st__law_cells) (tS K (fun c d _ H => E c d H) (m__law_cells )) :=
  have hr := B.hr
  have hu := Room.units B.hr
  have hu5 := room65 B.hr
  have nd := sc__law_cells.nd
  s_cons (s_setF (i := 2) nd rfl (.inl rfl) (f_or (f_list rfl bl.b_list (q_lend (q_sl (q_rd 0) (o_no) (o_in (q_rd 1))))) (f_lst (a_cons (q_int) (a_nil)))))
 (s_cons (s_for B.po rfl (i_en rfl bl.b_enumerate (q_sl (q_rd 0) (o_in (q_rd 1)) (o_in (q_int)))) (g_tup rfl (g_cons (g_name (i := 3) nd rfl (.inl rfl)) (g_cons (g_name (i := 4) nd rfl (.inl rfl)) (g_nil))))
 (s_cons (s_set (i := 5) nd rfl (.inl rfl) (q_mod (q_intS rfl bl.b_int (q_lendN 3)) (q_rd 1)))
 (s_one (s_putIx 2 (q_add (q_ixN 2 (q_rd 5)) (q_mul (q_rd 4) (q_add (q_rd 3) (q_int)))) (q_rd 5)))))
 (s_one (s_ret (q_rd 2))))

abbrev st__law_of : Stmt := topS 35
theorem sc__law_of : FnScope ["tin", "goods_so"] ["tin", "goods_so"] (defScope st__law_of) := ⟨rfl, rfl, rfl, by decide +kernel, rfl, by decide +kernel, by decide +kernel⟩
def m__law_of : MS := sRet (mIxN 1 (mCall (F__law_take) (aCons (rd 0) (aCons (mB1 dLen (lend 1)) (aNil)))))
theorem d__law_of {P : Program} {w : World} {K : PySem.W.Frag} {mg : Str → Option Value} {base : Heap} {k : Nat} (bl : Blt mg) (h__law_take : Has P w K mg base "_law_take" 2 k (F__law_take)) (cdv : Value) (A : Around) (outer : List Env) (s : Shared) (H : Hp) (E : XK) (f : Addr) (B : Bd (cxOf (L2.CX P w) P w K mg base ["tin", "goods_so"] "_law_of" (defScope st__law_of) f cdv A outer s H E) (fun c d _ H => E c d H) k) :
    PSs (cxOf (L2.CX P w) P w K mg base ["tin", "goods_so"] "_law_of" (defScope st__law_of) f cdv A outer s H E) (defBody st__law_of) (tS K (fun c d _ H => E c d H) (m__law_of )) :=
  have hr := B.hr
  have hu := Room.units B.hr
  have hu5 := room65 B.hr
  have nd := sc__law_of.nd
  s_one (s_ret (q_ixN 1 (q_callH h__law_take hr B.tk rfl (a_cons (q_rd 0) (a_cons (q_len rfl bl.b_len (q_lendN 1)) (a_nil))) (aCons_len (aCons_len aNil_len)))))

abbrev st__law_mixed : Stmt := topS 36
theorem sc__law_mixed : FnScope ["tin", "matter", "row_so", "bit"] ["tin", "matter"] (defScope st__law_mixed) := ⟨rfl, rfl, rfl, by decide +kernel, rfl, by decide +kernel, by decide +kernel⟩
def cm__law_mixed_0 (rec : Fn) : M (List D) := mComp (iSeq (rd 1)) (gN 3) (mYes) (mCall (rec) (aCons (rd 0) (aCons (rd 3) (aNil)))) [3]
def m__law_mixed (rec : Fn) : MS := sSeq (sIf (tNotM (mT (mB1 (dIsi ["list", "tuple"]) (lend 1)))) (sRet (rd 1)) (sNx)) (sSeq (sSetF 2 (cm__law_mixed_0 rec)) (sRet (mIf (m2b dEq (mCall (F__law_take) (aCons (rd 0) (aCons (con (.int 2)) (aNil)))) (con (.int 0))) (rd 2) (mB1 dTuple (lend 2)))))
theorem d__law_mixed {rec : Fn} {P : Program} {w : World} {K : PySem.W.Frag} {mg : Str → Option Value} {base : Heap} {k : Nat} (bl : Blt mg) (h__law_mixed : Has P w K mg base "_law_mixed" 2 k (rec)) (h__law_take : Has P w K mg base "_law_take" 2 k (F__law_take)) (cdv : Value) (A : Around) (outer : List Env) (s : Shared) (H : Hp) (E : XK) (f : Addr) (B : Bd (cxOf (L2.CX P w) P w K mg base ["tin", "matter", "row_so", "bit"] "_law_mixed" (defScope st__law_mixed) f cdv A outer s H E) (fun c d _ H => E c d H) k) :
    PSs (cxOf (L2.CX P w) P w K mg base ["tin", "matter", "row_so", "bit"] "_law_mixed" (defScope st__law_mixed) f cdv A outer s H E) (defBody st__law_mixed) (tS K (fun c d _ H => E c d H) (m__law_mixed rec)) :=
  have hr := B.hr
  have hu := Room.units B.hr
  have hu5 := room65 B.hr
  have nd := sc__law_mixed.nd
  s_cons (s_if (t_not (t_val (q_isi2 rfl bl.b_isinstance (q_lendN 1) rfl bl.b_list (by decide +kernel) (by decide) rfl bl.b_tuple (by decide +kernel) (by decide)))) (s_one (s_ret (q_rd 1))) (s_nil))
 (s_cons (s_setLc (i := 2) (own := [("bit", 3)]) rfl nd rfl rfl (sw_true rfl rfl rfl (by decide +kernel)) (i_seq (q_rd 1)) (blkOk_by (N := ["tin", "matter", "row_so", "bit"]) (sc := defScope st__law_mixed) (by decide +kernel)) (by decide) (fun _ _ _ _ _ => g_name (i := 3) nd rfl (.inl rfl)) (fun _ _ _ _ _ => ts_nil) (fun _ _ _ _ _ => q_callH h__law_mixed hr takes_none5 rfl (a_cons (q_rd 0) (a_cons (q_rd 3) (a_nil))) (aCons_len (aCons_len aNil_len))))
 (s_one (s_ret (q_if (t_cmp (op_eqA hu) eqA_ok (nobehind _ (by decide) (by decide)) (q_callH h__law_take hr B.tk rfl (a_cons (q_rd 0) (a_cons (q_int) (a_nil))) (aCons_len (aCons_len aNil_len))) (q_int)) (q_rd 2) (q_tuple rfl bl.b_tuple (q_lendN 2))))))

abbrev st__law_same : Stmt := topS 37
theorem sc__law_same : FnScope ["got", "due", "mine", "its"] ["got", "due"] (defScope st__law_same) := ⟨rfl, rfl, rfl, by decide +kernel, rfl, by decide +kernel, by decide +kernel⟩
def cm__law_same_0 (rec : Fn) : M (List D) := mComp (iZpM (rd 0) (rd 1)) (gT 2 (gCons' (gN 2) (gCons' (gN 3) (gNil')))) (mYes) (mCall (rec) (aCons (rd 2) (aCons (rd 3) (aNil)))) [2, 3]
def m__law_same (rec : Fn) : MS := sSeq (sIf (mT (mB1 (dIsi ["list", "tuple"]) (lend 1))) (sSeq (sIf (tOrM (m2b (fun x y => (dEq x y).map (!·)) (mB1 (dIsi ["list"]) (lend 0)) (mB1 (dIsi ["list"]) (lend 1))) (m2b (fun x y => (dEq x y).map (!·)) (mB1 (dIsi ["tuple"]) (lend 0)) (mB1 (dIsi ["tuple"]) (lend 1)))) (sRet (con (.bl false))) (sNx)) (sRet (mAnd (mB (m2b dEq (mB1 dLen (lend 0)) (mB1 dLen (lend 1)))) (mB1 dAll (mLst (cm__law_same_0 rec)))))) (sNx)) (sSeq (sIf (m2b dIsN (rd 1) (con .non)) (sRet (mB (m2b dIsN (rd 0) (con .non)))) (sNx)) (sSeq (sIf (mT (mB1 (dIsi ["bool", "str"]) (lend 1))) (sRet (mAnd (mB (m2b dEq (mB1 (dIsi ["bool"]) (lend 0)) (mB1 (dIsi ["bool"]) (lend 1)))) (mAnd (mB (m2b dEq (mB1 (dIsi ["str"]) (lend 0)) (mB1 (dIsi ["str"]) (lend 1)))) (mB (m2b dEq (rd 0) (rd 1)))))) (sNx)) (sRet (mAnd (mB1 (dIsi ["int"]) (lend 0)) (mAnd (mNot (mB1 (dIsi ["bool"]) (lend 0))) (mB (m2b dEq (rd 0) (rd 1))))))))
theorem d__law_same {rec : Fn} {P : Program} {w : World} {K : PySem.W.Frag} {mg : Str → Option Value} {base : Heap} {k : Nat} (bl : Blt mg) (h__law_same : Has P w K mg base "_law_same" 2 k (rec)) (cdv : Value) (A : Around) (outer : List Env) (s : Shared) (H : Hp) (E : XK) (f : Addr) (B : Bd (cxOf (L2.CX P w) P w K mg base ["got", "due", "mine", "its"] "_law_same" (defScope st__law_same) f cdv A outer s H E) (fun c d _ H => E c d H) k) :
    PSs (cxOf (L2.CX P w) P w K mg base ["got", "due", "mine", "its"] "_law_same" (defScope st__law_same) f cdv A outer s H E) (defBody st__law_same) (tS K (fun c d _ H => E c d H) (m__law_same rec)) :=
  have hr := B.hr
  have hu := Room.units B.hr
  have hu5 := room65 B.hr
  have nd := sc__law_same.nd
  s_cons (s_if (t_val (q_isi2 rfl bl.b_isinstance (q_lendN 1) rfl bl.b_list (by decide +kernel) (by decide) rfl bl.b_tuple (by decide +kernel) (by decide))) (s_cons (s_if (PW.pt (t_or (t_cmp (op_neA hu) neA_ok (nobehind _ (by decide) (by decide)) (q_isi rfl bl.b_isinstance (q_lendN 0) rfl bl.b_list (by decide +kernel) (by decide)) (q_isi rfl bl.b_isinstance (q_lendN 1) rfl bl.b_list (by decide +kernel) (by decide))) (t_or1 (t_cmp (op_neA hu) neA_ok (nobehind _ (by decide) (by decide)) (q_isi rfl bl.b_isinstance (q_lendN 0) rfl bl.b_tuple (by decide +kernel) (by decide)) (q_isi rfl bl.b_isinstance (q_lendN 1) rfl bl.b_tuple (by decide +kernel) (by decide)))))) (s_one (s_ret (q_bl))) (s_nil))
 (s_one (s_ret (q_and (q_cmp (op_eqA hu) eqA_ok (nobehind _ (by decide) (by decide)) (q_len rfl bl.b_len (q_lendN 0)) (q_len rfl bl.b_len (q_lendN 1))) (q_one (q_all rfl rfl bl.b_all (q_lendF (f_comp (own := [("mine", 2), ("its", 3)]) rfl nd (i_zp rfl bl.b_zip (q_rd 0) (q_rd 1)) (blkOk_by (N := ["got", "due", "mine", "its"]) (sc := defScope st__law_same) (by decide +kernel)) (by decide) (fun _ _ _ _ _ => g_tup rfl (g_cons (g_name (i := 2) nd rfl (.inl rfl)) (g_cons (g_name (i := 3) nd rfl (.inl rfl)) (g_nil)))) (fun _ _ _ _ _ => ts_nil) (fun _ _ _ _ _ => q_callH h__law_same hr takes_none5 rfl (a_cons (q_rd 2) (a_cons (q_rd 3) (a_nil))) (aCons_len (aCons_len aNil_len))))))))))) (s_nil))
 (s_cons (s_if (t_cmp op_isN isN_okB (nobehind _ (by decide) (by decide)) (q_rd 1) (q_non)) (s_one (s_ret (q_cmp op_isN isN_okB (nobehind _ (by decide) (by decide)) (q_rd 0) (q_non)))) (s_nil))
 (s_cons (s_if (t_val (q_isi2 rfl bl.b_isinstance (q_lendN 1) rfl bl.b_bool (by decide +kernel) (by decide) rfl bl.b_str (by decide +kernel) (by decide))) (s_one (s_ret (q_and (q_cmp (op_eqA hu) eqA_ok (nobehind _ (by decide) (by decide)) (q_isi rfl bl.b_isinstance (q_lendN 0) rfl bl.b_bool (by decide +kernel) (by decide)) (q_isi rfl bl.b_isinstance (q_lendN 1) rfl bl.b_bool (by decide +kernel) (by decide))) (q_and (q_cmp (op_eqA hu) eqA_ok (nobehind _ (by decide) (by decide)) (q_isi rfl bl.b_isinstance (q_lendN 0) rfl bl.b_str (by decide +kernel) (by decide)) (q_isi rfl bl.b_isinstance (q_lendN 1) rfl bl.b_str (by decide +kernel) (by decide))) (q_one (q_cmp (op_eqA hu) eqA_ok (nobehind _ (by decide) (by decide)) (q_rd 0) (q_rd 1))))))) (s_nil))
 (s_one (s_ret (q_and (q_isi rfl bl.b_isinstance (q_lendN 0) rfl bl.b_int (by decide +kernel) (by decide)) (q_and (q_not (q_isi rfl bl.b_isinstance (q_lendN 0) rfl bl.b_bool (by decide +kernel) (by decide))) (q_one (q_cmp (op_eqA hu) eqA_ok (nobehind _ (by decide) (by decide)) (q_rd 0) (q_rd 1)))))))))

abbrev st__law_tree : Stmt := topS 38
theorem sc__law_tree : FnScope ["tin", "first_so", "many_so", "k"] ["tin", "first_so", "many_so"] (defScope st__law_tree) := ⟨rfl, rfl, rfl, by decide +kernel, rfl, by decide +kernel, by decide +kernel⟩
def m__law_tree (rec : Fn) : MS := sSeq (sIf (m2b dEq (rd 2) (con (.int 1))) (sRet (rd 1)) (sNx)) (sSeq (sSet 3 (m2 dAdd (con (.int 1)) (mCall (F__law_take) (aCons (rd 0) (aCons (m2 dSub (rd 2) (con (.int 1))) (aNil)))))) (sRet (mTup (aCons (mCall (rec) (aCons (rd 0) (aCons (rd 1) (aCons (rd 3) (aNil))))) (aCons (mCall (rec) (aCons (rd 0) (aCons (m2 dAdd (rd 1) (rd 3)) (aCons (m2 dSub (rd 2) (rd 3)) (aNil))))) (aNil))))))
theorem d__law_tree {rec : Fn} {P : Program} {w : World} {K : PySem.W.Frag} {mg : Str → Option Value} {base : Heap} {k : Nat} (bl : Blt mg) (h__law_take : Has P w K mg base "_law_take" 2 k (F__law_take)) (h__law_tree : Has P w K mg base "_law_tree" 3 k (rec)) (cdv : Value) (A : Around) (outer : List Env) (s : Shared) (H : Hp) (E : XK) (f : Addr) (B : Bd (cxOf (L2.CX P w) P w K mg base ["tin", "first_so", "many_so", "k"] "_law_tree" (defScope st__law_tree) f cdv A outer s H E) (fun c d _ H => E c d H) k) :
    PSs (cxOf (L2.CX P w) P w K mg base ["tin", "first_so", "many_so", "k"] "_law_tree" (defScope st__law_tree) f cdv A outer s H E) (defBody st__law_tree) (tS K (fun c d _ H => E c d H) (m__law_tree rec)) :=
  have hr := B.hr
  have hu := Room.units B.hr
  have hu5 := room65 B.hr
  have nd := sc__law_tree.nd
  s_cons (s_if (t_cmp (op_eqA hu) eqA_ok (nobehind _ (by decide) (by decide)) (q_rd 2) (q_int)) (s_one (s_ret (q_rd 1))) (s_nil))
 (s_cons (s_set (i := 3) nd rfl (.inl rfl) (q_add (q_int) (q_callH h__law_take hr B.tk rfl (a_cons (q_rd 0) (a_cons (q_sub (q_rd 2) (q_int)) (a_nil))) (aCons_len (aCons_len aNil_len)))))
 (s_one (s_ret (q_tup (a_cons (q_callH h__law_tree hr B.tk rfl (a_cons (q_rd 0) (a_cons (q_rd 1) (a_cons (q_rd 3) (a_nil)))) (aCons_len (aCons_len (aCons_len aNil_len)))) (a_cons (q_callH h__law_tree hr B.tk rfl (a_cons (q_rd 0) (a_cons (q_add (q_rd 1) (q_rd 3)) (a_cons (q_sub (q_rd 2) (q_rd 3)) (a_nil)))) (aCons_len (aCons_len (aCons_len aNil_len)))) (a_nil)))))))

abbrev st__law_all_trees : Stmt := topS 39
theorem sc__law_all_trees : FnScope ["first_so", "many_so", "found", "k", "own", "lefts_so", "rights_so", "its"] ["first_so", "many_so"] (defScope st__law_all_trees) := ⟨rfl, rfl, rfl, by decide +kernel, rfl, by decide +kernel, by decide +kernel⟩
def cm__law_all_trees_0 (rec : Fn) : M (List D) := mComp (iSeq (rd 6)) (gN 7) (mYes) (mTup (aCons (rd 4) (aCons (rd 7) (aNil)))) [7]
def lp__law_all_trees_1 (rec : Fn) : MS := sDrop (mExt 2 (mLst (cm__law_all_trees_0 rec)))
def lp__law_all_trees_2 (rec : Fn) : MS := sSeq (sParV 5 6 (mVal (mCall (rec) (aCons (rd 0) (aCons (rd 3) (aNil))))) (mVal (mCall (rec) (aCons (m2 dAdd (rd 0) (rd 3)) (aCons (m2 dSub (rd 1) (rd 3)) (aNil)))))) (sFor (iSeq (rd 5)) (gN 4) (lp__law_all_trees_1 rec))
def m__law_all_trees (rec : Fn) : MS := sSeq (sIf (m2b dEq (rd 1) (con (.int 1))) (sRet (fz (lNew (aCons (rd 0) (aNil))))) (sNx)) (sSeq (sSetF 2 (lNew (aNil))) (sSeq (sFor (iRg2 (con (.int 1)) (rd 1)) (gN 3) (lp__law_all_trees_2 rec)) (sRet (rd 2))))
theorem d__law_all_trees {rec : Fn} {P : Program} {w : World} {K : PySem.W.Frag} {mg : Str → Option Value} {base : Heap} {k : Nat} (bl : Blt mg) (h__law_all_trees : Has P w K mg base "_law_all_trees" 2 k (rec)) (cdv : Value) (A : Around) (outer : List Env) (s : Shared) (H : Hp) (E : XK) (f : Addr) (B : Bd (cxOf (L2.CX P w) P w K mg base ["first_so", "many_so", "found", "k", "own", "lefts_so", "rights_so", "its"] "_law_all_trees" (defScope st__law_all_trees) f cdv A outer s H E) (fun c d _ H => E c d H) k) :
    PSs (cxOf (L2.CX P w) P w K mg base ["first_so", "many_so", "found", "k", "own", "lefts_so", "rights_so", "its"] "_law_all_trees" (defScope st__law_all_trees) f cdv A outer s H E) (defBody st__law_all_trees) (tS K (fun c d _ H => E c d H) (m__law_all_trees rec)) :=
  have hr := B.hr
  have hu := Room.units B.hr
  have hu5 := room65 B.hr
  have nd := sc__law_all_trees.nd
  s_cons (s_if (t_cmp (op_eqA hu) eqA_ok (nobehind _ (by decide) (by decide)) (q_rd 1) (q_int)) (s_one (s_ret (q_fz (f_lst (a_cons (q_rd 0) (a_nil)))))) (s_nil))
 (s_cons (s_setF (i := 2) nd rfl (.inl rfl) (f_lst (a_nil)))
 (s_cons (s_for B.po rfl (i_rg2 rfl bl.b_range (q_int) (q_rd 1)) (g_name (i := 3) nd rfl (.inl rfl))
 (s_cons (s_parV (i := 5) (j := 6) rfl nd rfl rfl (by decide) rfl rfl (v_val (q_callH h__law_all_trees hr B.tk rfl (a_cons (q_rd 0) (a_cons (q_rd 3) (a_nil))) (aCons_len (aCons_len aNil_len)))) (v_val (q_callH h__law_all_trees hr B.tk rfl (a_cons (q_add (q_rd 0) (q_rd 3)) (a_cons (q_sub (q_rd 1) (q_rd 3)) (a_nil))) (aCons_len (aCons_len aNil_len)))))
 (s_one (s_for B.po rfl (i_seq (q_rd 5)) (g_name (i := 4) nd rfl (.inr rfl))
 (s_one (s_expr (q_extend 2 (q_lendF (f_comp (own := [("its", 7)]) rfl nd (i_seq (q_rd 6)) (blkOk_by (N := ["first_so", "many_so", "found", "k", "own", "lefts_so", "rights_so", "its"]) (sc := defScope st__law_all_trees) (by decide +kernel)) (by decide) (fun _ _ _ _ _ => g_name (i := 7) nd rfl (.inl rfl)) (fun _ _ _ _ _ => ts_nil) (fun _ _ _ _ _ => q_tup (a_cons (q_rd 4) (a_cons (q_rd 7) (a_nil)))))))))))))
 (s_one (s_ret (q_rd 2)))))

abbrev st__law_leaves : Stmt := topS 40
theorem sc__law_leaves : FnScope ["tree_so"] ["tree_so"] (defScope st__law_leaves) := ⟨rfl, rfl, rfl, by decide +kernel, rfl, by decide +kernel, by decide +kernel⟩
def m__law_leaves (rec : Fn) : MS := sRet (mIf (mT (mB1 (dIsi ["tuple"]) (lend 0))) (m2 dAdd (mCall (rec) (aCons (mIxN 0 (con (.int 0))) (aNil))) (mCall (rec) (aCons (mIxN 0 (con (.int 1))) (aNil)))) (fz (lNew (aCons (rd 0) (aNil)))))
theorem d__law_leaves {rec : Fn} {P : Program} {w : World} {K : PySem.W.Frag} {mg : Str → Option Value} {base : Heap} {k : Nat} (bl : Blt mg) (h__law_leaves : Has P w K mg base "_law_leaves" 1 k (rec)) (cdv : Value) (A : Around) (outer : List Env) (s : Shared) (H : Hp) (E : XK) (f : Addr) (B : Bd (cxOf (L2.CX P w) P w K mg base ["tree_so"] "_law_leaves" (defScope st__law_leaves) f cdv A outer s H E) (fun c d _ H => E c d H) k) :
    PSs (cxOf (L2.CX P w) P w K mg base ["tree_so"] "_law_leaves" (defScope st__law_leaves) f cdv A outer s H E) (defBody st__law_leaves) (tS K (fun c d _ H => E c d H) (m__law_leaves rec)) :=
  have hr := B.hr
  have hu := Room.units B.hr
  have hu5 := room65 B.hr
  have nd := sc__law_leaves.nd
  s_one (s_ret (q_if (t_val (q_isi rfl bl.b_isinstance (q_lendN 0) rfl bl.b_tuple (by decide +kernel) (by decide))) (q_add (q_callH h__law_leaves hr B.tk rfl (a_cons (q_ixN 0 (q_int)) (a_nil)) (aCons_len aNil_len)) (q_callH h__law_leaves hr B.tk rfl (a_cons (q_ixN 0 (q_int)) (a_nil)) (aCons_len aNil_len))) (q_fz (f_lst (a_cons (q_rd 0) (a_nil))))))

abbrev st__law_reach : Stmt := topS 41
theorem sc__law_reach : FnScope ["tree_so", "lap", "found", "open_so", "here", "leaves_so"] ["tree_so"] (defScope st__law_reach) := ⟨rfl, rfl, rfl, by decide +kernel, rfl, by decide +kernel, by decide +kernel⟩
def lp__law_reach_0 : MS := sSeq (sIf (m2N dEq 3 (fz (lNew (aNil)))) ((fun s => .bk s)) (sNx)) (sSeq (sSet 4 (mPop 3)) (sIf (mT (mB1 (dIsi ["tuple"]) (lend 4))) (sSeq (sSet 5 (mCall (F__law_leaves) (aCons (rd 4) (aNil)))) (sSeq (sPutIx 2 (mIxN 5 (con (.int 0))) (m2 dMax2 (mIxN 2 (mIxN 5 (con (.int 0)))) (mIxN 5 (mNeg (con (.int 1)))))) (sDrop (mExt 3 (mLst (lNew (aCons (mIxN 4 (con (.int 0))) (aCons (mIxN 4 (con (.int 1))) (aNil))))))))) (sNx)))
def m__law_reach : MS := sSeq (sParV 2 3 (mNew (mRg1 (mB1 dLen (mCall (F__law_leaves) (aCons (rd 0) (aNil)))))) (mNew (lNew (aCons (rd 0) (aNil))))) (sSeq (sFor (iRg1 (con (.int 200))) (gN 1) (lp__law_reach_0 )) (sRet (mB1 dTuple (lend 2))))
theorem d__law_reach {P : Program} {w : World} {K : PySem.W.Frag} {mg : Str → Option Value} {base : Heap} {k : Nat} (bl : Blt mg) (h__law_leaves : Has P w K mg base "_law_leaves" 1 k (F__law_leaves)) (cdv : Value) (A : Around) (outer : List Env) (s : Shared) (H : Hp) (E : XK) (f : Addr) (B : Bd (cxOf (L2.CX P w) P w K mg base ["tree_so", "lap", "found", "open_so", "here", "leaves_so"] "_law_reach" (defScope st__law_reach) f cdv A outer s H E) (fun c d _ H => E c d H) k) :
    PSs (cxOf (L2.CX P w) P w K mg base ["tree_so", "lap", "found", "open_so", "here", "leaves_so"] "_law_reach" (defScope st__law_reach) f cdv A outer s H E) (defBody st__law_reach) (tS K (fun c d _ H => E c d H) (m__law_reach )) :=
  have hr := B.hr
  have hu := Room.units B.hr
  have hu5 := room65 B.hr
  have nd := sc__law_reach.nd
  s_cons (s_parV (i := 2) (j := 3) rfl nd rfl rfl (by decide) rfl rfl (v_new (f_rg1 rfl rfl bl.b_list rfl bl.b_range (q_len rfl bl.b_len (q_lend (q_callH h__law_leaves hr B.tk rfl (a_cons (q_rd 0) (a_nil)) (aCons_len aNil_len)))))) (v_new (f_lst (a_cons (q_rd 0) (a_nil)))))
 (s_cons (s_for B.po rfl (i_rg1 rfl bl.b_range (q_int)) (g_name (i := 1) nd rfl (.inl rfl))
 (s_cons (s_if (t_cmpN 3 (op_eqA hu) eqL_ok (nobehind _ (by decide) (by decide)) (q_fz (f_lst (a_nil)))) (s_one (s_break)) (s_nil))
 (s_cons (s_set (i := 4) nd rfl (.inl rfl) (q_pop 3))
 (s_one (s_if (t_val (q_isi rfl bl.b_isinstance (q_lendN 4) rfl bl.b_tuple (by decide +kernel) (by decide))) (s_cons (s_set (i := 5) nd rfl (.inl rfl) (q_callH h__law_leaves hr B.tk rfl (a_cons (q_rd 4) (a_nil)) (aCons_len aNil_len)))
 (s_cons (s_putIx 2 (q_max2 rfl rfl bl.b_max (q_ixN 2 (q_ixN 5 (q_int))) (q_ixN 5 (q_neg (q_int)))) (q_ixN 5 (q_int)))
 (s_one (s_expr (q_extend 3 (q_lendF (f_lst (a_cons (q_ixN 4 (q_int)) (a_cons (q_ixN 4 (q_int)) (a_nil)))))))))) (s_nil))))))
 (s_one (s_ret (q_tuple rfl bl.b_tuple (q_lendN 2)))))

abbrev st__law_right : Stmt := topS 42
theorem sc__law_right : FnScope ["tin", "n", "lesser_so", "got", "rows_so", "lows_so", "highs_so", "one", "two", "three", "low_so", "high_so", "near", "far", "own", "row_so", "a", "b", "c"] ["tin"] (defScope st__law_right) := ⟨rfl, rfl, rfl, by decide +kernel, rfl, by decide +kernel, by decide +kernel⟩
def cm__law_right_0 : M (List D) := mComp (iZpM (mCall (F__law_reach) (aCons (rd 7) (aNil))) (mCall (F__law_reach) (aCons (rd 8) (aNil)))) (gT 2 (gCons' (gN 16) (gCons' (gN 17) (gNil')))) (mYes) (m2 dMin2 (rd 16) (rd 17)) [16, 17]
def cm__law_right_1 : M (List D) := mComp (iSeq (mCall (F__law_all_trees) (aCons (con (.int 0)) (aCons (rd 1) (aNil))))) (gN 14) (mYes) (mTup (aCons (rd 14) (aCons (mCall (F__law_reach) (aCons (rd 14) (aNil))) (aNil)))) [14]
def cm__law_right_2 : M (List D) := mComp (iZ3M (rd 15) (rd 12) (rd 13)) (gT 3 (gCons' (gN 16) (gCons' (gN 17) (gCons' (gN 18) (gNil'))))) (tOrM (m2b (dOrd (fun i j => decide (j < i)) fun a b => strLt b a) (rd 16) (rd 17)) (m2b (dOrd (fun i j => decide (j < i)) fun a b => strLt b a) (rd 16) (rd 18))) (con (.int 1)) [16, 17, 18]
def cm__law_right_3 : M (List D) := mComp (iSeq (rd 4)) (gT 2 (gCons' (gN 14) (gCons' (gN 15) (gNil')))) (m2b dEq (fz (cm__law_right_2 )) (fz (lNew (aNil)))) (rd 14) [14, 15]
def cm__law_right_4 : M (List D) := mComp (iZ3M (rd 15) (rd 12) (rd 13)) (gT 3 (gCons' (gN 16) (gCons' (gN 17) (gCons' (gN 18) (gNil'))))) (tOrM (m2b (dOrd (fun i j => decide (i < j)) strLt) (rd 16) (rd 17)) (m2b (dOrd (fun i j => decide (i < j)) strLt) (rd 16) (rd 18))) (con (.int 1)) [16, 17, 18]
def cm__law_right_5 : M (List D) := mComp (iSeq (rd 4)) (gT 2 (gCons' (gN 14) (gCons' (gN 15) (gNil')))) (m2b dEq (fz (cm__law_right_4 )) (fz (lNew (aNil)))) (rd 14) [14, 15]
def cm__law_right_6 : M (List D) := mComp (iSeq (rd 6)) (gN 14) (tNotM (mT (mCall (F_goes_right) (aCons (rd 11) (aCons (rd 14) (aNil)))))) (rd 14) [14]
def cm__law_right_7 : M (List D) := mComp (iSeq (rd 5)) (gN 14) (tNotM (mT (mCall (F_goes_right) (aCons (rd 14) (aCons (rd 10) (aNil)))))) (rd 14) [14]
def m__law_right : MS := sSeq (sSet 1 (m2 dAdd (con (.int 1)) (mCall (F__law_take) (aCons (rd 0) (aCons (mCall (F__law_of) (aCons (rd 0) (aCons (fz (lNew (aCons (con (.int 6)) (aCons (con (.int 6)) (aCons (con (.int 30)) (aNil)))))) (aNil)))) (aNil)))))) (sSeq (sPar3V 7 8 9 (mVal (mCall (F__law_tree) (aCons (rd 0) (aCons (con (.int 0)) (aCons (rd 1) (aNil)))))) (mVal (mCall (F__law_tree) (aCons (rd 0) (aCons (con (.int 0)) (aCons (rd 1) (aNil)))))) (mVal (mCall (F__law_tree) (aCons (rd 0) (aCons (con (.int 0)) (aCons (rd 1) (aNil))))))) (sSeq (sAsg (gT 2 (gCons' (gN 10) (gCons' (gN 11) (gNil')))) (mTup (aCons (mCall (F_right_below) (aCons (mCall (F__law_mixed) (aCons (rd 0) (aCons (rd 7) (aNil)))) (aCons (rd 8) (aNil)))) (aCons (mCall (F_right_above) (aCons (rd 7) (aCons (mCall (F__law_mixed) (aCons (rd 0) (aCons (rd 8) (aNil)))) (aNil)))) (aNil))))) (sSeq (sSet 2 (mB1 dTuple (mLst (cm__law_right_0 )))) (sSeq (sSetF 3 (lNew (aCons (mCall (F_reaches) (aCons (rd 10) (aNil))) (aCons (mCall (F_tree_of_reaches) (aCons (rd 2) (aNil))) (aCons (mCall (F_right_below) (aCons (rd 8) (aCons (rd 7) (aNil)))) (aCons (mCall (F_right_above) (aCons (rd 8) (aCons (rd 7) (aNil)))) (aCons (mCall (F_turned_tree) (aCons (mCall (F_right_below) (aCons (mCall (F_turned_tree) (aCons (rd 7) (aNil))) (aCons (mCall (F_turned_tree) (aCons (rd 8) (aNil))) (aNil)))) (aNil))) (aNil)))))))) (sSeq (sIf (tNotM (mT (mCall (F__law_same) (aCons (rd 3) (aCons (fz (lNew (aCons (rd 2) (aCons (rd 10) (aCons (rd 10) (aCons (rd 11) (aCons (rd 11) (aNil)))))))) (aNil)))))) (sRet (con (.bl false))) (sNx)) (sSeq (sSetF 3 (lNew (aCons (mCall (F_goes_right) (aCons (rd 10) (aCons (rd 7) (aNil)))) (aCons (mCall (F_goes_right) (aCons (rd 10) (aCons (rd 8) (aNil)))) (aCons (mCall (F_goes_right) (aCons (rd 7) (aCons (rd 11) (aNil)))) (aCons (mCall (F_goes_right) (aCons (rd 8) (aCons (rd 11) (aNil)))) (aCons (mCall (F_right_below) (aCons (rd 7) (aCons (rd 7) (aNil)))) (aCons (mCall (F_right_above) (aCons (rd 7) (aCons (rd 7) (aNil)))) (aCons (mCall (F_right_below) (aCons (rd 7) (aCons (rd 11) (aNil)))) (aCons (mCall (F_right_above) (aCons (rd 7) (aCons (rd 10) (aNil)))) (aNil))))))))))) (sSeq (sIf (tNotM (mT (mCall (F__law_same) (aCons (rd 3) (aCons (fz (lNew (aCons (con (.bl true)) (aCons (con (.bl true)) (aCons (con (.bl true)) (aCons (con (.bl true)) (aCons (rd 7) (aCons (rd 7) (aCons (rd 7) (aCons (rd 7) (aNil))))))))))) (aNil)))))) (sRet (con (.bl false))) (sNx)) (sSeq (sIf (tOrM (m2b (fun x y => (dEq x y).map (!·)) (mB (m2b dEq (rd 10) (rd 7))) (mCall (F_goes_right) (aCons (rd 7) (aCons (rd 8) (aNil))))) (m2b (fun x y => (dEq x y).map (!·)) (mB (m2b dEq (rd 11) (rd 8))) (mCall (F_goes_right) (aCons (rd 7) (aCons (rd 8) (aNil)))))) (sRet (con (.bl false))) (sNx)) (sSeq (sSetF 3 (lNew (aCons (mCall (F_right_below) (aCons (mCall (F_right_below) (aCons (rd 7) (aCons (rd 8) (aNil)))) (aCons (rd 9) (aNil)))) (aCons (mCall (F_right_above) (aCons (mCall (F_right_above) (aCons (rd 7) (aCons (rd 8) (aNil)))) (aCons (rd 9) (aNil)))) (aNil))))) (sSeq (sIf (tNotM (mT (mCall (F__law_same) (aCons (rd 3) (aCons (fz (lNew (aCons (mCall (F_right_below) (aCons (rd 7) (aCons (mCall (F_right_below) (aCons (rd 8) (aCons (rd 9) (aNil)))) (aNil)))) (aCons (mCall (F_right_above) (aCons (rd 7) (aCons (mCall (F_right_above) (aCons (rd 8) (aCons (rd 9) (aNil)))) (aNil)))) (aNil))))) (aNil)))))) (sRet (con (.bl false))) (sNx)) (sSeq (sIf (m2b (dOrd (fun i j => decide (j < i)) fun a b => strLt b a) (rd 1) (con (.int 6))) (sRet (con (.bl true))) (sNx)) (sSeq (sSetF 4 (cm__law_right_1 )) (sSeq (sAsg (gT 2 (gCons' (gN 12) (gCons' (gN 13) (gNil')))) (mTup (aCons (mCall (F__law_reach) (aCons (rd 7) (aNil))) (aCons (mCall (F__law_reach) (aCons (rd 8) (aNil))) (aNil))))) (sSeq (sSetF 5 (cm__law_right_3 )) (sSeq (sSetF 6 (cm__law_right_5 )) (sSeq (sIf (tOrM (m2b (fun x y => (dIn x y).map fun b => if true then !b else b) (rd 10) (rd 5)) (m2b (fun x y => (dIn x y).map fun b => if true then !b else b) (rd 11) (rd 6))) (sRet (con (.bl false))) (sNx)) (sRet (mAnd (mB (m2b dEq (fz (cm__law_right_7 )) (fz (lNew (aNil))))) (mB (m2b dEq (fz (cm__law_right_6 )) (fz (lNew (aNil)))))))))))))))))))))))
theorem d__law_right {P : Program} {w : World} {K : PySem.W.Frag} {mg : Str → Option Value} {base : Heap} {k : Nat} (bl : Blt mg) (h__law_take : Has P w K mg base "_law_take" 2 k (F__law_take)) (h__law_of : Has P w K mg base "_law_of" 2 k (F__law_of)) (h__law_tree : Has P w K mg base "_law_tree" 3 k (F__law_tree)) (h_right_above : Has P w K mg base "right_above" 2 k (F_right_above)) (h__law_mixed : Has P w K mg base "_law_mixed" 2 k (F__law_mixed)) (h_right_below : Has P w K mg base "right_below" 2 k (F_right_below)) (h__law_reach : Has P w K mg base "_law_reach" 1 k (F__law_reach)) (h_turned_tree : Has P w K mg base "turned_tree" 1 k (F_turned_tree)) (h_tree_of_reaches : Has P w K mg base "tree_of_reaches" 1 k (F_tree_of_reaches)) (h_reaches : Has P w K mg base "reaches" 1 k (F_reaches)) (h__law_same : Has P w K mg base "_law_same" 2 k (F__law_same)) (h_goes_right : Has P w K mg base "goes_right" 2 k (F_goes_right)) (h__law_all_trees : Has P w K mg base "_law_all_trees" 2 k (F__law_all_trees)) (cdv : Value) (A : Around) (outer : List Env) (s : Shared) (H : Hp) (E : XK) (f : Addr) (B : Bd (cxOf (L2.CX P w) P w K mg base ["tin", "n", "lesser_so", "got", "rows_so", "lows_so", "highs_so", "one", "two", "three", "low_so", "high_so", "near", "far", "own", "row_so", "a", "b", "c"] "_law_right" (defScope st__law_right) f cdv A outer s H E) (fun c d _ H => E c d H) k) :
    PSs (cxOf (L2.CX P w) P w K mg base ["tin", "n", "lesser_so", "got", "rows_so", "lows_so", "highs_so", "one", "two", "three", "low_so", "high_so", "near", "far", "own", "row_so", "a", "b", "c"] "_law_right" (defScope st__law_right) f cdv A outer s H E) (defBody st__law_right) (tS K (fun c d _ H => E c d H) (m__law_right )) :=
  have hr := B.hr
  have hu := Room.units B.hr
  have hu5 := room65 B.hr
  have nd := sc__law_right.nd
  s_cons (s_set (i := 1) nd rfl (.inl rfl) (q_add (q_int) (q_callH h__law_take hr B.tk rfl (a_cons (q_rd 0) (a_cons (q_callH h__law_of hr B.tk rfl (a_cons (q_rd 0) (a_cons (q_fz (f_lst (a_cons (q_int) (a_cons (q_int) (a_cons (q_int) (a_nil)))))) (a_nil))) (aCons_len (aCons_len aNil_len))) (a_nil))) (aCons_len (aCons_len aNil_len)))))
 (s_cons (s_par3V (i := 7) (j := 8) (l := 9) rfl nd rfl rfl rfl (by decide) (by decide) (by decide) rfl rfl rfl (v_val (q_callH h__law_tree hr B.tk rfl (a_cons (q_rd 0) (a_cons (q_int) (a_cons (q_rd 1) (a_nil)))) (aCons_len (aCons_len (aCons_len aNil_len))))) (v_val (q_callH h__law_tree hr B.tk rfl (a_cons (q_rd 0) (a_cons (q_int) (a_cons (q_rd 1) (a_nil)))) (aCons_len (aCons_len (aCons_len aNil_len))))) (v_val (q_callH h__law_tree hr B.tk rfl (a_cons (q_rd 0) (a_cons (q_int) (a_cons (q_rd 1) (a_nil)))) (aCons_len (aCons_len (aCons_len aNil_len))))))
 (s_cons (s_asg (q_tup (a_cons (q_callH h_right_below hr B.tk rfl (a_cons (q_callH h__law_mixed hr B.tk rfl (a_cons (q_rd 0) (a_cons (q_rd 7) (a_nil))) (aCons_len (aCons_len aNil_len))) (a_cons (q_rd 8) (a_nil))) (aCons_len (aCons_len aNil_len))) (a_cons (q_callH h_right_above hr B.tk rfl (a_cons (q_rd 7) (a_cons (q_callH h__law_mixed hr B.tk rfl (a_cons (q_rd 0) (a_cons (q_rd 8) (a_nil))) (aCons_len (aCons_len aNil_len))) (a_nil))) (aCons_len (aCons_len aNil_len))) (a_nil)))) (g_tup rfl (g_cons (g_name (i := 10) nd rfl (.inr rfl)) (g_cons (g_name (i := 11) nd rfl (.inr rfl)) (g_nil)))))
 (s_cons (s_set (i := 2) nd rfl (.inl rfl) (q_tuple rfl bl.b_tuple (q_lendF (f_comp (own := [("a", 16), ("b", 17)]) rfl nd (i_zp rfl bl.b_zip (q_callH h__law_reach hr B.tk rfl (a_cons (q_rd 7) (a_nil)) (aCons_len aNil_len)) (q_callH h__law_reach hr B.tk rfl (a_cons (q_rd 8) (a_nil)) (aCons_len aNil_len))) (blkOk_by (N := ["tin", "n", "lesser_so", "got", "rows_so", "lows_so", "highs_so", "one", "two", "three", "low_so", "high_so", "near", "far", "own", "row_so", "a", "b", "c"]) (sc := defScope st__law_right) (by decide +kernel)) (by decide) (fun _ _ _ _ _ => g_tup rfl (g_cons (g_name (i := 16) nd rfl (.inl rfl)) (g_cons (g_name (i := 17) nd rfl (.inl rfl)) (g_nil)))) (fun _ _ _ _ _ => ts_nil) (fun _ _ _ _ _ => q_min2 rfl rfl bl.b_min (q_rd 16) (q_rd 17))))))
 (s_cons (s_setF (i := 3) nd rfl (.inl rfl) (f_lst (a_cons (q_callH h_reaches hr B.tk rfl (a_cons (q_rd 10) (a_nil)) (aCons_len aNil_len)) (a_cons (q_callH h_tree_of_reaches hr B.tk rfl (a_cons (q_rd 2) (a_nil)) (aCons_len aNil_len)) (a_cons (q_callH h_right_below hr B.tk rfl (a_cons (q_rd 8) (a_cons (q_rd 7) (a_nil))) (aCons_len (aCons_len aNil_len))) (a_cons (q_callH h_right_above hr B.tk rfl (a_cons (q_rd 8) (a_cons (q_rd 7) (a_nil))) (aCons_len (aCons_len aNil_len))) (a_cons (q_callH h_turned_tree hr B.tk rfl (a_cons (q_callH h_right_below hr B.tk rfl (a_cons (q_callH h_turned_tree hr B.tk rfl (a_cons (q_rd 7) (a_nil)) (aCons_len aNil_len)) (a_cons (q_callH h_turned_tree hr B.tk rfl (a_cons (q_rd 8) (a_nil)) (aCons_len aNil_len)) (a_nil))) (aCons_len (aCons_len aNil_len))) (a_nil)) (aCons_len aNil_len)) (a_nil))))))))
 (s_cons (s_if (t_not (t_val (q_callH h__law_same hr B.tk rfl (a_cons (q_rd 3) (a_cons (q_fz (f_lst (a_cons (q_rd 2) (a_cons (q_rd 10) (a_cons (q_rd 10) (a_cons (q_rd 11) (a_cons (q_rd 11) (a_nil)))))))) (a_nil))) (aCons_len (aCons_len aNil_len))))) (s_one (s_ret (q_bl))) (s_nil))
 (s_cons (s_setF (i := 3) nd rfl (.inl rfl) (f_lst (a_cons (q_callH h_goes_right hr B.tk rfl (a_cons (q_rd 10) (a_cons (q_rd 7) (a_nil))) (aCons_len (aCons_len aNil_len))) (a_cons (q_callH h_goes_right hr B.tk rfl (a_cons (q_rd 10) (a_cons (q_rd 8) (a_nil))) (aCons_len (aCons_len aNil_len))) (a_cons (q_callH h_goes_right hr B.tk rfl (a_cons (q_rd 7) (a_cons (q_rd 11) (a_nil))) (aCons_len (aCons_len aNil_len))) (a_cons (q_callH h_goes_right hr B.tk rfl (a_cons (q_rd 8) (a_cons (q_rd 11) (a_nil))) (aCons_len (aCons_len aNil_len))) (a_cons (q_callH h_right_below hr B.tk rfl (a_cons (q_rd 7) (a_cons (q_rd 7) (a_nil))) (aCons_len (aCons_len aNil_len))) (a_cons (q_callH h_right_above hr B.tk rfl (a_cons (q_rd 7) (a_cons (q_rd 7) (a_nil))) (aCons_len (aCons_len aNil_len))) (a_cons (q_callH h_right_below hr B.tk rfl (a_cons (q_rd 7) (a_cons (q_rd 11) (a_nil))) (aCons_len (aCons_len aNil_len))) (a_cons (q_callH h_right_above hr B.tk rfl (a_cons (q_rd 7) (a_cons (q_rd 10) (a_nil))) (aCons_len (aCons_len aNil_len))) (a_nil)))))))))))
 (s_cons (s_if (t_not (t_val (q_callH h__law_same hr B.tk rfl (a_cons (q_rd 3) (a_cons (q_fz (f_lst (a_cons (q_bl) (a_cons (q_bl) (a_cons (q_bl) (a_cons (q_bl) (a_cons (q_rd 7) (a_cons (q_rd 7) (a_cons (q_rd 7) (a_cons (q_rd 7) (a_nil))))))))))) (a_nil))) (aCons_len (aCons_len aNil_len))))) (s_one (s_ret (q_bl))) (s_nil))
 (s_cons (s_if (PW.pt (t_or (t_cmp (op_neA hu) neA_ok (nobehind _ (by decide) (by decide)) (q_cmp (op_eqA hu) eqA_ok (nobehind _ (by decide) (by decide)) (q_rd 10) (q_rd 7)) (q_callH h_goes_right hr B.tk rfl (a_cons (q_rd 7) (a_cons (q_rd 8) (a_nil))) (aCons_len (aCons_len aNil_len)))) (t_or1 (t_cmp (op_neA hu) neA_ok (nobehind _ (by decide) (by decide)) (q_cmp (op_eqA hu) eqA_ok (nobehind _ (by decide) (by decide)) (q_rd 11) (q_rd 8)) (q_callH h_goes_right hr B.tk rfl (a_cons (q_rd 7) (a_cons (q_rd 8) (a_nil))) (aCons_len (aCons_len aNil_len))))))) (s_one (s_ret (q_bl))) (s_nil))
 (s_cons (s_setF (i := 3) nd rfl (.inl rfl) (f_lst (a_cons (q_callH h_right_below hr B.tk rfl (a_cons (q_callH h_right_below hr B.tk rfl (a_cons (q_rd 7) (a_cons (q_rd 8) (a_nil))) (aCons_len (aCons_len aNil_len))) (a_cons (q_rd 9) (a_nil))) (aCons_len (aCons_len aNil_len))) (a_cons (q_callH h_right_above hr B.tk rfl (a_cons (q_callH h_right_above hr B.tk rfl (a_cons (q_rd 7) (a_cons (q_rd 8) (a_nil))) (aCons_len (aCons_len aNil_len))) (a_cons (q_rd 9) (a_nil))) (aCons_len (aCons_len aNil_len))) (a_nil)))))
 (s_cons (s_if (t_not (t_val (q_callH h__law_same hr B.tk rfl (a_cons (q_rd 3) (a_cons (q_fz (f_lst (a_cons (q_callH h_right_below hr B.tk rfl (a_cons (q_rd 7) (a_cons (q_callH h_right_below hr B.tk rfl (a_cons (q_rd 8) (a_cons (q_rd 9) (a_nil))) (aCons_len (aCons_len aNil_len))) (a_nil))) (aCons_len (aCons_len aNil_len))) (a_cons (q_callH h_right_above hr B.tk rfl (a_cons (q_rd 7) (a_cons (q_callH h_right_above hr B.tk rfl (a_cons (q_rd 8) (a_cons (q_rd 9) (a_nil))) (aCons_len (aCons_len aNil_len))) (a_nil))) (aCons_len (aCons_len aNil_len))) (a_nil))))) (a_nil))) (aCons_len (aCons_len aNil_len))))) (s_one (s_ret (q_bl))) (s_nil))
 (s_cons (s_if (t_cmp op_gtA (ord_ok _ _) (nobehind _ (by decide) (by decide)) (q_rd 1) (q_int)) (s_one (s_ret (q_bl))) (s_nil))
 (s_cons (s_setLc (i := 4) (own := [("own", 14)]) rfl nd rfl rfl (sw_true rfl rfl rfl (by decide +kernel)) (i_seq (q_callH h__law_all_trees hr B.tk rfl (a_cons (q_int) (a_cons (q_rd 1) (a_nil))) (aCons_len (aCons_len aNil_len)))) (blkOk_by (N := ["tin", "n", "lesser_so", "got", "rows_so", "lows_so", "highs_so", "one", "two", "three", "low_so", "high_so", "near", "far", "own", "row_so", "a", "b", "c"]) (sc := defScope st__law_right) (by decide +kernel)) (by decide) (fun _ _ _ _ _ => g_name (i := 14) nd rfl (.inl rfl)) (fun _ _ _ _ _ => ts_nil) (fun _ _ _ _ _ => q_tup (a_cons (q_rd 14) (a_cons (q_callH h__law_reach hr takes_none5 rfl (a_cons (q_rd 14) (a_nil)) (aCons_len aNil_len)) (a_nil)))))
 (s_cons (s_asg (q_tup (a_cons (q_callH h__law_reach hr B.tk rfl (a_cons (q_rd 7) (a_nil)) (aCons_len aNil_len)) (a_cons (q_callH h__law_reach hr B.tk rfl (a_cons (q_rd 8) (a_nil)) (aCons_len aNil_len)) (a_nil)))) (g_tup rfl (g_cons (g_name (i := 12) nd rfl (.inr rfl)) (g_cons (g_name (i := 13) nd rfl (.inr rfl)) (g_nil)))))
 (s_cons (s_setLc (i := 5) (own := [("own", 14), ("row_so", 15)]) rfl nd rfl rfl (sw_true rfl rfl rfl (by decide +kernel)) (i_seq (q_rd 4)) (blkOk_by (N := ["tin", "n", "lesser_so", "got", "rows_so", "lows_so", "highs_so", "one", "two", "three", "low_so", "high_so", "near", "far", "own", "row_so", "a", "b", "c"]) (sc := defScope st__law_right) (by decide +kernel)) (by decide) (fun _ _ _ _ _ => g_tup rfl (g_cons (g_name (i := 14) nd rfl (.inl rfl)) (g_cons (g_name (i := 15) nd rfl (.inl rfl)) (g_nil)))) (fun _ _ _ _ _ => ts_one (t_cmp (op_eqA hu) eqA_ok (nobehind _ (by decide) (by decide)) (q_fz (f_comp (own := [("a", 16), ("b", 17), ("c", 18)]) rfl nd (i_z3 rfl bl.b_zip (q_rd 15) (q_rd 12) (q_rd 13)) (blkOk_by rfl) (by decide) (fun _ _ _ _ _ => g_tup rfl (g_cons (g_name (i := 16) nd rfl (.inl rfl)) (g_cons (g_name (i := 17) nd rfl (.inl rfl)) (g_cons (g_name (i := 18) nd rfl (.inl rfl)) (g_nil))))) (fun _ _ _ _ _ => ts_one (PW.pt (t_or (t_cmp op_gtA (ord_ok _ _) (nobehind _ (by decide) (by decide)) (q_rd 16) (q_rd 17)) (t_or1 (t_cmp op_gtA (ord_ok _ _) (nobehind _ (by decide) (by decide)) (q_rd 16) (q_rd 18)))))) (fun _ _ _ _ _ => q_int))) (q_fz (f_lst (a_nil))))) (fun _ _ _ _ _ => q_rd 14))
 (s_cons (s_setLc (i := 6) (own := [("own", 14), ("row_so", 15)]) rfl nd rfl rfl (sw_true rfl rfl rfl (by decide +kernel)) (i_seq (q_rd 4)) (blkOk_by (N := ["tin", "n", "lesser_so", "got", "rows_so", "lows_so", "highs_so", "one", "two", "three", "low_so", "high_so", "near", "far", "own", "row_so", "a", "b", "c"]) (sc := defScope st__law_right) (by decide +kernel)) (by decide) (fun _ _ _ _ _ => g_tup rfl (g_cons (g_name (i := 14) nd rfl (.inl rfl)) (g_cons (g_name (i := 15) nd rfl (.inl rfl)) (g_nil)))) (fun _ _ _ _ _ => ts_one (t_cmp (op_eqA hu) eqA_ok (nobehind _ (by decide) (by decide)) (q_fz (f_comp (own := [("a", 16), ("b", 17), ("c", 18)]) rfl nd (i_z3 rfl bl.b_zip (q_rd 15) (q_rd 12) (q_rd 13)) (blkOk_by rfl) (by decide) (fun _ _ _ _ _ => g_tup rfl (g_cons (g_name (i := 16) nd rfl (.inl rfl)) (g_cons (g_name (i := 17) nd rfl (.inl rfl)) (g_cons (g_name (i := 18) nd rfl (.inl rfl)) (g_nil))))) (fun _ _ _ _ _ => ts_one (PW.pt (t_or (t_cmp op_ltA (ord_ok _ _) (nobehind _ (by decide) (by decide)) (q_rd 16) (q_rd 17)) (t_or1 (t_cmp op_ltA (ord_ok _ _) (nobehind _ (by decide) (by decide)) (q_rd 16) (q_rd 18)))))) (fun _ _ _ _ _ => q_int))) (q_fz (f_lst (a_nil))))) (fun _ _ _ _ _ => q_rd 14))
 (s_cons (s_if (PW.pt (t_or (t_cmp (op_notInA hu5) (inA_ok true) rfl (q_rd 10) (q_rd 5)) (t_or1 (t_cmp (op_notInA hu5) (inA_ok true) rfl (q_rd 11) (q_rd 6))))) (s_one (s_ret (q_bl))) (s_nil))
 (s_one (s_ret (q_and (q_cmp (op_eqA hu) eqA_ok (nobehind _ (by decide) (by decide)) (q_fz (f_comp (own := [("own", 14)]) rfl nd (i_seq (q_rd 5)) (blkOk_by (N := ["tin", "n", "lesser_so", "got", "rows_so", "lows_so", "highs_so", "one", "two", "three", "low_so", "high_so", "near", "far", "own", "row_so", "a", "b", "c"]) (sc := defScope st__law_right) (by decide +kernel)) (by decide) (fun _ _ _ _ _ => g_name (i := 14) nd rfl (.inl rfl)) (fun _ _ _ _ _ => ts_one (t_not (t_val (q_callH h_goes_right hr takes_none5 rfl (a_cons (q_rd 14) (a_cons (q_rd 10) (a_nil))) (aCons_len (aCons_len aNil_len)))))) (fun _ _ _ _ _ => q_rd 14))) (q_fz (f_lst (a_nil)))) (q_one (q_cmp (op_eqA hu) eqA_ok (nobehind _ (by decide) (by decide)) (q_fz (f_comp (own := [("own", 14)]) rfl nd (i_seq (q_rd 6)) (blkOk_by (N := ["tin", "n", "lesser_so", "got", "rows_so", "lows_so", "highs_so", "one", "two", "three", "low_so", "high_so", "near", "far", "own", "row_so", "a", "b", "c"]) (sc := defScope st__law_right) (by decide +kernel)) (by decide) (fun _ _ _ _ _ => g_name (i := 14) nd rfl (.inl rfl)) (fun _ _ _ _ _ => ts_one (t_not (t_val (q_callH h_goes_right hr takes_none5 rfl (a_cons (q_rd 11) (a_cons (q_rd 14) (a_nil))) (aCons_len (aCons_len aNil_len)))))) (fun _ _ _ _ _ => q_rd 14))) (q_fz (f_lst (a_nil))))))))))))))))))))))))

abbrev st_law : Stmt := topS 43
theorem sc_law : FnScope ["script", "tin", "got", "even", "bent", "lap"] ["script"] (defScope st_law) := ⟨rfl, rfl, rfl, by decide +kernel, rfl, by decide +kernel, by decide +kernel⟩
def cm_law_0 : M (List D) := mComp (iRg1 (con (.int 3))) (gN 5) (mYes) (mCall (F__law_right) (aCons (rd 1) (aNil))) [5]
def m_law : MS := sSeq (sBox 1 (B__law_box) (aCons (mCall (F__law_cells) (aCons (rd 0) (aCons (con (.int 1)) (aNil)))) (aCons (con (.int 0)) (aNil)))) (sSeq (sAsg (gT 2 (gCons' (gN 3) (gCons' (gN 4) (gNil')))) (mTup (aCons (mTup (aCons (mTup (aCons (con (.int 0)) (aCons (con (.int 1)) (aNil)))) (aCons (mTup (aCons (con (.int 2)) (aCons (con (.int 3)) (aNil)))) (aNil)))) (aCons (mTup (aCons (mTup (aCons (con (.int 0)) (aCons (mTup (aCons (con (.int 1)) (aCons (con (.int 2)) (aNil)))) (aNil)))) (aCons (con (.int 3)) (aNil)))) (aNil))))) (sSeq (sSetF 2 (lNew (aCons (mCall (F_right_below) (aCons (rd 3) (aCons (rd 4) (aNil)))) (aCons (mCall (F_right_above) (aCons (rd 3) (aCons (rd 4) (aNil)))) (aCons (mCall (F_right_below) (aCons (con (.int 0)) (aCons (con (.int 0)) (aNil)))) (aCons (mCall (F_right_above) (aCons (mTup (aCons (con (.int 0)) (aCons (con (.int 1)) (aNil)))) (aCons (mTup (aCons (con (.int 0)) (aCons (con (.int 1)) (aNil)))) (aNil)))) (aNil))))))) (sSeq (sIf (tNotM (mT (mCall (F__law_same) (aCons (rd 2) (aCons (fz (lNew (aCons (mTup (aCons (mTup (aCons (mTup (aCons (con (.int 0)) (aCons (con (.int 1)) (aNil)))) (aCons (con (.int 2)) (aNil)))) (aCons (con (.int 3)) (aNil)))) (aCons (mTup (aCons (con (.int 0)) (aCons (mTup (aCons (con (.int 1)) (aCons (mTup (aCons (con (.int 2)) (aCons (con (.int 3)) (aNil)))) (aNil)))) (aNil)))) (aCons (con (.int 0)) (aCons (mTup (aCons (con (.int 0)) (aCons (con (.int 1)) (aNil)))) (aNil))))))) (aNil)))))) (sRet (con (.bl false))) (sNx)) (sRet (mB1 dAll (mLst (cm_law_0 )))))))
theorem d_law {P : Program} {w : World} {K : PySem.W.Frag} {mg : Str → Option Value} {base : Heap} {k : Nat} (bl : Blt mg) (h__law_cells : Has P w K mg base "_law_cells" 2 k (F__law_cells)) (h_right_above : Has P w K mg base "right_above" 2 k (F_right_above)) (h_right_below : Has P w K mg base "right_below" 2 k (F_right_below)) (h__law_same : Has P w K mg base "_law_same" 2 k (F__law_same)) (h__law_right : Has P w K mg base "_law_right" 1 k (F__law_right)) (h__law_box : HasB P w K mg base "_law_box" 2 k (B__law_box)) (cdv : Value) (A : Around) (outer : List Env) (s : Shared) (H : Hp) (E : XK) (f : Addr) (B : Bd (cxOf (L2.CX P w) P w K mg base ["script", "tin", "got", "even", "bent", "lap"] "law" (defScope st_law) f cdv A outer s H E) (fun c d _ H => E c d H) k) :
    PSs (cxOf (L2.CX P w) P w K mg base ["script", "tin", "got", "even", "bent", "lap"] "law" (defScope st_law) f cdv A outer s H E) (defBody st_law) (tB K (fun c d _ H => E c d H) (m_law )) :=
  have hr := B.hr
  have hu := Room.units B.hr
  have hu5 := room65 B.hr
  have nd := sc_law.nd
  box_cons (i := 1) h__law_box hr B.tk rfl (a_cons (q_callH h__law_cells hr B.tk rfl (a_cons (q_rd 0) (a_cons (q_int) (a_nil))) (aCons_len (aCons_len aNil_len))) (a_cons (q_int) (a_nil))) (aCons_len (aCons_len aNil_len)) nd rfl (.inr rfl)
 (s_cons (s_asg (q_tup (a_cons (q_tup (a_cons (q_tup (a_cons (q_int) (a_cons (q_int) (a_nil)))) (a_cons (q_tup (a_cons (q_int) (a_cons (q_int) (a_nil)))) (a_nil)))) (a_cons (q_tup (a_cons (q_tup (a_cons (q_int) (a_cons (q_tup (a_cons (q_int) (a_cons (q_int) (a_nil)))) (a_nil)))) (a_cons (q_int) (a_nil)))) (a_nil)))) (g_tup rfl (g_cons (g_name (i := 3) nd rfl (.inl rfl)) (g_cons (g_name (i := 4) nd rfl (.inl rfl)) (g_nil)))))
 (s_cons (s_setF (i := 2) nd rfl (.inl rfl) (f_lst (a_cons (q_callH h_right_below hr B.tk rfl (a_cons (q_rd 3) (a_cons (q_rd 4) (a_nil))) (aCons_len (aCons_len aNil_len))) (a_cons (q_callH h_right_above hr B.tk rfl (a_cons (q_rd 3) (a_cons (q_rd 4) (a_nil))) (aCons_len (aCons_len aNil_len))) (a_cons (q_callH h_right_below hr B.tk rfl (a_cons (q_int) (a_cons (q_int) (a_nil))) (aCons_len (aCons_len aNil_len))) (a_cons (q_callH h_right_above hr B.tk rfl (a_cons (q_tup (a_cons (q_int) (a_cons (q_int) (a_nil)))) (a_cons (q_tup (a_cons (q_int) (a_cons (q_int) (a_nil)))) (a_nil))) (aCons_len (aCons_len aNil_len))) (a_nil)))))))
 (s_cons (s_if (t_not (t_val (q_callH h__law_same hr B.tk rfl (a_cons (q_rd 2) (a_cons (q_fz (f_lst (a_cons (q_tup (a_cons (q_tup (a_cons (q_tup (a_cons (q_int) (a_cons (q_int) (a_nil)))) (a_cons (q_int) (a_nil)))) (a_cons (q_int) (a_nil)))) (a_cons (q_tup (a_cons (q_int) (a_cons (q_tup (a_cons (q_int) (a_cons (q_tup (a_cons (q_int) (a_cons (q_int) (a_nil)))) (a_nil)))) (a_nil)))) (a_cons (q_int) (a_cons (q_tup (a_cons (q_int) (a_cons (q_int) (a_nil)))) (a_nil))))))) (a_nil))) (aCons_len (aCons_len aNil_len))))) (s_one (s_ret (q_bl))) (s_nil))
 (s_one (s_ret (q_all rfl rfl bl.b_all (q_lendF (f_comp (own := [("lap", 5)]) rfl nd (i_rg1 rfl bl.b_range (q_int)) (blkOk_by (N := ["script", "tin", "got", "even", "bent", "lap"]) (sc := defScope st_law) (by decide +kernel)) (by decide) (fun _ _ _ _ _ => g_name (i := 5) nd rfl (.inl rfl)) (fun _ _ _ _ _ => ts_nil) (fun _ _ _ _ _ => q_callH h__law_right hr takes_none5 rfl (a_cons (q_rd 1) (a_nil)) (aCons_len aNil_len))))))))))

end
end K76
end T76_

section S76_
set_option Elab.async false
set_option linter.all false
set_option maxRecDepth 100000
set_option maxHeartbeats 4000000
namespace K76
open PySem PySem.Spec PyProof.Rows L2 Pv
/-! ### facts of data -/
theorem d_ok : ∀ t : Tr, okD t.d = true
  | .lf _ => rfl
  | .nd a b => by
    show (okD a.d && (okD b.d && true)) = true
    rw [d_ok a, d_ok b]
    rfl
theorem d_dep : ∀ t : Tr, depthD t.d < t.sz
  | .lf _ => Nat.one_pos
  | .nd a b => by
    have h1 := d_dep a
    have h2 := d_dep b
    have p1 := Tr.sz_pos a
    have p2 := Tr.sz_pos b
    show max (depthD a.d) (max (depthD b.d) 0) + 1 < a.sz + b.sz
    omega
theorem nats_len (ns : List Nat) : (ns.map natD).length = ns.length := List.length_map _
theorem nats_ok : ∀ ns : List Nat, okDs (ns.map natD) = true
  | [] => rfl
  | n :: r => by show (true && okDs (r.map natD)) = true; rw [nats_ok r]; rfl
theorem nats_dep : ∀ ns : List Nat, depthDs (ns.map natD) = 0
  | [] => rfl
  | n :: r => by show max 0 (depthDs (r.map natD)) = 0; rw [nats_dep r]; rfl
/-! ### plain.py -/
theorem e_is_number (i : Nat) (b : Box) : outOf (m_is_number (s0 ["thing"] [natD i] b)) = .ok (.bl true) b := rfl
theorem at_is_number (i : Nat) (b : Box) : F_is_number [natD i] b = .ok (.bl true) b := fnOf_at (enc := fun i : Nat => [natD i]) (fun a a' h => natD_inj (List.cons.inj h).1) i b
theorem e_are_numbers (ns : List Nat) (b : Box) (h : ns.length ≤ 60) : outOf (m_are_numbers (s0 ["thing", "own"] [rowD ns] b)) = .ok (.bl true) b := by
  have c : cm_are_numbers_0 { env := [.d (rowD ns), .no], box := b } = .ok ((ns.map natD).map fun _ => .bl true) { env := [.d (rowD ns), .no], box := b } := by
    refine comp_map (ds := ns.map natD) (fun _ => .bl true) rfl rfl (fun d hd => ?_) (small_line (by rw [List.length_map]; omega))
    obtain ⟨i, _, rfl⟩ := List.mem_map.mp hd
    exact ⟨_, rfl, call_same rfl (at_is_number i b), rfl⟩
  show outOf (((mB1 dAll (mLst cm_are_numbers_0)) { env := [.d (rowD ns), .no], box := b }).toS fun x s1 => SO.rt x s1) = _
  unfold mB1 mLst
  rw [c]
  show outOf ((ofO ((blsD ((ns.map natD).map fun _ => D.bl true)).map fun bs => D.bl (bs.all id)) _).toS _) = _
  rw [show ((ns.map natD).map fun _ => D.bl true) = (List.replicate ns.length true).map D.bl by simp [List.map_replicate, Function.comp_def, List.map_const'], blsD_map]
  simp [ofO, Out.toS, outOf]
theorem tupDs_map : ∀ xs : List D, tupDs xs = xs.map tupD
  | [] => rfl
  | x :: r => by show tupD x :: tupDs r = _; rw [tupDs_map r]; rfl
theorem tupOks_mem : ∀ {xs : List D} {x : D}, tupOks xs = true → x ∈ xs → tupOk x = true
  | y :: r, x, h, m => by
    have h' := Bool.and_eq_true_iff.mp (show (tupOk y && tupOks r) = true from h)
    rcases List.mem_cons.mp m with z | z
    · rw [z]; exact h'.1
    · exact tupOks_mem h'.2 z
theorem dep_mem : ∀ {xs : List D} {x : D}, x ∈ xs → depthD x ≤ depthDs xs
  | y :: r, x, m => by
    show _ ≤ max (depthD y) (depthDs r)
    rcases List.mem_cons.mp m with z | z
    · rw [z]; omega
    · have := dep_mem z
      omega
theorem at_tupF {n : Nat} {d : D} {b : Box} (h : tupOk d = true) (g : depthD d < n) : tupF n [d] b = .ok (tupD d) b := by
  unfold tupF
  rw [fnOf_at (enc := fun d : D => [d]) (fun a a' h => (List.cons.inj h).1) d b, if_pos ⟨h, g⟩]
theorem e_tupled (n : Nat) (d : D) (b : Box) (h : tupOk d = true) (g : depthD d < n + 1) : outOf (m_tupled (tupF n) (s0 ["value", "own"] [d] b)) = .ok (tupD d) b := by
  have seq : ∀ xs : List D, xs.length ≤ 100 → tupOks xs = true → depthDs xs + 1 < n + 1 → ∀ d, iSeq (rd 0) { env := [.d d, .no], box := b } = .ok xs { env := [.d d, .no], box := b } →
      cm_tupled_0 (tupF n) { env := [.d d, .no], box := b } = .ok (xs.map tupD) { env := [.d d, .no], box := b } := fun xs hl ho hd d hi => by
    refine comp_map tupD hi rfl (fun x hx => ⟨_, rfl, call_same rfl (at_tupF (tupOks_mem ho hx) (by have := dep_mem hx; omega)), rfl⟩) (small_line (by omega))
  cases d with
  | int i => rfl
  | lst xs =>
    have h' := Bool.and_eq_true_iff.mp (show (decide (xs.length ≤ 100) && tupOks xs) = true from h)
    have c := seq xs (of_decide_eq_true h'.1) h'.2 g (.lst xs) rfl
    have e : m_tupled (tupF n) (s0 ["value", "own"] [.lst xs] b) = .rt (.tup (xs.map tupD)) { env := [.d (.lst xs), .no], box := b } := ret_at ((mIf_t (mT_at (b1_at rfl rfl))).trans (b1_at (lst_at c) rfl))
    rw [e, ← tupDs_map]
    rfl
  | tup xs =>
    have h' := Bool.and_eq_true_iff.mp (show (decide (xs.length ≤ 100) && tupOks xs) = true from h)
    have c := seq xs (of_decide_eq_true h'.1) h'.2 g (.tup xs) rfl
    have e : m_tupled (tupF n) (s0 ["value", "own"] [.tup xs] b) = .rt (.tup (xs.map tupD)) { env := [.d (.tup xs), .no], box := b } := ret_at ((mIf_t (mT_at (b1_at rfl rfl))).trans (b1_at (lst_at c) rfl))
    rw [e, ← tupDs_map]
    rfl
  | _ => cases h
/-! ### leaves_in -/
abbrev lvS (t0 : D) (l f : List D) (h : SV) (b : Box) : S := { env := [.d t0, .o l, .o f, h], box := b }
theorem lv_leaf (t0 : D) (l f : List D) (h : SV) (b : Box) (i : Nat) (hf : f.length < 100000) : lp_leaves_in_0 (lvS t0 (l ++ [natD i]) f h b) = .nx (lvS t0 l (f ++ [natD i]) (.d (natD i)) b) := by
  unfold lp_leaves_in_0
  refine Eq.trans (seq_nx (set_at (pop_at l rfl))) ?_
  refine Eq.trans (if_f (and_f (mT_at (b1_at rfl rfl)))) ?_
  refine Eq.trans (drop_at (app_at rfl (Eq.trans (mIf_t (mT_at (call_same rfl (at_is_number i b)))) rfl) rfl hf)) ?_
  rfl
theorem lv_node (t0 : D) (l f : List D) (h : SV) (b : Box) (u v : Tr) (hl : l.length ≤ 1000) : lp_leaves_in_0 (lvS t0 (l ++ [(Tr.nd u v).d]) f h b) = .nx (lvS t0 (l ++ [v.d, u.d]) f (.d (Tr.nd u v).d) b) := by
  unfold lp_leaves_in_0
  refine Eq.trans (seq_nx (set_at (pop_at l rfl))) ?_
  refine Eq.trans (if_t (Eq.trans (and_t (mT_at (b1_at rfl rfl))) (m2b_at (b1_at rfl rfl) rfl rfl))) ?_
  refine Eq.trans (drop_at (ext_at rfl (lst_at (lnew_at (cons_at (ixN_at rfl rfl rfl rfl) (cons_at (ixN_at rfl rfl rfl rfl) rfl)) (by simp))) rfl (by show l.length + 2 ≤ 100000; omega))) ?_
  rfl
def szs : List Tr → Nat
  | [] => 0
  | t :: r => t.sz + szs r
theorem stack_ok : ∀ (ts : List Tr), okDs ((ts.map Tr.d).reverse) = true := fun ts => by
  have e : ∀ (l : List Tr) (acc : List D), okDs acc = true → okDs (acc ++ (l.map Tr.d)) = true := fun l => by
    intro acc h
    induction acc with
    | nil =>
      induction l with
      | nil => rfl
      | cons t r ih => show (okD t.d && okDs (r.map Tr.d)) = true; rw [d_ok t]; exact ih
    | cons x r ih =>
      have h' := Bool.and_eq_true_iff.mp (show (okD x && okDs r) = true from h)
      show (okD x && okDs (r ++ l.map Tr.d)) = true
      rw [h'.1, ih h'.2]
      rfl
  rw [← List.map_reverse]
  exact e ts.reverse [] rfl
theorem depDs_le {n : Nat} : ∀ {l : List D}, (∀ x ∈ l, depthD x ≤ n) → depthDs l ≤ n
  | [], _ => Nat.zero_le _
  | x :: r, h => by
    have h1 := h x (by simp)
    have h2 := depDs_le (l := r) fun y hy => h y (by simp [hy])
    show max (depthD x) (depthDs r) ≤ n
    omega
theorem szs_mem : ∀ {ts : List Tr} {t : Tr}, t ∈ ts → t.sz ≤ szs ts
  | u :: r, t, m => by
    show _ ≤ u.sz + szs r
    rcases List.mem_cons.mp m with z | z
    · rw [z]; omega
    · have := szs_mem z
      omega
theorem stack_dep {ts : List Tr} (h : szs ts ≤ 60) : depthDs ((ts.map Tr.d).reverse) ≤ 60 := depDs_le fun x hx => by
  rw [List.mem_reverse] at hx
  obtain ⟨t, ht, rfl⟩ := List.mem_map.mp hx
  have := szs_mem ht
  have := d_dep t
  omega
theorem szs_len : ∀ (ts : List Tr), ts.length ≤ szs ts
  | [] => Nat.le_refl _
  | t :: r => by
    have := szs_len r
    have := Tr.sz_pos t
    show r.length + 1 ≤ t.sz + szs r
    omega
theorem lv_loop (t0 : D) (b : Box) : ∀ (k : Nat) (ts : List Tr) (f : List Nat) (h : SV), szs ts ≤ 60 → f.length ≤ 60 → f.length + szs ts ≤ 60 → 2 * szs ts < k + ts.length → ∃ h', sWhile lp_leaves_in_0_c lp_leaves_in_0 k (lvS t0 ((ts.map Tr.d).reverse) (f.map natD) h b) = .nx (lvS t0 [] ((f ++ ts.flatMap Tr.lv).map natD) h' b)
  | 0, ts, f, h, h1, h2, h3, h4 => by have := szs_len ts; omega
  | k + 1, [], f, h, h1, h2, h3, h4 => ⟨h, by
    have e : lp_leaves_in_0_c (lvS t0 [] (f.map natD) h b) = .ok false (lvS t0 [] (f.map natD) h b) := ne_nil_at (l := []) rfl rfl (Nat.zero_le _)
    show sWhile lp_leaves_in_0_c lp_leaves_in_0 (k + 1) (lvS t0 [] (f.map natD) h b) = _
    rw [while_end e]
    simp⟩
  | k + 1, .lf i :: r, f, h, h1, h2, h3, h4 => by
    have h1' : 1 + szs r ≤ 60 := h1
    have h3' : f.length + (1 + szs r) ≤ 60 := h3
    have h4' : 2 * (1 + szs r) < k + 1 + (r.length + 1) := h4
    obtain ⟨h', q⟩ := lv_loop t0 b k r (f ++ [i]) (.d (natD i)) (by omega) (by rw [List.length_append, List.length_singleton]; omega) (by rw [List.length_append, List.length_singleton]; omega) (by omega)
    refine ⟨h', ?_⟩
    have st : ((Tr.lf i :: r).map Tr.d).reverse = (r.map Tr.d).reverse ++ [natD i] := by rw [List.map_cons, List.reverse_cons]; rfl
    have e : lp_leaves_in_0_c (lvS t0 ((((Tr.lf i :: r).map Tr.d)).reverse) (f.map natD) h b) = .ok true (lvS t0 (((Tr.lf i :: r).map Tr.d).reverse) (f.map natD) h b) := by
      have := ne_nil_at (i := 1) (s := lvS t0 (((Tr.lf i :: r).map Tr.d).reverse) (f.map natD) h b) rfl (stack_ok _) (by have := stack_dep h1; omega)
      rw [show (((Tr.lf i :: r).map Tr.d).reverse).isEmpty = false by rw [st]; simp] at this
      exact this
    have t := lv_leaf t0 (r.map Tr.d).reverse (f.map natD) h b i (by rw [List.length_map]; omega)
    rw [← st] at t
    rw [while_go e t, show f.map natD ++ [natD i] = (f ++ [i]).map natD by rw [List.map_append]; rfl, q]
    simp [Tr.lv]
  | k + 1, .nd u v :: r, f, h, h1, h2, h3, h4 => by
    have es : szs (.nd u v :: r) = szs (u :: v :: r) := by show u.sz + v.sz + szs r = u.sz + (v.sz + szs r); omega
    have len : (u :: v :: r).length = (Tr.nd u v :: r).length + 1 := rfl
    obtain ⟨h', q⟩ := lv_loop t0 b k (u :: v :: r) f (.d (Tr.nd u v).d) (by omega) h2 (by omega) (by omega)
    refine ⟨h', ?_⟩
    have st : ((Tr.nd u v :: r).map Tr.d).reverse = (r.map Tr.d).reverse ++ [(Tr.nd u v).d] := by rw [List.map_cons, List.reverse_cons]
    have e : lp_leaves_in_0_c (lvS t0 ((((Tr.nd u v :: r).map Tr.d)).reverse) (f.map natD) h b) = .ok true (lvS t0 (((Tr.nd u v :: r).map Tr.d).reverse) (f.map natD) h b) := by
      have := ne_nil_at (i := 1) (s := lvS t0 (((Tr.nd u v :: r).map Tr.d).reverse) (f.map natD) h b) rfl (stack_ok _) (by have := stack_dep h1; omega)
      rw [show (((Tr.nd u v :: r).map Tr.d).reverse).isEmpty = false by rw [st]; simp] at this
      exact this
    have lr : r.length ≤ 1000 := by
      have := szs_len (.nd u v :: r)
      rw [List.length_cons] at this
      omega
    have t := lv_node t0 (r.map Tr.d).reverse (f.map natD) h b u v (by rw [List.length_reverse, List.length_map]; exact lr)
    rw [← st] at t
    rw [while_go e t, show (r.map Tr.d).reverse ++ [v.d, u.d] = ((u :: v :: r).map Tr.d).reverse by simp, q]
    simp [Tr.lv]
theorem e_leaves_in (t : Tr) (b : Box) (h : t.sz ≤ 60) : outOf (m_leaves_in (s0 ["tree", "line", "found", "here"] [t.d] b)) = .ok (lsD t.lv) b := by
  unfold m_leaves_in
  have e1 : sParV 1 2 (mNew (lNew (aCons (rd 0) aNil))) (mNew (lNew aNil)) (s0 ["tree", "line", "found", "here"] [t.d] b) = .nx (lvS t.d [t.d] [] .no b) := parV_at (new_at (lnew_at rfl (by simp))) (new_at (lnew_at rfl (Nat.zero_le _)))
  obtain ⟨h', q⟩ := lv_loop t.d b 200 [t] [] .no (by show t.sz + 0 ≤ 60; omega) (Nat.zero_le _) (by show 0 + (t.sz + 0) ≤ 60; omega) (by show 2 * (t.sz + 0) < 200 + 1; omega)
  have q' : sWhile lp_leaves_in_0_c lp_leaves_in_0 200 (lvS t.d [t.d] [] .no b) = .nx (lvS t.d [] (t.lv.map natD) h' b) := by
    have e : [] ++ [t].flatMap Tr.lv = t.lv := by simp
    rw [e] at q
    exact q
  refine Eq.trans (congrArg outOf (seq_nx e1)) ?_
  refine Eq.trans (congrArg outOf (seq_nx q')) ?_
  rfl
theorem at_leaves_in (t : Tr) (b : Box) (h : t.sz ≤ 60) : F_leaves_in [t.d] b = .ok (lsD t.lv) b := by
  unfold F_leaves_in
  rw [fnOf_at (enc := fun t : Tr => [t.d]) (fun a a' h => Tr.d_inj (List.cons.inj h).1) t b, if_pos h]
end K76
end S76_

section S76b_
set_option Elab.async false
set_option linter.all false
set_option maxRecDepth 100000
set_option maxHeartbeats 4000000
namespace K76
open PySem PySem.Spec PyProof.Rows L2 Pv
/-! ### sure_tree -/
theorem mx_facts : ∀ m : Mx, tupOk m.d = true ∧ depthD m.d < m.tr.sz ∧ tupD m.d = m.tr.d
  | .lf i => ⟨rfl, Nat.one_pos, rfl⟩
  | .nd l a b => by
    obtain ⟨a1, a2, a3⟩ := mx_facts a
    obtain ⟨b1, b2, b3⟩ := mx_facts b
    have p1 := Tr.sz_pos a.tr
    have p2 := Tr.sz_pos b.tr
    have o : (tupOk a.d && (tupOk b.d && true)) = true := by rw [a1, b1]; rfl
    have dp : max (depthD a.d) (max (depthD b.d) 0) + 1 < a.tr.sz + b.tr.sz := by omega
    have e : D.tup [tupD a.d, tupD b.d] = (Tr.nd a.tr b.tr).d := by rw [a3, b3]; rfl
    cases l with
    | true => exact ⟨o, dp, e⟩
    | false => exact ⟨o, dp, e⟩
theorem at_tupled {d : D} {b : Box} (h : tupOk d = true) (g : depthD d < 61) : F_tupled [d] b = .ok (tupD d) b := at_tupF h g
mutual
theorem eqD_refl : ∀ {d : D}, okD d = true → eqD d d = true
  | .non, _ => rfl
  | .bl k, _ => by cases k <;> rfl
  | .int i, _ => by show (i == i) = true; simp
  | .str x, _ => by show (x == x) = true; simp
  | .lst xs, h => eqDs_refl (ds := xs) h
  | .tup xs, h => eqDs_refl (ds := xs) h
  | .fn _, h => by cases h
  | .box, h => by cases h
  | .scr _, h => by cases h
  | .dk _, h => by cases h
  | .dt _, h => by cases h
theorem eqDs_refl : ∀ {ds : List D}, okDs ds = true → eqDs ds ds = true
  | [], _ => rfl
  | x :: r, h => by
    have h' := Bool.and_eq_true_iff.mp (show (okD x && okDs r) = true from h)
    show (eqD x x && eqDs r r) = true
    rw [eqD_refl h'.1, eqDs_refl h'.2]
    rfl
end
theorem dEq_lst {xs ys : List D} (h : okDs xs = true) (g : okDs ys = true) (a : depthDs xs ≤ 63) (b : depthDs ys ≤ 63) : dEq (.lst xs) (.lst ys) = some (eqDs xs ys) := by
  have c1 : (okD (.lst xs) && okD (.lst ys)) = true := by
    show (okDs xs && okDs ys) = true
    rw [h, g]
    rfl
  have c2 : depthD (.lst xs) ≤ 64 := by show depthDs xs + 1 ≤ 64; omega
  have c3 : depthD (.lst ys) ≤ 64 := by show depthDs ys + 1 ≤ 64; omega
  show (if (okD (.lst xs) && okD (.lst ys)) = true ∧ depthD (.lst xs) ≤ 64 ∧ depthD (.lst ys) ≤ 64 then some (eqD (.lst xs) (.lst ys)) else none) = _
  rw [if_pos ⟨c1, c2, c3⟩]
  rfl
theorem rgD_nats (n : Nat) : rgD 0 n = (List.range n).map natD := by
  unfold rgD
  apply List.map_congr_left
  intro i _
  show D.int (0 + (i : Int)) = D.int (i : Int)
  rw [Int.zero_add]
theorem non_in (ns : List Nat) : dIn .non (lsD ns) = some false := by
  have h : ∀ ns : List Nat, (ns.map natD).all flatD = true ∧ ((ns.map natD).any fun z => eqD z .non) = false := fun ns => by
    induction ns with
    | nil => exact ⟨rfl, rfl⟩
    | cons n r ih => exact ⟨by show (true && (r.map natD).all flatD) = true; rw [ih.1]; rfl, by show (false || (r.map natD).any fun z => eqD z .non) = false; rw [ih.2]; rfl⟩
  show (if flatD .non = true ∧ (ns.map natD).all flatD = true then some ((ns.map natD).any fun z => eqD z .non) else _) = _
  rw [if_pos ⟨rfl, (h ns).1⟩, (h ns).2]
theorem e_sure_tree (m : Mx) (b : Box) (h : m.tr.good) : outOf (m_sure_tree (s0 ["value", "own", "leaves"] [m.d] b)) = .ok m.tr.d b := by
  obtain ⟨f1, f2, f3⟩ := mx_facts m
  have lvr : m.tr.lv = List.range m.tr.sz := by rw [Tr.lv_at h.2, List.range_eq_range']
  have len : m.tr.lv.length = m.tr.sz := Tr.lv_len _
  have c0 : F_tupled [m.d] b = .ok m.tr.d b := by rw [at_tupled f1 (by have := h.1; omega), f3]
  unfold m_sure_tree
  refine Eq.trans (congrArg outOf (seq_nx (set_at (call_same rfl c0)))) ?_
  refine Eq.trans (congrArg outOf (seq_nx (set_at (call_same rfl (at_leaves_in m.tr b h.1))))) ?_
  have t1 : (dOrd (fun i j => decide (j < i)) fun a b => strLt b a) (.int (((m.tr.lv.map natD).length : Nat) : Int)) (.int 60) = some false := by
    show some (decide ((60 : Int) < (((m.tr.lv.map natD).length : Nat) : Int))) = some false
    rw [nats_len, len, decide_eq_false (by have := h.1; omega)]
  have t2 : (fun x y => (dIn x y).map fun b => if false then !b else b) .non (lsD m.tr.lv) = some false := by
    show (dIn .non (lsD m.tr.lv)).map _ = _
    rw [non_in]
    rfl
  have t3 : (fun x y => (dEq x y).map (!·)) (lsD m.tr.lv) (.lst (rgD 0 ((((m.tr.lv.map natD).length : Nat) : Int)).toNat)) = some false := by
    show (dEq (.lst (m.tr.lv.map natD)) (.lst (rgD 0 ((((m.tr.lv.map natD).length : Nat) : Int)).toNat))).map _ = _
    rw [Int.toNat_natCast, nats_len, len, rgD_nats, ← lvr, dEq_lst (nats_ok _) (nats_ok _) (by rw [nats_dep]; omega) (by rw [nats_dep]; omega), eqDs_refl (nats_ok _)]
    rfl
  refine Eq.trans (congrArg outOf (seq_nx (Eq.trans (if_f (Eq.trans (or_f (m2b_at (b1_at rfl rfl) rfl t1)) (Eq.trans (or_f (m2b_at rfl rfl t2)) (m2b_at rfl (fz_at (rg1_at (b1_at rfl rfl) (by omega) (by rw [nats_len, len]; have := h.1; omega))) t3)))) rfl))) ?_
  rfl
theorem at_sure_tree (m : Mx) (b : Box) (h : m.tr.good) : F_sure_tree [m.d] b = .ok m.tr.d b := by
  unfold F_sure_tree
  rw [fnOf_at (enc := fun m : Mx => [m.d]) (fun a a' h => Mx.d_inj (List.cons.inj h).1) m b, if_pos h]
/-- a tree as it is -/
theorem at_sure_tree' (t : Tr) (b : Box) (h : t.good) : F_sure_tree [t.d] b = .ok t.d b := by
  have := at_sure_tree t.mx b (by rw [Tr.mx_tr]; exact h)
  rw [Tr.mx_d, Tr.mx_tr] at this
  exact this
/-! ### words -/
theorem wd_nil : Str.ofString "" = wd [] := rfl
theorem wd_1 (p : List Bool) : wd p ++ Str.ofString "1" = wd (p ++ [true]) := by
  show (⟨(wd p).cps ++ (Str.ofString "1").cps⟩ : Str) = _
  unfold wd
  congr 1
  rw [List.map_append]
  show _ ++ #[49] = _
  simp
theorem wd_0 (p : List Bool) : wd p ++ Str.ofString "0" = wd (p ++ [false]) := by
  show (⟨(wd p).cps ++ (Str.ofString "0").cps⟩ : Str) = _
  unfold wd
  congr 1
  rw [List.map_append]
  show _ ++ #[48] = _
  simp
theorem wd_len (p : List Bool) : (wd p).length = p.length := by
  show ((p.map fun b => if b then 49 else 48).toArray).size = _
  simp
theorem add_1 {p : List Bool} (h : p.length ≤ 1000) : dAdd (.str (wd p)) (.str (Str.ofString "1")) = some (.str (wd (p ++ [true]))) := by
  show (if (wd p).length + (Str.ofString "1").length ≤ sizeLine then some (D.str (wd p ++ Str.ofString "1")) else none) = _
  rw [if_pos (by rw [wd_len, show (Str.ofString "1").length = 1 from rfl]; exact small_line (by omega)), wd_1]
theorem add_0 {p : List Bool} (h : p.length ≤ 1000) : dAdd (.str (wd p)) (.str (Str.ofString "0")) = some (.str (wd (p ++ [false]))) := by
  show (if (wd p).length + (Str.ofString "0").length ≤ sizeLine then some (D.str (wd p ++ Str.ofString "0")) else none) = _
  rw [if_pos (by rw [wd_len, show (Str.ofString "0").length = 1 from rfl]; exact small_line (by omega)), wd_0]
theorem wd_ok (p : List Bool) : okD (.str (wd p)) = true := by
  show ((p.map fun b => if b then 49 else 48).toArray).all (· < 0x110000) = true
  rw [List.all_toArray, List.all_eq_true]
  intro x hx
  obtain ⟨b, _, rfl⟩ := List.mem_map.mp hx
  cases b <;> rfl
def pw (x : Tr × List Bool) : D := .tup [x.1.d, .str (wd x.2)]
def psz : List (Tr × List Bool) → Nat
  | [] => 0
  | x :: r => x.1.sz + psz r
theorem psz_len : ∀ (ts : List (Tr × List Bool)), ts.length ≤ psz ts
  | [] => Nat.le_refl _
  | t :: r => by
    have := psz_len r
    have := Tr.sz_pos t.1
    show r.length + 1 ≤ t.1.sz + psz r
    omega
theorem psz_mem : ∀ {ts : List (Tr × List Bool)} {t : Tr × List Bool}, t ∈ ts → t.1.sz ≤ psz ts
  | u :: r, t, m => by
    show _ ≤ u.1.sz + psz r
    rcases List.mem_cons.mp m with z | z
    · rw [z]; omega
    · have := psz_mem z
      omega
theorem okDs_of : ∀ {l : List D}, (∀ x ∈ l, okD x = true) → okDs l = true
  | [], _ => rfl
  | x :: r, h => by
    show (okD x && okDs r) = true
    rw [h x (by simp), okDs_of fun y hy => h y (by simp [hy])]
    rfl
theorem pw_ok (x : Tr × List Bool) : okD (pw x) = true := by
  show (okD x.1.d && (okD (.str (wd x.2)) && true)) = true
  rw [d_ok, wd_ok]
  rfl
theorem pst_ok (ts : List (Tr × List Bool)) : okDs ((ts.map pw).reverse) = true := okDs_of fun x hx => by
  rw [List.mem_reverse] at hx
  obtain ⟨t, _, rfl⟩ := List.mem_map.mp hx
  exact pw_ok t
theorem pst_dep {ts : List (Tr × List Bool)} (h : psz ts ≤ 60) : depthDs ((ts.map pw).reverse) ≤ 60 := depDs_le fun x hx => by
  rw [List.mem_reverse] at hx
  obtain ⟨t, ht, rfl⟩ := List.mem_map.mp hx
  have := psz_mem ht
  have := d_dep t.1
  show max (depthD t.1.d) (max 0 0) + 1 ≤ 60
  omega
abbrev wS (t0 : D) (l f : List D) (h w : SV) (b : Box) : S := { env := [.d t0, .o l, .o f, h, w], box := b }
def strD (p : List Bool) : D := .str (wd p)
theorem w_leaf (t0 : D) (l f : List D) (h w : SV) (b : Box) (i : Nat) (p : List Bool) (hf : f.length < 100000) : lp_words_in_0 (wS t0 (l ++ [pw (.lf i, p)]) f h w b) = .nx (wS t0 l (f ++ [strD p]) (.d (natD i)) (.d (strD p)) b) := by
  unfold lp_words_in_0
  refine Eq.trans (seq_nx (asg_at (pop_at l rfl) rfl)) ?_
  refine Eq.trans (if_f (mT_at (b1_at rfl rfl))) ?_
  refine Eq.trans (drop_at (app_at rfl rfl rfl hf)) ?_
  rfl
theorem w_node (t0 : D) (l f : List D) (h w : SV) (b : Box) (u v : Tr) (p : List Bool) (hl : l.length ≤ 1000) (hp : p.length ≤ 1000) :
    lp_words_in_0 (wS t0 (l ++ [pw (.nd u v, p)]) f h w b) = .nx (wS t0 (l ++ [pw (v, p ++ [true]), pw (u, p ++ [false])]) f (.d (Tr.nd u v).d) (.d (strD p)) b) := by
  unfold lp_words_in_0
  refine Eq.trans (seq_nx (asg_at (pop_at l rfl) rfl)) ?_
  refine Eq.trans (if_t (mT_at (b1_at rfl rfl))) ?_
  refine Eq.trans (drop_at (ext_at rfl (lst_at (lnew_at (cons_at (tup_at (cons_at (ixN_at rfl rfl rfl rfl) (cons_at (m2_at rfl rfl (add_1 hp)) rfl)) (by simp)) (cons_at (tup_at (cons_at (ixN_at rfl rfl rfl rfl) (cons_at (m2_at rfl rfl (add_0 hp)) rfl)) (by simp)) rfl)) (by simp))) rfl (by show l.length + 2 ≤ 100000; omega))) ?_
  rfl
theorem w_loop (t0 : D) (b : Box) : ∀ (k : Nat) (ts : List (Tr × List Bool)) (f : List (List Bool)) (h w : SV), psz ts ≤ 60 → f.length + psz ts ≤ 60 → (∀ x ∈ ts, x.2.length + x.1.sz ≤ 61) → 2 * psz ts < k + ts.length →
    ∃ h' w', sWhile lp_words_in_0_c lp_words_in_0 k (wS t0 ((ts.map pw).reverse) (f.map strD) h w b) = .nx (wS t0 [] ((f ++ ts.flatMap fun x => x.1.paths x.2).map strD) h' w' b)
  | 0, ts, f, h, w, h1, h3, hp, h4 => by have := psz_len ts; omega
  | k + 1, [], f, h, w, h1, h3, hp, h4 => ⟨h, w, by
    have e : lp_words_in_0_c (wS t0 [] (f.map strD) h w b) = .ok false (wS t0 [] (f.map strD) h w b) := ne_nil_at (l := []) rfl rfl (Nat.zero_le _)
    show sWhile lp_words_in_0_c lp_words_in_0 (k + 1) (wS t0 [] (f.map strD) h w b) = _
    rw [while_end e]
    simp⟩
  | k + 1, (.lf i, p) :: r, f, h, w, h1, h3, hp, h4 => by
    have h1' : 1 + psz r ≤ 60 := h1
    have h3' : f.length + (1 + psz r) ≤ 60 := h3
    have h4' : 2 * (1 + psz r) < k + 1 + (r.length + 1) := h4
    obtain ⟨h', w', q⟩ := w_loop t0 b k r (f ++ [p]) (.d (natD i)) (.d (strD p)) (by omega) (by rw [List.length_append, List.length_singleton]; omega) (fun x hx => hp x (by simp [hx])) (by omega)
    refine ⟨h', w', ?_⟩
    have st : (((Tr.lf i, p) :: r).map pw).reverse = (r.map pw).reverse ++ [pw (.lf i, p)] := by rw [List.map_cons, List.reverse_cons]
    have e : lp_words_in_0_c (wS t0 ((((Tr.lf i, p) :: r).map pw).reverse) (f.map strD) h w b) = .ok true (wS t0 ((((Tr.lf i, p) :: r).map pw).reverse) (f.map strD) h w b) := by
      have := ne_nil_at (i := 1) (s := wS t0 ((((Tr.lf i, p) :: r).map pw).reverse) (f.map strD) h w b) rfl (pst_ok _) (by have := pst_dep h1; omega)
      rw [show ((((Tr.lf i, p) :: r).map pw).reverse).isEmpty = false by rw [st]; simp] at this
      exact this
    have t := w_leaf t0 (r.map pw).reverse (f.map strD) h w b i p (by rw [List.length_map]; omega)
    rw [← st] at t
    rw [while_go e t, show f.map strD ++ [strD p] = (f ++ [p]).map strD by rw [List.map_append]; rfl, q]
    simp [Tr.paths]
  | k + 1, (.nd u v, p) :: r, f, h, w, h1, h3, hp, h4 => by
    have es : psz ((.nd u v, p) :: r) = psz ((u, p ++ [false]) :: (v, p ++ [true]) :: r) := by show u.sz + v.sz + psz r = u.sz + (v.sz + psz r); omega
    have len : ((u, p ++ [false]) :: (v, p ++ [true]) :: r).length = ((Tr.nd u v, p) :: r).length + 1 := rfl
    have pl := hp (.nd u v, p) (by simp)
    have pz := Tr.sz_pos u
    have pz2 := Tr.sz_pos v
    have pz3 : psz ((.nd u v, p) :: r) = u.sz + v.sz + psz r := rfl
    have len2 := psz_len ((.nd u v, p) :: r)
    rw [List.length_cons] at len2
    obtain ⟨h', w', q⟩ := w_loop t0 b k ((u, p ++ [false]) :: (v, p ++ [true]) :: r) f (.d (Tr.nd u v).d) (.d (strD p)) (by omega) (by omega) (fun x hx => by
      have pl2 : p.length + (u.sz + v.sz) ≤ 61 := pl
      rcases List.mem_cons.mp hx with z | hx
      · rw [z]; show (p ++ [false]).length + u.sz ≤ 61; rw [List.length_append, List.length_singleton]; omega
      · rcases List.mem_cons.mp hx with z | hx
        · rw [z]; show (p ++ [true]).length + v.sz ≤ 61; rw [List.length_append, List.length_singleton]; omega
        · exact hp x (by simp [hx])) (by omega)
    refine ⟨h', w', ?_⟩
    have st : (((Tr.nd u v, p) :: r).map pw).reverse = (r.map pw).reverse ++ [pw (.nd u v, p)] := by rw [List.map_cons, List.reverse_cons]
    have e : lp_words_in_0_c (wS t0 ((((Tr.nd u v, p) :: r).map pw).reverse) (f.map strD) h w b) = .ok true (wS t0 ((((Tr.nd u v, p) :: r).map pw).reverse) (f.map strD) h w b) := by
      have := ne_nil_at (i := 1) (s := wS t0 ((((Tr.nd u v, p) :: r).map pw).reverse) (f.map strD) h w b) rfl (pst_ok _) (by have := pst_dep h1; omega)
      rw [show ((((Tr.nd u v, p) :: r).map pw).reverse).isEmpty = false by rw [st]; simp] at this
      exact this
    have t := w_node t0 (r.map pw).reverse (f.map strD) h w b u v p (by rw [List.length_reverse, List.length_map]; omega) (by have : p.length + (u.sz + v.sz) ≤ 61 := pl; omega)
    rw [← st] at t
    rw [while_go e t, show (r.map pw).reverse ++ [pw (v, p ++ [true]), pw (u, p ++ [false])] = (((u, p ++ [false]) :: (v, p ++ [true]) :: r).map pw).reverse by simp, q]
    simp [Tr.paths]
end K76
end S76b_

section S76c_
set_option Elab.async false
set_option linter.all false
set_option maxRecDepth 100000
set_option maxHeartbeats 4000000
namespace K76
open PySem PySem.Spec PyProof.Rows L2 Pv
theorem e_words_in (t : Tr) (b : Box) (h : t.sz ≤ 60) : outOf (m_words_in (s0 ["tree", "line", "found", "here", "word"] [t.d] b)) = .ok (.tup ((t.paths []).map strD)) b := by
  unfold m_words_in
  have e1 : sParV 1 2 (mNew (lNew (aCons (mTup (aCons (rd 0) (aCons (con (.str (Str.ofString ""))) aNil))) aNil))) (mNew (lNew aNil)) (s0 ["tree", "line", "found", "here", "word"] [t.d] b) = .nx (wS t.d [pw (t, [])] [] .no .no b) :=
    parV_at (new_at (lnew_at (cons_at (tup_at rfl (by simp)) rfl) (by simp))) (new_at (lnew_at rfl (Nat.zero_le _)))
  obtain ⟨h', w', q⟩ := w_loop t.d b 200 [(t, [])] [] .no .no (by show t.sz + 0 ≤ 60; omega) (by show 0 + (t.sz + 0) ≤ 60; omega) (fun x hx => by rw [List.mem_singleton.mp hx]; show 0 + t.sz ≤ 61; omega) (by show 2 * (t.sz + 0) < 200 + 1; omega)
  have q' : sWhile lp_words_in_0_c lp_words_in_0 200 (wS t.d [pw (t, [])] [] .no .no b) = .nx (wS t.d [] ((t.paths []).map strD) h' w' b) := by
    have e : [] ++ [(t, ([] : List Bool))].flatMap (fun x => x.1.paths x.2) = t.paths [] := by simp
    rw [e] at q
    exact q
  refine Eq.trans (congrArg outOf (seq_nx e1)) ?_
  refine Eq.trans (congrArg outOf (seq_nx q')) ?_
  rfl
theorem at_words_in (t : Tr) (b : Box) (h : t.sz ≤ 60) : F_words_in [t.d] b = .ok (.tup ((t.paths []).map strD)) b := by
  unfold F_words_in
  rw [fnOf_at (enc := fun t : Tr => [t.d]) (fun a a' h => Tr.d_inj (List.cons.inj h).1) t b, if_pos h]
  rfl
/-! ### pair_words -/
theorem p_leaf (t0 : D) (l f : List D) (h w : SV) (b : Box) (i : Nat) (p : List Bool) : lp_pair_words_0 (wS t0 (l ++ [pw (.lf i, p)]) f h w b) = .nx (wS t0 l f (.d (natD i)) (.d (strD p)) b) := by
  unfold lp_pair_words_0
  refine Eq.trans (seq_nx (asg_at (pop_at l rfl) rfl)) ?_
  refine Eq.trans (if_f (mT_at (b1_at rfl rfl))) ?_
  rfl
theorem p_node (t0 : D) (l f : List D) (h w : SV) (b : Box) (u v : Tr) (p : List Bool) (hl : l.length ≤ 1000) (hf : f.length < 100000) (hp : p.length ≤ 1000) :
    lp_pair_words_0 (wS t0 (l ++ [pw (.nd u v, p)]) f h w b) = .nx (wS t0 (l ++ [pw (v, p ++ [true]), pw (u, p ++ [false])]) (f ++ [strD p]) (.d (Tr.nd u v).d) (.d (strD p)) b) := by
  unfold lp_pair_words_0
  refine Eq.trans (seq_nx (asg_at (pop_at l rfl) rfl)) ?_
  refine Eq.trans (if_t (mT_at (b1_at rfl rfl))) ?_
  refine Eq.trans (seq_nx (drop_at (app_at rfl rfl rfl hf))) ?_
  refine Eq.trans (drop_at (ext_at rfl (lst_at (lnew_at (cons_at (tup_at (cons_at (ixN_at rfl rfl rfl rfl) (cons_at (m2_at rfl rfl (add_1 hp)) rfl)) (by simp)) (cons_at (tup_at (cons_at (ixN_at rfl rfl rfl rfl) (cons_at (m2_at rfl rfl (add_0 hp)) rfl)) (by simp)) rfl)) (by simp))) rfl (by show l.length + 2 ≤ 100000; omega))) ?_
  rfl
theorem p_loop (t0 : D) (b : Box) : ∀ (k : Nat) (ts : List (Tr × List Bool)) (f : List (List Bool)) (h w : SV), psz ts ≤ 60 → f.length + psz ts ≤ 60 + ts.length → (∀ x ∈ ts, x.2.length + x.1.sz ≤ 61) → 2 * psz ts < k + ts.length →
    ∃ h' w', sWhile lp_pair_words_0_c lp_pair_words_0 k (wS t0 ((ts.map pw).reverse) (f.map strD) h w b) = .nx (wS t0 [] ((f ++ ts.flatMap fun x => x.1.ipaths x.2).map strD) h' w' b)
  | 0, ts, f, h, w, h1, h3, hp, h4 => by have := psz_len ts; omega
  | k + 1, [], f, h, w, h1, h3, hp, h4 => ⟨h, w, by
    have e : lp_pair_words_0_c (wS t0 [] (f.map strD) h w b) = .ok false (wS t0 [] (f.map strD) h w b) := ne_nil_at (l := []) rfl rfl (Nat.zero_le _)
    show sWhile lp_pair_words_0_c lp_pair_words_0 (k + 1) (wS t0 [] (f.map strD) h w b) = _
    rw [while_end e]
    simp⟩
  | k + 1, (.lf i, p) :: r, f, h, w, h1, h3, hp, h4 => by
    have h1' : 1 + psz r ≤ 60 := h1
    have h3' : f.length + (1 + psz r) ≤ 60 + (r.length + 1) := h3
    have h4' : 2 * (1 + psz r) < k + 1 + (r.length + 1) := h4
    obtain ⟨h', w', q⟩ := p_loop t0 b k r f (.d (natD i)) (.d (strD p)) (by omega) (by omega) (fun x hx => hp x (by simp [hx])) (by omega)
    refine ⟨h', w', ?_⟩
    have st : (((Tr.lf i, p) :: r).map pw).reverse = (r.map pw).reverse ++ [pw (.lf i, p)] := by rw [List.map_cons, List.reverse_cons]
    have e : lp_pair_words_0_c (wS t0 ((((Tr.lf i, p) :: r).map pw).reverse) (f.map strD) h w b) = .ok true (wS t0 ((((Tr.lf i, p) :: r).map pw).reverse) (f.map strD) h w b) := by
      have := ne_nil_at (i := 1) (s := wS t0 ((((Tr.lf i, p) :: r).map pw).reverse) (f.map strD) h w b) rfl (pst_ok _) (by have := pst_dep h1; omega)
      rw [show ((((Tr.lf i, p) :: r).map pw).reverse).isEmpty = false by rw [st]; simp] at this
      exact this
    have t := p_leaf t0 (r.map pw).reverse (f.map strD) h w b i p
    rw [← st] at t
    rw [while_go e t, q]
    simp [Tr.ipaths]
  | k + 1, (.nd u v, p) :: r, f, h, w, h1, h3, hp, h4 => by
    have es : psz ((.nd u v, p) :: r) = psz ((u, p ++ [false]) :: (v, p ++ [true]) :: r) := by show u.sz + v.sz + psz r = u.sz + (v.sz + psz r); omega
    have len : ((u, p ++ [false]) :: (v, p ++ [true]) :: r).length = ((Tr.nd u v, p) :: r).length + 1 := rfl
    have pl := hp (.nd u v, p) (by simp)
    have pz := Tr.sz_pos u
    have pz2 := Tr.sz_pos v
    have pz3 : psz ((.nd u v, p) :: r) = u.sz + v.sz + psz r := rfl
    have len2 := psz_len ((.nd u v, p) :: r)
    rw [List.length_cons] at len2
    have pl2 : p.length + (u.sz + v.sz) ≤ 61 := pl
    have h3' : f.length + psz ((.nd u v, p) :: r) ≤ 60 + (r.length + 1) := h3
    have h5 : ((u, p ++ [false]) :: (v, p ++ [true]) :: r).length = r.length + 2 := rfl
    obtain ⟨h', w', q⟩ := p_loop t0 b k ((u, p ++ [false]) :: (v, p ++ [true]) :: r) (f ++ [p]) (.d (Tr.nd u v).d) (.d (strD p)) (by omega) (by rw [List.length_append, List.length_singleton]; omega) (fun x hx => by
      rcases List.mem_cons.mp hx with z | hx
      · rw [z]; show (p ++ [false]).length + u.sz ≤ 61; rw [List.length_append, List.length_singleton]; omega
      · rcases List.mem_cons.mp hx with z | hx
        · rw [z]; show (p ++ [true]).length + v.sz ≤ 61; rw [List.length_append, List.length_singleton]; omega
        · exact hp x (by simp [hx])) (by omega)
    refine ⟨h', w', ?_⟩
    have st : (((Tr.nd u v, p) :: r).map pw).reverse = (r.map pw).reverse ++ [pw (.nd u v, p)] := by rw [List.map_cons, List.reverse_cons]
    have e : lp_pair_words_0_c (wS t0 ((((Tr.nd u v, p) :: r).map pw).reverse) (f.map strD) h w b) = .ok true (wS t0 ((((Tr.nd u v, p) :: r).map pw).reverse) (f.map strD) h w b) := by
      have := ne_nil_at (i := 1) (s := wS t0 ((((Tr.nd u v, p) :: r).map pw).reverse) (f.map strD) h w b) rfl (pst_ok _) (by have := pst_dep h1; omega)
      rw [show ((((Tr.nd u v, p) :: r).map pw).reverse).isEmpty = false by rw [st]; simp] at this
      exact this
    have t := p_node t0 (r.map pw).reverse (f.map strD) h w b u v p (by rw [List.length_reverse, List.length_map]; omega) (by rw [List.length_map]; omega) (by omega)
    rw [← st] at t
    rw [while_go e t, show (r.map pw).reverse ++ [pw (v, p ++ [true]), pw (u, p ++ [false])] = (((u, p ++ [false]) :: (v, p ++ [true]) :: r).map pw).reverse by simp, show f.map strD ++ [strD p] = (f ++ [p]).map strD by rw [List.map_append]; rfl, q]
    simp [Tr.ipaths]
end K76
end S76c_

section S76d_
set_option Elab.async false
set_option linter.all false
set_option maxRecDepth 100000
set_option maxHeartbeats 4000000
namespace K76
open PySem PySem.Spec PyProof.Rows L2 Pv
theorem ipaths_len : ∀ (t : Tr) (p : List Bool), (t.ipaths p).length + 1 = t.sz
  | .lf _, _ => rfl
  | .nd a b, p => by
    have h1 := ipaths_len a (p ++ [false])
    have h2 := ipaths_len b (p ++ [true])
    show (p :: (a.ipaths (p ++ [false]) ++ b.ipaths (p ++ [true]))).length + 1 = a.sz + b.sz
    rw [List.length_cons, List.length_append]
    omega
theorem sort_strs {ss : List Str} (h : ss.length < 64) : dSort (.lst (ss.map .str)) = some ((sortS ss).map .str) := by
  cases ss with
  | nil =>
    show some ((sortI []).map D.int) = some ((sortS []).map D.str)
    unfold sortI sortS
    simp
  | cons x r =>
    show (match strsD ((x :: r).map D.str) with
      | some ss => if ss.length < 64 then some ((sortS ss).map D.str) else none
      | none => none) = _
    rw [strsD_map]
    show (if (x :: r).length < 64 then some ((sortS (x :: r)).map D.str) else none) = _
    rw [if_pos h]
theorem e_pair_words (t : Tr) (b : Box) (h : t.sz ≤ 60) : outOf (m_pair_words (s0 ["tree", "line", "found", "here", "word"] [t.d] b)) = .ok (.lst ((sortS ((t.ipaths []).map wd)).map .str)) b := by
  unfold m_pair_words
  have e1 : sParV 1 2 (mNew (lNew (aCons (mTup (aCons (rd 0) (aCons (con (.str (Str.ofString ""))) aNil))) aNil))) (mNew (lNew aNil)) (s0 ["tree", "line", "found", "here", "word"] [t.d] b) = .nx (wS t.d [pw (t, [])] [] .no .no b) :=
    parV_at (new_at (lnew_at (cons_at (tup_at rfl (by simp)) rfl) (by simp))) (new_at (lnew_at rfl (Nat.zero_le _)))
  obtain ⟨h', w', q⟩ := p_loop t.d b 200 [(t, [])] [] .no .no (by show t.sz + 0 ≤ 60; omega) (by show 0 + (t.sz + 0) ≤ 60 + 1; omega) (fun x hx => by rw [List.mem_singleton.mp hx]; show 0 + t.sz ≤ 61; omega) (by show 2 * (t.sz + 0) < 200 + 1; omega)
  have q' : sWhile lp_pair_words_0_c lp_pair_words_0 200 (wS t.d [pw (t, [])] [] .no .no b) = .nx (wS t.d [] ((t.ipaths []).map strD) h' w' b) := by
    have e : [] ++ [(t, ([] : List Bool))].flatMap (fun x => x.1.ipaths x.2) = t.ipaths [] := by simp
    rw [e] at q
    exact q
  refine Eq.trans (congrArg outOf (seq_nx e1)) ?_
  refine Eq.trans (congrArg outOf (seq_nx q')) ?_
  have sr := sort_strs (ss := (t.ipaths []).map wd) (by rw [List.length_map]; have := ipaths_len t []; omega)
  rw [List.map_map] at sr
  refine Eq.trans (congrArg outOf (ret_at (fz_at (b1F_at rfl sr)))) ?_
  rfl
theorem at_pair_words (t : Tr) (b : Box) (h : t.sz ≤ 60) : F_pair_words [t.d] b = .ok (.lst ((sortS ((t.ipaths []).map wd)).map .str)) b := by
  unfold F_pair_words
  rw [fnOf_at (enc := fun t : Tr => [t.d]) (fun a a' h => Tr.d_inj (List.cons.inj h).1) t b, if_pos h]
/-! ### stacked -/
abbrev kS (ls : D) (l : List D) (p o r v : SV) (b : Box) : S := { env := [.d ls, .o l, p, o, r, v], box := b }
def stD (st : List (Nat × Tr)) : List D := (st.map pairD).reverse
theorem stD_cons (x : Nat × Tr) (st : List (Nat × Tr)) : stD (x :: st) = stD st ++ [pairD x] := by unfold stD; rw [List.map_cons, List.reverse_cons]
theorem stD_len (st : List (Nat × Tr)) : (stD st).length = st.length := by unfold stD; rw [List.length_reverse, List.length_map]
theorem at_last {α : Type} (l : List α) (x : α) : atI (l ++ [x]) (-1) = some x := by
  unfold atI ixN
  rw [if_neg (by omega), if_pos (by rw [List.length_append, List.length_singleton]; omega)]
  show (l ++ [x])[((-1 : Int) + ((l ++ [x]).length : Nat)).toNat]? = _
  rw [List.length_append, List.length_singleton, show ((-1 : Int) + ((l.length + 1 : Nat) : Int)).toNat = l.length by omega]
  simp
theorem at_last2 {α : Type} (l : List α) (y x : α) : atI (l ++ [y] ++ [x]) (-2) = some y := by
  unfold atI ixN
  rw [if_neg (by omega), if_pos (by simp only [List.length_append, List.length_singleton]; omega)]
  show (l ++ [y] ++ [x])[((-2 : Int) + ((l ++ [y] ++ [x]).length : Nat)).toNat]? = _
  rw [show (l ++ [y] ++ [x]).length = l.length + 2 by simp, show ((-2 : Int) + ((l.length + 2 : Nat) : Int)).toNat = l.length by omega]
  simp
theorem nat_eq (a c : Nat) : dEq (natD a) (natD c) = some (decide (a = c)) := by
  show some (((a : Int)) == (c : Int)) = _
  congr 1
  rw [Bool.eq_iff_iff, beq_iff_eq, decide_eq_true_iff]
  omega
theorem nat_gt (a : Nat) (c : Int) : dOrd (fun i j => decide (j < i)) (fun a b => strLt b a) (natD a) (.int c) = some (decide (c < (a : Int))) := rfl
theorem k_test (ls : D) (p o r v : SV) (b : Box) (st : List (Nat × Tr)) (d : Nat) (t : Tr) :
    lp_stacked_0_c (kS ls (stD ((d, t) :: st)) p o r v b) = .ok (match st with | [] => false | (e, _) :: _ => decide (e = d ∧ 0 < d)) (kS ls (stD ((d, t) :: st)) p o r v b) := by
  unfold lp_stacked_0_c
  cases st with
  | nil => exact and_f (m2b_at (b1_at rfl rfl) rfl rfl)
  | cons x st =>
    obtain ⟨e, u⟩ := x
    have es : stD ((d, t) :: (e, u) :: st) = stD st ++ [pairD (e, u)] ++ [pairD (d, t)] := by rw [stD_cons, stD_cons]
    have t1 : m2b (dOrd (fun i j => decide (j < i)) fun a b => strLt b a) (mB1 dLen (lend 1)) (con (.int 1)) (kS ls (stD ((d, t) :: (e, u) :: st)) p o r v b) = .ok true (kS ls (stD ((d, t) :: (e, u) :: st)) p o r v b) := by
      refine m2b_at (b1_at rfl rfl) rfl ?_
      show some (decide ((1 : Int) < (((stD ((d, t) :: (e, u) :: st)).length : Nat) : Int))) = some true
      rw [stD_len, decide_eq_true (by simp only [List.length_cons]; omega)]
    have f1 : mIxN 1 (mNeg (con (.int 1))) (kS ls (stD ((d, t) :: (e, u) :: st)) p o r v b) = .ok (pairD (d, t)) (kS ls (stD ((d, t) :: (e, u) :: st)) p o r v b) :=
      ixN_at rfl rfl rfl (by show atI (stD ((d, t) :: (e, u) :: st)) (-1) = _; rw [es, at_last])
    have f2 : mIxN 1 (mNeg (con (.int 2))) (kS ls (stD ((d, t) :: (e, u) :: st)) p o r v b) = .ok (pairD (e, u)) (kS ls (stD ((d, t) :: (e, u) :: st)) p o r v b) :=
      ixN_at rfl rfl rfl (by show atI (stD ((d, t) :: (e, u) :: st)) (-2) = _; rw [es, at_last2])
    refine Eq.trans (and_t t1) ?_
    by_cases hd : d = e
    · refine Eq.trans (and_t (m2b_at (k := true) (ix_at f1 rfl rfl) (ix_at f2 rfl rfl) ((nat_eq d e).trans (by rw [decide_eq_true hd])))) ?_
      refine m2b_at (ix_at f1 rfl rfl) rfl ?_
      show some (decide ((0 : Int) < (d : Int))) = some (decide (e = d ∧ 0 < d))
      congr 1
      rw [Bool.eq_iff_iff, decide_eq_true_iff, decide_eq_true_iff]
      omega
    · refine Eq.trans (and_f (m2b_at (k := false) (ix_at f1 rfl rfl) (ix_at f2 rfl rfl) ((nat_eq d e).trans (by rw [decide_eq_false hd])))) ?_
      show Out.ok false _ = Out.ok (decide (e = d ∧ 0 < d)) _
      rw [decide_eq_false (by omega)]
theorem k_body (ls : D) (p o r v : SV) (b : Box) (st : List (Nat × Tr)) (d : Nat) (t u : Tr) (h : st.length ≤ 1000) (hd : 0 < d) :
    lp_stacked_0 (kS ls (stD ((d, t) :: (d, u) :: st)) p o r v b) = .nx (kS ls (stD ((d - 1, .nd u t) :: st)) p o (.d (pairD (d, t))) (.d (pairD (d, u))) b) := by
  unfold lp_stacked_0
  rw [stD_cons, stD_cons, stD_cons]
  refine Eq.trans (seq_nx (set_at (pop_at (stD st ++ [pairD (d, u)]) rfl))) ?_
  refine Eq.trans (seq_nx (set_at (pop_at (stD st) rfl))) ?_
  have sub : dSub (natD d) (.int 1) = some (natD (d - 1)) := by
    show some (D.int ((d : Int) - 1)) = some (D.int ((d - 1 : Nat) : Int))
    congr 2
    omega
  refine Eq.trans (drop_at (app_at rfl (tup_at (cons_at (m2_at (ixN_at rfl rfl rfl rfl) rfl sub) (cons_at (tup_at (cons_at (ixN_at rfl rfl rfl rfl) (cons_at (ixN_at rfl rfl rfl rfl) rfl)) (by simp)) rfl)) (by simp)) rfl (by rw [stD_len]; omega))) ?_
  rfl
theorem push_eq {st : List (Nat × Tr)} {e : Nat} {u t : Tr} (h : 0 < e) : push ((e, u) :: st) e t = push st (e - 1) (.nd u t) := by
  show (if e = e ∧ 0 < e then push st (e - 1) (.nd u t) else _) = _
  rw [if_pos ⟨rfl, h⟩]
theorem push_ne {st : List (Nat × Tr)} {e d : Nat} {u t : Tr} (h : ¬ (e = d ∧ 0 < d)) : push ((e, u) :: st) d t = (d, t) :: (e, u) :: st := by
  show (if e = d ∧ 0 < d then push st (d - 1) (.nd u t) else _) = _
  rw [if_neg h]
theorem k_push (ls : D) (p o : SV) (b : Box) : ∀ (k : Nat) (st : List (Nat × Tr)) (d : Nat) (t : Tr) (r v : SV), st.length < k → st.length ≤ 1000 →
    ∃ r' v', sWhile lp_stacked_0_c lp_stacked_0 k (kS ls (stD ((d, t) :: st)) p o r v b) = .nx (kS ls (stD (push st d t)) p o r' v' b)
  | 0, st, d, t, r, v, h, _ => by omega
  | k + 1, [], d, t, r, v, h, _ => ⟨r, v, while_end (k_test ls p o r v b [] d t)⟩
  | k + 1, (e, u) :: st, d, t, r, v, h, h2 => by
    rw [List.length_cons] at h h2
    by_cases c : e = d ∧ 0 < d
    · obtain ⟨rfl, h0⟩ := c
      have ts := k_test ls p o r v b ((e, u) :: st) e t
      rw [show (match ((e, u) :: st : List (Nat × Tr)) with | [] => false | (e', _) :: _ => decide (e' = e ∧ 0 < e)) = true from decide_eq_true ⟨rfl, h0⟩] at ts
      obtain ⟨r', v', q⟩ := k_push ls p o b k st (e - 1) (.nd u t) (.d (pairD (e, t))) (.d (pairD (e, u))) (by omega) (by omega)
      refine ⟨r', v', ?_⟩
      rw [while_go ts (k_body ls p o r v b st e t u (by omega) h0), q]
      rw [push_eq h0]
    · have ts := k_test ls p o r v b ((e, u) :: st) d t
      rw [show (match ((e, u) :: st : List (Nat × Tr)) with | [] => false | (e', _) :: _ => decide (e' = d ∧ 0 < d)) = false from decide_eq_false c] at ts
      refine ⟨r, v, ?_⟩
      rw [while_end ts, push_ne c]
theorem push_len : ∀ (st : List (Nat × Tr)) (d : Nat) (t : Tr), (push st d t).length ≤ st.length + 1
  | [], _, _ => Nat.le_refl _
  | (e, u) :: r, d, t => by
    unfold push
    split
    · have := push_len r (d - 1) (.nd u t)
      rw [List.length_cons]
      omega
    · simp
theorem k_turn (ls : D) (l : List (Nat × Tr)) (p o r v : SV) (b : Box) (n q : Nat) (h : l.length ≤ 150) : ∃ r' v', lp_stacked_1 (kS ls (stD l) (.d (natD q)) (.d (natD n)) r v b) = .nx (kS ls (stD (push l n (.lf q))) (.d (natD q)) (.d (natD n)) r' v' b) := by
  obtain ⟨r', v', e⟩ := k_push ls (.d (natD q)) (.d (natD n)) b 200 l n (.lf q) r v (by omega) (by omega)
  refine ⟨r', v', ?_⟩
  unfold lp_stacked_1
  refine Eq.trans (seq_nx (drop_at (app_at rfl (tup_at rfl (by simp)) rfl (by rw [stD_len]; omega)))) ?_
  rw [stD_cons] at e
  exact e
theorem k_loop (ls : D) (b : Box) : ∀ (ns : List Nat) (q : Nat) (l : List (Nat × Tr)) (p o r v : SV), l.length + ns.length ≤ 150 →
    ∃ p' o' r' v', sForL (gT 2 (gCons' (gN 2) (gCons' (gN 3) gNil'))) lp_stacked_1 (enD q (ns.map natD)) (kS ls (stD l) p o r v b) = .nx (kS ls (stD (stk ns q l)) p' o' r' v' b)
  | [], q, l, p, o, r, v, _ => ⟨p, o, r, v, rfl⟩
  | n :: ns, q, l, p, o, r, v, h => by
    rw [List.length_cons] at h
    obtain ⟨r1, v1, e⟩ := k_turn ls l p o r v b n q (by omega)
    have pl := push_len l n (.lf q)
    obtain ⟨p', o', r', v', e2⟩ := k_loop ls b ns (q + 1) (push l n (.lf q)) (.d (natD q)) (.d (natD n)) r1 v1 (by omega)
    refine ⟨p', o', r', v', ?_⟩
    exact (for_cons (s1 := kS ls (stD l) (.d (natD q)) (.d (natD n)) r v b) rfl e).trans e2
theorem e_stacked (ns : List Nat) (b : Box) (h : ns.length ≤ 60) : outOf (m_stacked (s0 ["lengths", "found", "place", "own", "right", "left"] [lsD ns] b)) = .ok (.lst ((stk ns 0 []).reverse.map pairD)) b := by
  unfold m_stacked
  refine Eq.trans (congrArg outOf (seq_nx (setF_at (lnew_at rfl (Nat.zero_le _))))) ?_
  obtain ⟨p', o', r', v', e⟩ := k_loop (lsD ns) b ns 0 [] .no .no .no .no (by show 0 + ns.length ≤ 150; omega)
  refine Eq.trans (congrArg outOf (seq_nx (Eq.trans (for_at (en_it rfl rfl)) e))) ?_
  rw [List.map_reverse]
  rfl
theorem at_stacked (ns : List Nat) (b : Box) (h : ns.length ≤ 60) : F_stacked [lsD ns] b = .ok (.lst ((stk ns 0 []).reverse.map pairD)) b := by
  unfold F_stacked
  rw [fnOf_at (enc := fun ns : List Nat => [lsD ns]) (fun a a' h => nats_inj (by have := (List.cons.inj h).1; unfold lsD at this; injection this)) ns b, if_pos h]
theorem e_tree_in (ns : List Nat) (b : Box) (t : Tr) (h : ns.length ≤ 60) (g : stk ns 0 [] = [(0, t)]) : outOf (m_tree_in (s0 ["lengths", "found"] [lsD ns] b)) = .ok t.d b := by
  unfold m_tree_in
  have e := at_stacked ns b h
  rw [g] at e
  refine Eq.trans (congrArg outOf (seq_nx (set_at (call_same rfl e)))) ?_
  refine Eq.trans (congrArg outOf (ret_at (Eq.trans (mIf_t (Eq.trans (and_t (m2b_at (b1_at rfl rfl) rfl rfl)) (m2b_at (ix_at (ixN_at rfl rfl rfl rfl) rfl rfl) rfl rfl))) (ix_at (ixN_at rfl rfl rfl rfl) rfl rfl)))) ?_
  rfl
theorem at_tree_in (ns : List Nat) (b : Box) (t : Tr) (h : ns.length ≤ 60) (g : stk ns 0 [] = [(0, t)]) : F_tree_in [lsD ns] b = .ok t.d b := by
  unfold F_tree_in
  rw [fnOf_at (enc := fun ns : List Nat => [lsD ns]) (fun a a' h => nats_inj (by have := (List.cons.inj h).1; unfold lsD at this; injection this)) ns b, if_pos h, g]
  rfl
end K76
end S76d_

section S76e_
set_option Elab.async false
set_option linter.all false
set_option maxRecDepth 100000
set_option maxHeartbeats 4000000
namespace K76
open PySem PySem.Spec PyProof.Rows L2 Pv
/-! ### turned_tree -/
def dep : Tr → Nat → List Nat
  | .lf _, d => [d]
  | .nd a b, d => dep a (d + 1) ++ dep b (d + 1)
def mir : Tr → Tr
  | .lf i => .lf i
  | .nd a b => .nd (mir b) (mir a)
def rel : Tr → Nat → Tr
  | .lf _, p => .lf p
  | .nd a b, p => .nd (rel a p) (rel b (p + a.sz))
theorem mir_sz : ∀ t : Tr, (mir t).sz = t.sz
  | .lf _ => rfl
  | .nd a b => by show (mir b).sz + (mir a).sz = a.sz + b.sz; rw [mir_sz a, mir_sz b]; omega
theorem dep_len : ∀ (t : Tr) (d : Nat), (dep t d).length = t.sz
  | .lf _, _ => rfl
  | .nd a b, d => by show (dep a (d + 1) ++ dep b (d + 1)).length = _; rw [List.length_append, dep_len, dep_len]; rfl
theorem dep_mir : ∀ (t : Tr) (d : Nat), (dep t d).reverse = dep (mir t) d
  | .lf _, _ => rfl
  | .nd a b, d => by
    show (dep a (d + 1) ++ dep b (d + 1)).reverse = dep (mir b) (d + 1) ++ dep (mir a) (d + 1)
    rw [List.reverse_append, dep_mir a, dep_mir b]
theorem paths_dep : ∀ (t : Tr) (p : List Bool), (t.paths p).map List.length = dep t p.length
  | .lf _, _ => rfl
  | .nd a b, p => by
    show (a.paths (p ++ [false]) ++ b.paths (p ++ [true])).map List.length = dep a (p.length + 1) ++ dep b (p.length + 1)
    rw [List.map_append, paths_dep a, paths_dep b, List.length_append, List.length_append]
    rfl
def topLe (st : List (Nat × Tr)) (d : Nat) : Prop := ∀ x r, st = x :: r → x.1 ≤ d
theorem stk_dep : ∀ (t : Tr) (d p : Nat) (st : List (Nat × Tr)) (rest : List Nat), topLe st d → stk (dep t d ++ rest) p st = stk rest (p + t.sz) (push st d (rel t p))
  | .lf _, _, _, _, _, _ => rfl
  | .nd a b, d, p, st, rest, h => by
    show stk ((dep a (d + 1) ++ dep b (d + 1)) ++ rest) p st = _
    rw [List.append_assoc, stk_dep a (d + 1) p st _ (fun x r e => by have := h x r e; omega)]
    have e1 : push st (d + 1) (rel a p) = (d + 1, rel a p) :: st := by
      cases st with
      | nil => rfl
      | cons x r =>
        obtain ⟨e, u⟩ := x
        have := h _ _ rfl
        exact push_ne (by intro c; have q : e ≤ d := this; omega)
    rw [e1, stk_dep b (d + 1) (p + a.sz) _ rest (fun x r e => by cases e; exact Nat.le_refl _), push_eq (by omega), show p + a.sz + b.sz = p + (Tr.nd a b).sz by show p + a.sz + b.sz = p + (a.sz + b.sz); omega]
    rfl
theorem flip_rel {n : Nat} : ∀ {t : Tr} {a : Nat}, Tr.at' t a → a + t.sz ≤ n → t.flip n = rel (mir t) (n - (a + t.sz))
  | .lf i, a, h, le => by
    have e : i = a := h
    show Tr.lf (n - 1 - i) = Tr.lf (n - (a + 1))
    congr 1
    omega
  | .nd l r, a, h, le => by
    have le' : a + (l.sz + r.sz) ≤ n := le
    show Tr.nd (r.flip n) (l.flip n) = Tr.nd (rel (mir r) (n - (a + (l.sz + r.sz)))) (rel (mir l) (n - (a + (l.sz + r.sz)) + (mir r).sz))
    rw [flip_rel h.2 (by omega), flip_rel h.1 (by omega), mir_sz, show n - (a + l.sz + r.sz) = n - (a + (l.sz + r.sz)) by omega, show n - (a + l.sz) = n - (a + (l.sz + r.sz)) + r.sz by omega]
theorem stk_mir {t : Tr} (h : t.good) : stk (dep t 0).reverse 0 [] = [(0, t.flip t.sz)] := by
  rw [dep_mir]
  have e := stk_dep (mir t) 0 0 [] [] (fun x r e => by cases e)
  rw [List.append_nil] at e
  rw [e]
  show [(0, rel (mir t) 0)] = _
  rw [flip_rel (n := t.sz) h.2 (by omega), show t.sz - (0 + t.sz) = 0 by omega]
def lenD (d : D) : D := match d with
  | .str z => .int (z.length : Nat)
  | _ => .non
theorem len_strD (p : List Bool) : lenD (strD p) = natD p.length := by
  show D.int (((wd p).length : Nat) : Int) = D.int ((p.length : Nat) : Int)
  rw [wd_len]
theorem path_len : ∀ {t : Tr} {q p : List Bool}, p ∈ t.paths q → p.length ≤ q.length + t.sz
  | .lf _, q, p, h => by rw [List.mem_singleton.mp h]; omega
  | .nd a b, q, p, h => by
    have e : (Tr.nd a b).sz = a.sz + b.sz := rfl
    have pa := Tr.sz_pos a
    have pb := Tr.sz_pos b
    rcases List.mem_append.mp (show p ∈ a.paths (q ++ [false]) ++ b.paths (q ++ [true]) from h) with m | m
    · have := path_len m
      rw [List.length_append, List.length_singleton] at this
      omega
    · have := path_len m
      rw [List.length_append, List.length_singleton] at this
      omega
theorem paths_len (t : Tr) (q : List Bool) : (t.paths q).length = t.sz := by rw [← dep_len t q.length, ← paths_dep, List.length_map]
theorem e_turned_tree (t : Tr) (b : Box) (h : t.good) : outOf (m_turned_tree (s0 ["tree", "lengths", "word"] [t.d] b)) = .ok (t.flip t.sz).d b := by
  have c : cm_turned_tree_0 { env := [.d t.d, .no, .no], box := b } = .ok (((t.paths []).map strD).map lenD) { env := [.d t.d, .no, .no], box := b } := by
    refine comp_map lenD (seq_it' (call_same (cons_at (call_same rfl (at_sure_tree' t b h)) rfl) (at_words_in t b h.1))) rfl (fun d hd => ?_) (small_line (by rw [List.length_map, paths_len]; have := h.1; omega))
    obtain ⟨p, hp, rfl⟩ := List.mem_map.mp hd
    refine ⟨_, rfl, b1_at rfl ?_, rfl⟩
    show (if (wd p).length ≤ sizeLine then some (D.int ((wd p).length : Nat)) else none) = _
    rw [if_pos (by rw [wd_len]; have := path_len hp; have := h.1; exact small_line (by have q : ([] : List Bool).length = 0 := rfl; omega))]
    rfl
  have e : ((t.paths []).map strD).map lenD = (dep t 0).map natD := by
    have pd := paths_dep t []
    rw [show ([] : List Bool).length = 0 from rfl] at pd
    rw [← pd, List.map_map, List.map_map]
    apply List.map_congr_left
    intro p _
    exact len_strD p
  rw [e] at c
  unfold m_turned_tree
  refine Eq.trans (congrArg outOf (seq_nx (setF_at c))) ?_
  have bk : m1 dBack (rd 1) (setS 1 (.o ((dep t 0).map natD)) { env := [.d t.d, .no, .no], box := b }) = .ok (lsD (dep t 0).reverse) { env := [.d t.d, .d (lsD (dep t 0)), .no], box := b } := by
    refine m1_at rfl ?_
    show some (D.lst ((dep t 0).map natD).reverse) = _
    rw [← List.map_reverse]
    rfl
  refine Eq.trans (congrArg outOf (ret_at (call_same (cons_at bk rfl) (at_tree_in (dep t 0).reverse b (t.flip t.sz) (by rw [List.length_reverse, dep_len]; exact h.1) (stk_mir h))))) ?_
  rfl
theorem at_turned_tree (t : Tr) (b : Box) (h : t.good) : F_turned_tree [t.d] b = .ok (t.flip t.sz).d b := by
  unfold F_turned_tree
  rw [fnOf_at (enc := fun t : Tr => [t.d]) (fun a a' h => Tr.d_inj (List.cons.inj h).1) t b, if_pos h]
/-! ### piece_at -/
theorem int1 : PySem.intText? ⟨#[49]⟩ = some 1 := by decide +kernel
theorem int0 : PySem.intText? ⟨#[48]⟩ = some 0 := by decide +kernel
def signD (x : Bool) : D := .str ⟨#[if x then 49 else 48]⟩
theorem int_sign (x : Bool) : dIntS (signD x) = some (.int (if x then 1 else 0)) := by
  cases x with
  | true =>
    show (if (⟨#[49]⟩ : Str).length ≤ 640 then (PySem.intText? ⟨#[49]⟩).map D.int else none) = _
    rw [if_pos (by decide), int1]
    rfl
  | false =>
    show (if (⟨#[48]⟩ : Str).length ≤ 640 then (PySem.intText? ⟨#[48]⟩).map D.int else none) = _
    rw [if_pos (by decide), int0]
    rfl
abbrev pS (t0 w : D) (h : D) (x : SV) (b : Box) : S := { env := [.d t0, .d w, .d h, x], box := b }
theorem pa_loop (t0 w : D) (b : Box) : ∀ (p : List Bool) (t u : Tr) (x : SV), t.sub p = some u → ∃ x', sForL (gN 3) lp_piece_at_0 (p.map signD) (pS t0 w t.d x b) = .nx (pS t0 w u.d x' b)
  | [], t, u, x, h => ⟨x, by have e : t = u := by unfold Tr.sub at h; exact Option.some.inj h
                             rw [e]; rfl⟩
  | y :: p, .lf _, u, x, h => by cases h
  | y :: p, .nd a c, u, x, h => by
    have h' : (if y then c.sub p else a.sub p) = some u := h
    have turn : ∀ (z : Tr), (if y then c else a) = z → lp_piece_at_0 (pS t0 w (Tr.nd a c).d (.d (signD y)) b) = .nx (pS t0 w z.d (.d (signD y)) b) := fun z ez => by
      unfold lp_piece_at_0
      refine Eq.trans (seq_nx (Eq.trans (if_f (not_at (mT_at (b1_at rfl rfl)))) rfl)) ?_
      have ix : dIx (Tr.nd a c).d (.int (if y then 1 else 0)) (pS t0 w (Tr.nd a c).d (.d (signD y)) b) = some z.d := by
        rw [← ez]
        cases y <;> rfl
      refine Eq.trans (set_at (ixN_at rfl (b1_at rfl (int_sign y)) rfl ix)) ?_
      rfl
    cases y with
    | true =>
      obtain ⟨x', q⟩ := pa_loop t0 w b p c u (.d (signD true)) h'
      exact ⟨x', Eq.trans (for_cons rfl (turn c rfl)) q⟩
    | false =>
      obtain ⟨x', q⟩ := pa_loop t0 w b p a u (.d (signD false)) h'
      exact ⟨x', Eq.trans (for_cons rfl (turn a rfl)) q⟩
theorem wd_signs (p : List Bool) : ((wd p).cps.toList.map fun c => D.str ⟨#[c]⟩) = p.map signD := by
  show (((p.map fun b => if b then 49 else 48).toArray).toList.map fun c => D.str ⟨#[c]⟩) = _
  rw [List.toList_toArray, List.map_map]
  rfl
theorem e_piece_at (t u : Tr) (p : List Bool) (b : Box) (h : t.sub p = some u) : outOf (m_piece_at (s0 ["tree", "word", "here", "sign"] [t.d, .str (wd p)] b)) = .ok u.d b := by
  unfold m_piece_at
  refine Eq.trans (congrArg outOf (seq_nx (set_at rfl))) ?_
  obtain ⟨x', q⟩ := pa_loop t.d (.str (wd p)) b p t u .no h
  have it : iSeq (rd 1) (pS t.d (.str (wd p)) t.d .no b) = .ok (p.map signD) (pS t.d (.str (wd p)) t.d .no b) := by
    rw [← wd_signs]
    rfl
  refine Eq.trans (congrArg outOf (seq_nx (Eq.trans (for_at it) q))) ?_
  rfl
theorem wd_inj {p q : List Bool} (h : wd p = wd q) : p = q := by
  unfold wd at h
  injection h with h
  have h' := congrArg Array.toList h
  rw [List.toList_toArray, List.toList_toArray] at h'
  have : ∀ (p q : List Bool), (p.map fun b => if b then 49 else 48) = (q.map fun b => if b then (49 : Nat) else 48) → p = q := fun p => by
    induction p with
    | nil => intro q e; cases q with | nil => rfl | cons _ _ => cases e
    | cons x p ih =>
      intro q e
      cases q with
      | nil => cases e
      | cons y q =>
        rw [List.map_cons, List.map_cons] at e
        injection e with e1 e2
        rw [ih q e2]
        congr 1
        cases x <;> cases y <;> first | rfl | cases e1
  exact this p q h'
theorem at_piece_at (t u : Tr) (p : List Bool) (b : Box) (h : t.sub p = some u) : F_piece_at [t.d, .str (wd p)] b = .ok u.d b := by
  unfold F_piece_at
  rw [fnOf_at (enc := fun p : Tr × List Bool => [p.1.d, .str (wd p.2)]) (fun a a' h => by
    have h1 := List.cons.inj h
    have h2 := (List.cons.inj h1.2).1
    injection h2 with h2
    exact Prod.ext (Tr.d_inj h1.1) (wd_inj h2)) (t, p) b, show (t, p).1.sub (t, p).2 = some u from h]
end K76
end S76e_

section S76f_
set_option Elab.async false
set_option linter.all false
set_option maxRecDepth 100000
set_option maxHeartbeats 4000000
namespace K76
open PySem PySem.Spec PyProof.Rows L2 Pv
/-! ### reaches gathered -/
def stepP (f : List Nat) (x : Nat × Nat) : List Nat := f.set x.1 (max (f.getD x.1 0) x.2)
theorem stepP_get {f : List Nat} {x : Nat × Nat} {i w : Nat} (h : (stepP f x)[i]? = some w) : ∃ z, f[i]? = some z ∧ z ≤ w ∧ ((i ≠ x.1 ∧ w = z) ∨ (i = x.1 ∧ w = max z x.2)) := by
  unfold stepP at h
  rw [List.getElem?_set] at h
  by_cases e : x.1 = i
  · subst e
    rw [if_pos rfl] at h
    split at h
    · rename_i lt
      cases h
      have g : f.getD x.1 0 = f[x.1] := by rw [List.getD_eq_getElem?_getD, List.getElem?_eq_getElem lt]; rfl
      exact ⟨f[x.1], List.getElem?_eq_getElem lt, by omega, .inr ⟨rfl, by rw [g]⟩⟩
    · cases h
  · rw [if_neg e] at h
    exact ⟨w, h, Nat.le_refl _, .inl ⟨fun z => e z.symm, rfl⟩⟩
theorem fold_mono : ∀ (ps : List (Nat × Nat)) (f : List Nat) (i w : Nat), (ps.foldl stepP f)[i]? = some w → ∃ z, f[i]? = some z ∧ z ≤ w
  | [], f, i, w, h => ⟨w, h, Nat.le_refl _⟩
  | x :: ps, f, i, w, h => by
    obtain ⟨z, h1, h2⟩ := fold_mono ps (stepP f x) i w h
    obtain ⟨y, g1, g2, _⟩ := stepP_get h1
    exact ⟨y, g1, by omega⟩
theorem fold_len : ∀ (ps : List (Nat × Nat)) (f : List Nat), (ps.foldl stepP f).length = f.length
  | [], f => rfl
  | x :: ps, f => by rw [List.foldl_cons, fold_len ps]; unfold stepP; rw [List.length_set]
theorem fold_hit : ∀ (ps : List (Nat × Nat)) (f : List Nat) (x : Nat × Nat) (w : Nat), x ∈ ps → (ps.foldl stepP f)[x.1]? = some w → x.2 ≤ w
  | y :: ps, f, x, w, m, h => by
    rcases List.mem_cons.mp m with z | z
    · subst z
      obtain ⟨z, h1, h2⟩ := fold_mono ps (stepP f x) x.1 w h
      obtain ⟨y', g1, g2, g3⟩ := stepP_get h1
      rcases g3 with ⟨c, _⟩ | ⟨_, c⟩
      · exact absurd rfl c
      · omega
    · exact fold_hit ps (stepP f y) x w z h
theorem fold_le {R : List Nat} : ∀ (ps : List (Nat × Nat)) (f : List Nat), (∀ x ∈ ps, ∀ v, R[x.1]? = some v → x.2 ≤ v) → (∀ (i z v : Nat), f[i]? = some z → R[i]? = some v → z ≤ v) → ∀ (i w v : Nat), (ps.foldl stepP f)[i]? = some w → R[i]? = some v → w ≤ v
  | [], f, _, h, i, w, v, a, b => h i w v a b
  | x :: ps, f, hp, h, i, w, v, a, b => by
    refine fold_le ps (stepP f x) (fun y hy => hp y (by simp [hy])) (fun i z v c d => ?_) i w v a b
    obtain ⟨y, g1, g2, g3⟩ := stepP_get c
    have := h i y v g1 d
    rcases g3 with ⟨_, c⟩ | ⟨e, c⟩
    · omega
    · subst e
      have := hp x (by simp) v d
      omega
theorem fold_reach {R : List Nat} {ps : List (Nat × Nat)} (h1 : ∀ x ∈ ps, ∀ v, R[x.1]? = some v → x.2 ≤ v) (h2 : ∀ (i v : Nat), R[i]? = some v → i ≤ v) (h3 : ∀ (i v : Nat), R[i]? = some v → v = i ∨ (i, v) ∈ ps) : ps.foldl stepP (List.range R.length) = R := by
  apply List.ext_getElem?
  intro i
  have len := fold_len ps (List.range R.length)
  rw [List.length_range] at len
  by_cases lt : i < R.length
  · have a : (ps.foldl stepP (List.range R.length))[i]? = some ((ps.foldl stepP (List.range R.length))[i]'(by omega)) := List.getElem?_eq_getElem _
    have c : R[i]? = some R[i] := List.getElem?_eq_getElem lt
    have up := fold_le ps (List.range R.length) h1 (fun i z v p q => by
      have l := (List.getElem?_eq_some_iff.mp q).1
      rw [List.getElem?_range l] at p
      cases p
      exact h2 i v q) i _ _ a c
    have low : R[i] ≤ (ps.foldl stepP (List.range R.length))[i]'(by omega) := by
      rcases h3 i _ c with e | e
      · obtain ⟨z, g1, g2⟩ := fold_mono ps _ i _ a
        rw [List.getElem?_range lt] at g1
        cases g1
        omega
      · exact fold_hit ps _ _ _ e a
    rw [a, c]
    congr 1
    omega
  · rw [List.getElem?_eq_none (by omega), List.getElem?_eq_none (by omega)]
/-- the nodes below, by their first and last leaf -/
def nds : Tr → Nat → List (Nat × Nat)
  | .lf _, _ => []
  | .nd a b, f => (f, f + (a.sz + b.sz) - 1) :: (nds a f ++ nds b (f + a.sz))
theorem nds_row : ∀ {t : Tr} {a : Nat} {x : Nat × Nat}, x ∈ nds t a → a ≤ x.1 ∧ x.1 < a + t.sz ∧ x.2 < a + t.sz ∧ ∀ v, (t.row a)[x.1 - a]? = some v → x.2 ≤ v
  | .nd l r, a, x, m => by
    have pl := Tr.sz_pos l
    have pr := Tr.sz_pos r
    have es : (Tr.nd l r).sz = l.sz + r.sz := rfl
    rcases List.mem_cons.mp m with z | m
    · subst z
      refine ⟨Nat.le_refl _, by show a < a + _; omega, by show a + (l.sz + r.sz) - 1 < _; omega, fun v h => ?_⟩
      rw [show a - a = 0 by omega] at h
      cases h
      exact Nat.le_refl _
    · rcases List.mem_append.mp m with m | m
      · obtain ⟨h1, h2, h3, h4⟩ := nds_row m
        refine ⟨h1, by omega, by omega, fun v h => ?_⟩
        by_cases e : x.1 = a
        · rw [e, show a - a = 0 by omega] at h
          cases h
          omega
        · rw [Tr.row_left (by omega) (by omega)] at h
          exact h4 v h
      · obtain ⟨h1, h2, h3, h4⟩ := nds_row m
        refine ⟨by omega, by omega, by omega, fun v h => ?_⟩
        rw [show x.1 - a = l.sz + (x.1 - (a + l.sz)) by omega, Tr.row_right] at h
        exact h4 v h
theorem row_nds : ∀ {t : Tr} {a i v : Nat}, (t.row a)[i]? = some v → v = a + i ∨ (a + i, v) ∈ nds t a
  | .lf _, a, 0, v, h => by cases h; exact .inl rfl
  | .lf _, a, i + 1, v, h => by simp [Tr.row] at h
  | .nd l r, a, i, v, h => by
    have pl := Tr.sz_pos l
    by_cases h0 : i = 0
    · subst h0
      cases h
      exact .inr (List.mem_cons_self ..)
    · by_cases hl : i < l.sz
      · rw [Tr.row_left (by omega) hl] at h
        rcases row_nds h with e | e
        · exact .inl e
        · exact .inr (List.mem_cons_of_mem _ (List.mem_append_left _ e))
      · obtain ⟨j, rfl⟩ : ∃ j, i = l.sz + j := ⟨i - l.sz, by omega⟩
        rw [Tr.row_right] at h
        rcases row_nds h with e | e
        · exact .inl (by omega)
        · refine .inr (List.mem_cons_of_mem _ (List.mem_append_right _ ?_))
          rw [show a + (l.sz + j) = a + l.sz + j by omega]
          exact e
theorem reach_of {t : Tr} {ps : List (Nat × Nat)} (h1 : ∀ x ∈ ps, x ∈ nds t 0) (h2 : ∀ x ∈ nds t 0, x ∈ ps) : ps.foldl stepP (List.range t.sz) = t.row 0 := by
  have := fold_reach (R := t.row 0) (ps := ps) (fun x hx v hv => (nds_row (h1 x hx)).2.2.2 v (by rw [Nat.sub_zero]; exact hv)) (fun i v h => by have := Tr.row_bound h; omega) (fun i v h => by
    rcases row_nds h with e | e
    · exact .inl (by omega)
    · rw [Nat.zero_add] at e
      exact .inr (h2 _ e))
  rw [Tr.row_len] at this
  exact this
/-! a node's way down -/
theorem ipaths_sub : ∀ {t : Tr} {a : Nat} {q p : List Bool}, Tr.at' t a → p ∈ t.ipaths q → ∃ r u f, p = q ++ r ∧ t.sub r = some u ∧ Tr.at' u f ∧ u.sz ≤ t.sz ∧ 2 ≤ u.sz ∧ (f, f + u.sz - 1) ∈ nds t a
  | .nd l r, a, q, p, h, m => by
    have pl := Tr.sz_pos l
    have pr := Tr.sz_pos r
    rcases List.mem_cons.mp (show p ∈ q :: (l.ipaths (q ++ [false]) ++ r.ipaths (q ++ [true])) from m) with z | m
    · exact ⟨[], .nd l r, a, by rw [z, List.append_nil], rfl, h, Nat.le_refl _, by show 2 ≤ l.sz + r.sz; omega, List.mem_cons_self ..⟩
    · have es : (Tr.nd l r).sz = l.sz + r.sz := rfl
      rcases List.mem_append.mp m with m | m
      · obtain ⟨s, u, f, h1, h2, h3, h4, h5, h6⟩ := ipaths_sub h.1 m
        exact ⟨false :: s, u, f, by rw [h1, List.append_assoc]; rfl, h2, h3, by omega, h5, List.mem_cons_of_mem _ (List.mem_append_left _ h6)⟩
      · obtain ⟨s, u, f, h1, h2, h3, h4, h5, h6⟩ := ipaths_sub h.2 m
        exact ⟨true :: s, u, f, by rw [h1, List.append_assoc]; rfl, h2, h3, by omega, h5, List.mem_cons_of_mem _ (List.mem_append_right _ h6)⟩
theorem nds_ipaths : ∀ {t : Tr} {a : Nat} {q : List Bool} {x : Nat × Nat}, Tr.at' t a → x ∈ nds t a → ∃ r u, q ++ r ∈ t.ipaths q ∧ t.sub r = some u ∧ Tr.at' u x.1 ∧ x.2 = x.1 + u.sz - 1
  | .nd l r, a, q, x, h, m => by
    rcases List.mem_cons.mp m with z | m
    · exact ⟨[], .nd l r, by rw [List.append_nil]; exact List.mem_cons_self .., rfl, by rw [z]; exact h, by rw [z]; rfl⟩
    · rcases List.mem_append.mp m with m | m
      · obtain ⟨s, u, h1, h2, h3, h4⟩ := nds_ipaths (q := q ++ [false]) h.1 m
        exact ⟨false :: s, u, List.mem_cons_of_mem _ (List.mem_append_left _ (by rw [List.append_assoc] at h1; exact h1)), h2, h3, h4⟩
      · obtain ⟨s, u, h1, h2, h3, h4⟩ := nds_ipaths (q := q ++ [true]) h.2 m
        exact ⟨true :: s, u, List.mem_cons_of_mem _ (List.mem_append_right _ (by rw [List.append_assoc] at h1; exact h1)), h2, h3, h4⟩
/-! ### reach_in -/
abbrev rS (t0 : D) (f : List Nat) (w l : SV) (b : Box) : S := { env := [.d t0, .o (f.map natD), w, l], box := b }
theorem atI_nat {α : Type} {l : List α} {i : Nat} {x : α} (h : l[i]? = some x) : atI l ((i : Nat) : Int) = some x := by
  have lt := (List.getElem?_eq_some_iff.mp h).1
  unfold atI ixN
  rw [if_pos (by omega), if_pos (by omega), Int.toNat_natCast]
  exact h
theorem lv_first {u : Tr} {f : Nat} (h : Tr.at' u f) : atI (u.lv.map natD) 0 = some (natD f) := by
  have p := Tr.sz_pos u
  refine atI_nat (i := 0) ?_
  rw [Tr.lv_at h, List.getElem?_map, List.getElem?_range' p]
  simp
theorem lv_last {u : Tr} {f : Nat} (h : Tr.at' u f) : atI (u.lv.map natD) (-1) = some (natD (f + u.sz - 1)) := by
  have p := Tr.sz_pos u
  obtain ⟨m, e⟩ : ∃ m, u.sz = m + 1 := ⟨u.sz - 1, by omega⟩
  rw [Tr.lv_at h, e, List.range'_concat, List.map_append]
  show atI (List.map natD (List.range' f m) ++ [natD (f + 1 * m)]) (-1) = _
  rw [at_last]
  congr 2
  omega
theorem max_nat (a c : Nat) : dMax2 (natD a) (natD c) = some (natD (max a c)) := by
  show some (D.int (max (a : Int) (c : Int))) = some (D.int ((max a c : Nat) : Int))
  congr 2
  omega
theorem r_turn (t : Tr) (f : List Nat) (l : SV) (b : Box) (p : List Bool) (u : Tr) (i : Nat) (h1 : t.sub p = some u) (h2 : Tr.at' u i) (h3 : u.sz ≤ 60) (h4 : i < f.length) :
    lp_reach_in_0 (rS t.d f (.d (strD p)) l b) = .nx (rS t.d (stepP f (i, i + u.sz - 1)) (.d (strD p)) (.d (lsD u.lv)) b) := by
  unfold lp_reach_in_0
  refine Eq.trans (seq_nx (set_at (call_same (cons_at (call_same rfl (at_piece_at t u p b h1)) rfl) (at_leaves_in u b h3)))) ?_
  have fi : f[i]? = some (f.getD i 0) := by rw [List.getD_eq_getElem?_getD, List.getElem?_eq_getElem h4]; rfl
  have first : mIxN 3 (con (.int 0)) (rS t.d f (.d (strD p)) (.d (lsD u.lv)) b) = .ok (natD i) (rS t.d f (.d (strD p)) (.d (lsD u.lv)) b) := ixN_at rfl rfl rfl (lv_first h2)
  have last : mIxN 3 (mNeg (con (.int 1))) (rS t.d f (.d (strD p)) (.d (lsD u.lv)) b) = .ok (natD (i + u.sz - 1)) (rS t.d f (.d (strD p)) (.d (lsD u.lv)) b) := ixN_at rfl rfl rfl (lv_last h2)
  have old : mIxN 1 (mIxN 3 (con (.int 0))) (rS t.d f (.d (strD p)) (.d (lsD u.lv)) b) = .ok (natD (f.getD i 0)) (rS t.d f (.d (strD p)) (.d (lsD u.lv)) b) :=
    ixN_at rfl first rfl (by show atI (f.map natD) ((i : Nat) : Int) = _; exact atI_nat (by rw [List.getElem?_map, fi]; rfl))
  refine putIx_at (m2_at old last (max_nat _ _)) rfl first ?_
  show putL 1 ((i : Nat) : Int) (natD (max (f.getD i 0) (i + u.sz - 1))) (f.map natD) _ = _
  unfold putL ixN
  rw [if_pos (by omega), if_pos (by rw [List.length_map]; omega), Int.toNat_natCast]
  show SO.nx _ = SO.nx _
  rw [← List.map_set]
  rfl
theorem r_loop (t : Tr) (h : t.good) (b : Box) : ∀ (qs : List (List Bool)) (f : List Nat) (w l : SV), f.length = t.sz → (∀ q ∈ qs, q ∈ t.ipaths []) →
    ∃ (ps : List (Nat × Nat)) (w' l' : SV), (∀ x ∈ ps, x ∈ nds t 0) ∧ (∀ q ∈ qs, ∀ u i, t.sub q = some u → Tr.at' u i → (i, i + u.sz - 1) ∈ ps) ∧ sForL (gN 2) lp_reach_in_0 (qs.map strD) (rS t.d f w l b) = .nx (rS t.d (ps.foldl stepP f) w' l' b)
  | [], f, w, l, _, _ => ⟨[], w, l, (fun _ m => by cases m), (fun _ m => by cases m), rfl⟩
  | q :: qs, f, w, l, hf, hq => by
    obtain ⟨r, u, i, e, h1, h2, h3, h4, h5⟩ := ipaths_sub (q := []) h.2 (hq q (by simp))
    rw [List.nil_append] at e
    subst e
    have lt := (nds_row h5).2.1
    obtain ⟨ps, w', l', g1, g2, g3⟩ := r_loop t h b qs (stepP f (i, i + u.sz - 1)) (.d (strD q)) (.d (lsD u.lv)) (by unfold stepP; rw [List.length_set]; exact hf) fun q hq' => hq q (by simp [hq'])
    refine ⟨(i, i + u.sz - 1) :: ps, w', l', fun x m => ?_, fun q' m u' i' s1 s2 => ?_, ?_⟩
    · rcases List.mem_cons.mp m with z | z
      · rw [z]; exact h5
      · exact g1 x z
    · rcases List.mem_cons.mp m with z | z
      · rw [z, h1] at s1
        cases s1
        have : i' = i := by
          have a1 := Tr.lv_at h2
          have a2 := Tr.lv_at s2
          rw [a1] at a2
          have p := Tr.sz_pos u
          obtain ⟨m, em⟩ : ∃ m, u.sz = m + 1 := ⟨u.sz - 1, by omega⟩
          rw [em, List.range'_succ, List.range'_succ] at a2
          exact (List.cons.inj a2).1.symm
        rw [this]
        exact List.mem_cons_self ..
      · exact List.mem_cons_of_mem _ (g2 q' z u' i' s1 s2)
    · exact Eq.trans (for_cons (s1 := rS t.d f (.d (strD q)) l b) rfl (r_turn t f l b q u i h1 h2 (by have := h.1; omega) (by rw [hf]; omega))) g3
theorem lift_wd : ∀ {ws : List Str} {ps : List (List Bool)}, (∀ w ∈ ws, w ∈ ps.map wd) → ∃ qs : List (List Bool), qs.map wd = ws ∧ ∀ q ∈ qs, q ∈ ps
  | [], _, _ => ⟨[], rfl, fun _ m => by cases m⟩
  | w :: ws, ps, h => by
    obtain ⟨p, hp, e⟩ := List.mem_map.mp (h w (by simp))
    obtain ⟨qs, e2, h2⟩ := lift_wd (ws := ws) (ps := ps) fun w hw => h w (by simp [hw])
    exact ⟨p :: qs, by rw [List.map_cons, e, e2], fun q m => by
      rcases List.mem_cons.mp m with z | z
      · rw [z]; exact hp
      · exact h2 q z⟩
theorem e_reach_in (t : Tr) (b : Box) (h : t.good) : outOf (m_reach_in (s0 ["tree", "found", "word", "leaves"] [t.d] b)) = .ok (rowD (t.row 0)) b := by
  unfold m_reach_in
  have rg : mRg1 (mB1 dLen (mCall F_leaves_in (aCons (rd 0) aNil))) { env := [.d t.d, .no, .no, .no], box := b } = .ok ((List.range t.sz).map natD) { env := [.d t.d, .no, .no, .no], box := b } := by
    refine Eq.trans (rg1_at (b1_at (call_same rfl (at_leaves_in t b h.1)) rfl) (by omega) (by rw [nats_len, Tr.lv_len]; have := h.1; omega)) ?_
    rw [Int.toNat_natCast, nats_len, Tr.lv_len, rgD_nats]
  refine Eq.trans (congrArg outOf (seq_nx (setF_at rg))) ?_
  have perm := List.mergeSort_perm ((t.ipaths []).map wd) leS
  obtain ⟨qs, e1, e2⟩ := lift_wd (ws := (sortS ((t.ipaths []).map wd)).reverse) (ps := t.ipaths []) fun w hw => by
    rw [List.mem_reverse] at hw
    exact perm.mem_iff.mp hw
  have it : iSeq (m1 dBack (mCall F_pair_words (aCons (rd 0) aNil))) (rS t.d (List.range t.sz) .no .no b) = .ok (qs.map strD) (rS t.d (List.range t.sz) .no .no b) := by
    refine seq_it (m1_at (call_same rfl (at_pair_words t b h.1)) ?_)
    show some (D.lst ((sortS ((t.ipaths []).map wd)).map D.str).reverse) = _
    rw [← List.map_reverse, ← e1, List.map_map]
    rfl
  obtain ⟨ps, w', l', g1, g2, g3⟩ := r_loop t h b qs (List.range t.sz) .no .no (List.length_range) e2
  have all : ps.foldl stepP (List.range t.sz) = t.row 0 := by
    refine reach_of g1 fun x hx => ?_
    obtain ⟨r, u, h1, h2, h3, h4⟩ := nds_ipaths (q := []) h.2 hx
    rw [List.nil_append] at h1
    have inq : r ∈ qs := by
      have m : wd r ∈ (sortS ((t.ipaths []).map wd)).reverse := by
        rw [List.mem_reverse]
        exact perm.mem_iff.mpr (List.mem_map_of_mem h1)
      rw [← e1] at m
      obtain ⟨q, hq, e⟩ := List.mem_map.mp m
      rw [← wd_inj e]
      exact hq
    have := g2 r inq u x.1 h2 h3
    rw [← h4] at this
    exact this
  rw [all] at g3
  refine Eq.trans (congrArg outOf (seq_nx (Eq.trans (for_at it) g3))) ?_
  rfl
theorem at_reach_in (t : Tr) (b : Box) (h : t.good) : F_reach_in [t.d] b = .ok (rowD (t.row 0)) b := by
  unfold F_reach_in
  rw [fnOf_at (enc := fun t : Tr => [t.d]) (fun a a' h => Tr.d_inj (List.cons.inj h).1) t b, if_pos h]
end K76
end S76f_

section S76g_
set_option Elab.async false
set_option linter.all false
set_option maxRecDepth 100000
set_option maxHeartbeats 4000000
namespace K76
open PySem PySem.Spec PyProof.Rows L2 Pv
/-! ### is_reach_in -/
theorem mem_enD {ns : List Nat} {d : D} (h : d ∈ enD 0 (ns.map natD)) : ∃ i v, d = .tup [natD i, natD v] ∧ ns[i]? = some v := by
  obtain ⟨i, hi⟩ := List.mem_iff_getElem?.mp h
  rw [enD_get, List.getElem?_map] at hi
  cases e : ns[i]? with
  | none => rw [e] at hi; cases hi
  | some v =>
    rw [e] at hi
    refine ⟨i, v, ?_, e⟩
    have := Option.some.inj hi
    rw [← this]
    show D.tup [.int ((0 + i : Nat) : Int), natD v] = _
    rw [Nat.zero_add]
    rfl
theorem all_true : ∀ (xs : List D), dAll (.lst (xs.map fun _ => D.bl true)) = some (.bl true) := fun xs => by
  have : xs.map (fun _ => D.bl true) = (List.replicate xs.length true).map D.bl := by simp [List.map_replicate, List.map_const']
  show (blsD (xs.map fun _ => D.bl true)).map (fun bs => D.bl (bs.all id)) = _
  rw [this, blsD_map]
  show some (D.bl ((List.replicate xs.length true).all id)) = _
  rw [List.all_eq_true.mpr fun b hb => by rw [List.eq_of_mem_replicate hb]; rfl]
theorem le_nat {a c : Nat} (h : a ≤ c) : dOrd (fun i j => decide (i ≤ j)) (fun a b => !strLt b a) (natD a) (natD c) = some true := by
  show some (decide ((a : Int) ≤ (c : Int))) = _
  rw [decide_eq_true (by omega)]
theorem ints_nats (l : List Nat) : intsD (l.map natD) = some (l.map fun n : Nat => (n : Int)) := by
  rw [show l.map natD = (l.map fun n : Nat => (n : Int)).map D.int by rw [List.map_map]; rfl, intsD_map]
theorem max_nats {l : List Nat} {v : Nat} (h1 : v ∈ l) (h2 : ∀ y ∈ l, y ≤ v) : dMax (.tup (l.map natD)) = some (natD v) := by
  show ((intsD (l.map natD)).bind maxL).map D.int = _
  rw [ints_nats]
  show (maxL (l.map fun n : Nat => (n : Int))).map D.int = _
  rw [maxL_of (m := (v : Int)) (List.mem_map_of_mem h1) fun y hy => by
    obtain ⟨z, hz, rfl⟩ := List.mem_map.mp hy
    have := h2 z hz
    omega]
  rfl
theorem cut_nats (ns : List Nat) (i j : Nat) : dSl (rowD ns) (some (i : Int)) (some (j : Int)) = some (.tup (((ns.drop (min i ns.length)).take (min j ns.length - min i ns.length)).map natD)) := by
  show some (D.tup (Pv.cutD (ns.map natD) _ _)) = _
  unfold Pv.cutD
  rw [HT.sIx_nat, HT.sIx_nat, List.length_map, List.map_take, List.map_drop]
theorem e_is_reach_in (t : Tr) (b : Box) (h : t.good) : outOf (m_is_reach_in (s0 ["row", "last", "place", "own"] [rowD (t.row 0)] b)) = .ok (.bl true) b := by
  have p := Tr.sz_pos t
  have len := Tr.row_len t 0
  have sub : dSub (.int ((((t.row 0).map natD).length : Nat) : Int)) (.int 1) = some (natD (t.sz - 1)) := by
    show some (D.int (((((t.row 0).map natD).length : Nat) : Int) - 1)) = some (D.int ((t.sz - 1 : Nat) : Int))
    rw [nats_len, len]
    congr 2
    omega
  unfold m_is_reach_in
  refine Eq.trans (congrArg outOf (seq_nx (set_at (m2_at (b1_at rfl rfl) rfl sub)))) ?_
  have c0 : cm_is_reach_in_0 { env := [.d (rowD (t.row 0)), .d (natD (t.sz - 1)), .no, .no], box := b } = .ok ((enD 0 ((t.row 0).map natD)).map fun _ => .bl true) { env := [.d (rowD (t.row 0)), .d (natD (t.sz - 1)), .no, .no], box := b } := by
    refine Pv.comp_map (fun _ => .bl true) (en_it (q := (false, (t.row 0).map natD)) rfl rfl) rfl (fun d hd => ?_) (small_line (by rw [enD_len, nats_len, len]; have := h.1; omega))
    obtain ⟨i, v, rfl, e⟩ := mem_enD hd
    have bd := Tr.row_bound e
    exact ⟨_, rfl, mB_at (m3b_at rfl rfl (le_nat (by omega)) rfl (le_nat (by omega))), rfl⟩
  have c1 : cm_is_reach_in_1 { env := [.d (rowD (t.row 0)), .d (natD (t.sz - 1)), .no, .no], box := b } = .ok ((enD 0 ((t.row 0).map natD)).map fun _ => .bl true) { env := [.d (rowD (t.row 0)), .d (natD (t.sz - 1)), .no, .no], box := b } := by
    refine Pv.comp_map (fun _ => .bl true) (en_it (q := (false, (t.row 0).map natD)) rfl rfl) rfl (fun d hd => ?_) (small_line (by rw [enD_len, nats_len, len]; have := h.1; omega))
    obtain ⟨i, v, rfl, e⟩ := mem_enD hd
    have bd := Tr.row_bound e
    have lt : i < t.sz := by rw [← len]; exact (List.getElem?_eq_some_iff.mp e).1
    have sl : mSl (rd 0) (oIn (rd 2)) (oIn (m2 dAdd (rd 3) (con (.int 1)))) { env := [.d (rowD (t.row 0)), .d (natD (t.sz - 1)), .d (natD i), .d (natD v)], box := b } = .ok (.tup ((((t.row 0).drop (min i (t.row 0).length)).take (min (v + 1) (t.row 0).length - min i (t.row 0).length)).map natD)) { env := [.d (rowD (t.row 0)), .d (natD (t.sz - 1)), .d (natD i), .d (natD v)], box := b } := by
      show ((ofO (dSl (rowD (t.row 0)) (some ((i : Nat) : Int)) (some (((v : Nat) : Int) + 1))) _) : Out D) = _
      rw [show ((v : Nat) : Int) + 1 = ((v + 1 : Nat) : Int) by omega, cut_nats]
      rfl
    have mx : dMax (.tup ((((t.row 0).drop (min i (t.row 0).length)).take (min (v + 1) (t.row 0).length - min i (t.row 0).length)).map natD)) = some (natD v) := by
      refine max_nats ?_ ?_
      · rw [len, Nat.min_eq_left (by omega), Nat.min_eq_left (by omega)]
        refine List.mem_iff_getElem?.mpr ⟨0, ?_⟩
        rw [List.getElem?_take_of_lt (by omega), List.getElem?_drop]
        exact e
      · intro y hy
        rw [len, Nat.min_eq_left (by omega), Nat.min_eq_left (by omega)] at hy
        obtain ⟨k, hk⟩ := List.mem_iff_getElem?.mp hy
        have kl : k < v + 1 - i := by
          have := (List.getElem?_eq_some_iff.mp hk).1
          rw [List.length_take] at this
          omega
        rw [List.getElem?_take_of_lt kl, List.getElem?_drop] at hk
        exact Tr.row_nest e hk (by omega) (by omega)
    exact ⟨_, rfl, mB_at (m2b_at (b1_at sl mx) rfl ((nat_eq v v).trans (by rw [decide_eq_true rfl]))), rfl⟩
  have first : mIxN 0 (con (.int 0)) { env := [.d (rowD (t.row 0)), .d (natD (t.sz - 1)), .no, .no], box := b } = .ok (natD (t.sz - 1)) { env := [.d (rowD (t.row 0)), .d (natD (t.sz - 1)), .no, .no], box := b } := by
    refine ixN_at rfl rfl rfl ?_
    show atI ((t.row 0).map natD) ((0 : Nat) : Int) = _
    refine atI_nat ?_
    rw [List.getElem?_map, Tr.row_head]
    show some (natD (0 + t.sz - 1)) = _
    rw [Nat.zero_add]
  have ne : (fun x y => (dEq x y).map (!·)) (natD (t.sz - 1)) (natD (t.sz - 1)) = some false := by
    show (dEq _ _).map _ = _
    rw [nat_eq, decide_eq_true rfl]
    rfl
  refine Eq.trans (congrArg outOf (seq_nx (Eq.trans (if_f (Eq.trans (or_f (m2b_at first rfl ne)) (not_at (mT_at (b1_at (lst_at c0) (all_true _)))))) rfl))) ?_
  refine Eq.trans (congrArg outOf (ret_at (b1_at (lst_at c1) (all_true _)))) ?_
  rfl
theorem rowD_inj {a c : List Nat} (h : rowD a = rowD c) : a = c := nats_inj (by unfold rowD at h; injection h)
theorem at_is_reach_in (t : Tr) (b : Box) (h : t.good) : F_is_reach_in [rowD (t.row 0)] b = .ok (.bl true) b := by
  unfold F_is_reach_in
  rw [fnOf_at (enc := fun ns : List Nat => [rowD ns]) (fun a a' h => rowD_inj (List.cons.inj h).1) (t.row 0) b, if_pos ⟨t, h, rfl⟩]
/-! ### tree_of_row -/
theorem rowL_inj {l l' : Bool} {a c : List Nat} (h : rowL l a = rowL l' c) : l = l' ∧ a = c := by
  cases l <;> cases l'
  · exact ⟨rfl, rowD_inj h⟩
  · cases h
  · cases h
  · exact ⟨rfl, nats_inj (by have h' : D.lst (a.map natD) = D.lst (c.map natD) := h; injection h')⟩
theorem Fits.uniq {ns : List Nat} {f e : Nat} {t u : Tr} (h : Fits ns f e t) (g : Fits ns f e u) : t = u :=
  Tr.row_inj h.at_ g.at_ (by have := h.sz; have := g.sz; omega) fun i h0 hi => by rw [← h.row i h0 hi, ← g.row i h0 (by have := h.sz; have := g.sz; omega)]
theorem at_torF {n : Nat} {l : Bool} {ns : List Nat} {f e : Nat} {t : Tr} {b : Box} (h : Fits ns f e t) (hn : t.sz ≤ n) : torF n [rowL l ns, natD f, natD e] b = .ok t.d b := by
  unfold torF
  have c : (∃ t, Fits ns f e t) ∧ e + 1 - f ≤ n := ⟨⟨t, h⟩, by have := h.sz; omega⟩
  rw [fnOf_at (enc := fun p : Bool × List Nat × Nat × Nat => [rowL p.1 p.2.1, natD p.2.2.1, natD p.2.2.2]) (fun a a' h => by
    have h1 := List.cons.inj h
    have h2 := List.cons.inj h1.2
    have h3 := List.cons.inj h2.2
    have r := rowL_inj h1.1
    exact Prod.ext r.1 (Prod.ext r.2 (Prod.ext (natD_inj h2.1) (natD_inj h3.1)))) (l, ns, f, e) b]
  rw [dif_pos c, Fits.uniq c.1.choose_spec h]
abbrev oS (r : D) (f e : Nat) (st : SV) (b : Box) : S := { env := [.d r, .d (natD f), .d (natD e), st], box := b }
theorem ix_rowL {l : Bool} {ns : List Nat} {i v : Nat} {s : S} (h : ns[i]? = some v) : dIx (rowL l ns) (natD i) s = some (natD v) := by
  cases l with
  | true => exact atI_nat (by rw [List.getElem?_map, h]; rfl)
  | false => exact atI_nat (by rw [List.getElem?_map, h]; rfl)
theorem lt_nat (a c : Nat) : dOrd (fun i j => decide (i < j)) strLt (natD a) (natD c) = some (decide (a < c)) := by
  show some (decide ((a : Int) < (c : Int))) = _
  congr 1
  rw [Bool.eq_iff_iff, decide_eq_true_iff, decide_eq_true_iff]
  omega
theorem o_loop (l : Bool) (ns : List Nat) (f e : Nat) (a c : Tr) (rc : Fn) (b : Box) (h : Fits ns f e (.nd a c)) : ∀ (k st : Nat), f < st → st ≤ f + a.sz → f + a.sz < k + st →
    sWhile (lp_tree_of_row_0_c rc) (lp_tree_of_row_0 rc) k (oS (rowL l ns) f e (.d (natD st)) b) = .nx (oS (rowL l ns) f e (.d (natD (f + a.sz))) b)
  | 0, st, h1, h2, h3 => by omega
  | k + 1, st, h1, h2, h3 => by
    have pc := Tr.sz_pos c
    have es : f + (a.sz + c.sz) = e + 1 := h.sz
    by_cases c1 : st < f + a.sz
    · have g := h.row (st - f) (by omega) (show st - f < a.sz + c.sz by omega)
      rw [Tr.row_left (by omega) (by omega), show f + (st - f) = st by omega] at g
      have ex : (a.row f)[st - f]? = some ((a.row f)[st - f]'(by rw [Tr.row_len]; omega)) := List.getElem?_eq_getElem _
      rw [ex] at g
      have bd := Tr.row_bound ex
      have t1 : lp_tree_of_row_0_c rc (oS (rowL l ns) f e (.d (natD st)) b) = .ok true (oS (rowL l ns) f e (.d (natD st)) b) :=
        m2b_at (ixN_at rfl rfl rfl (ix_rowL g)) rfl ((lt_nat _ _).trans (by rw [decide_eq_true (by omega)]))
      have ad : dAdd (natD ((a.row f)[st - f]'(by rw [Tr.row_len]; omega))) (.int 1) = some (natD ((a.row f)[st - f]'(by rw [Tr.row_len]; omega) + 1)) := rfl
      have t2 : lp_tree_of_row_0 rc (oS (rowL l ns) f e (.d (natD st)) b) = .nx (oS (rowL l ns) f e (.d (natD ((a.row f)[st - f]'(by rw [Tr.row_len]; omega) + 1))) b) := by
        refine Eq.trans (set_at (m2_at (ixN_at rfl rfl rfl (ix_rowL g)) rfl ad)) ?_
        rfl
      rw [while_go t1 t2]
      exact o_loop l ns f e a c rc b h k _ (by omega) (by omega) (by omega)
    · have e1 : st = f + a.sz := by omega
      subst e1
      have pa := Tr.sz_pos a
      have g := h.row (a.sz + 0) (by omega) (show a.sz + 0 < a.sz + c.sz by omega)
      rw [Tr.row_right, Tr.row_head, show f + (a.sz + 0) = f + a.sz by omega] at g
      have t1 : lp_tree_of_row_0_c rc (oS (rowL l ns) f e (.d (natD (f + a.sz))) b) = .ok false (oS (rowL l ns) f e (.d (natD (f + a.sz))) b) :=
        m2b_at (ixN_at rfl rfl rfl (ix_rowL g)) rfl ((lt_nat _ _).trans (by rw [decide_eq_false (by omega)]))
      exact while_end t1
theorem e_tree_of_row (n : Nat) (l : Bool) (ns : List Nat) (f e : Nat) (t : Tr) (b : Box) (h : Fits ns f e t) (hn : t.sz ≤ n + 1) : outOf (m_tree_of_row (torF n) (s0 ["row", "first", "last", "start"] [rowL l ns, natD f, natD e] b)) = .ok t.d b := by
  unfold m_tree_of_row
  cases t with
  | lf i =>
    have ei : i = f := h.at_
    have ee : f + 1 = e + 1 := h.sz
    have : e = f := by omega
    subst this
    subst ei
    refine Eq.trans (congrArg outOf (seq_rt (Eq.trans (if_t (m2b_at rfl rfl ((nat_eq i i).trans (by rw [decide_eq_true rfl])))) (ret_at rfl)))) ?_
    rfl
  | nd a c =>
    have pa := Tr.sz_pos a
    have pc := Tr.sz_pos c
    have es : f + (a.sz + c.sz) = e + 1 := h.sz
    have hn' : a.sz + c.sz ≤ n + 1 := hn
    have hlt := h.lt
    have hsm := h.small
    refine Eq.trans (congrArg outOf (seq_nx (Eq.trans (if_f (m2b_at rfl rfl ((nat_eq f e).trans (by rw [decide_eq_false (by omega)])))) rfl))) ?_
    refine Eq.trans (congrArg outOf (seq_nx (set_at (m2_at rfl rfl (z := natD (f + 1)) rfl)))) ?_
    have lp := o_loop l ns f e a c (torF n) b h 200 (f + 1) (by omega) (by omega) (by omega)
    refine Eq.trans (congrArg outOf (seq_nx lp)) ?_
    have fa : Fits ns f (f + a.sz - 1) a := ⟨h.at_.1, by omega, by omega, hsm, fun i h0 hi => by
      rw [h.row i h0 (show i < a.sz + c.sz by omega), Tr.row_left h0 hi]⟩
    have fc : Fits ns (f + a.sz) e c := ⟨h.at_.2, by omega, hlt, hsm, fun i h0 hi => by
      rw [show f + a.sz + i = f + (a.sz + i) by omega, h.row (a.sz + i) (by omega) (show a.sz + i < a.sz + c.sz by omega), Tr.row_right]⟩
    have sub : dSub (natD (f + a.sz)) (.int 1) = some (natD (f + a.sz - 1)) := by
      show some (D.int (((f + a.sz : Nat) : Int) - 1)) = some (D.int ((f + a.sz - 1 : Nat) : Int))
      congr 2
      omega
    refine Eq.trans (congrArg outOf (ret_at (tup_at (cons_at (call_same (cons_at rfl (cons_at rfl (cons_at (m2_at rfl rfl sub) rfl))) (at_torF (l := l) fa (by omega))) (cons_at (call_same rfl (at_torF (l := l) fc (by omega))) rfl)) (by simp)))) ?_
    rfl
theorem at_tree_of_row {l : Bool} {ns : List Nat} {e : Nat} {t : Tr} {b : Box} (h : Fits ns 0 e t) : F_tree_of_row [rowL l ns, natD 0, natD e] b = .ok t.d b := at_torF h (by have := h.sz; have := h.lt; have := h.small; omega)
theorem fits_row {t : Tr} (h : t.good) : Fits (t.row 0) 0 (t.sz - 1) t := by
  have p := Tr.sz_pos t
  refine ⟨h.2, by omega, by rw [Tr.row_len]; omega, by rw [Tr.row_len]; exact h.1, fun i _ _ => by rw [Nat.zero_add]⟩
end K76
end S76g_

section S76h_
set_option Elab.async false
set_option linter.all false
set_option maxRecDepth 100000
set_option maxHeartbeats 4000000
namespace K76
open PySem PySem.Spec PyProof.Rows L2 Pv
open Classical
/-! ### is_below -/
theorem mem_zpD {xs ys : List Nat} {d : D} (h : d ∈ zpD (xs.map natD) (ys.map natD)) : ∃ a c, d = .tup [natD a, natD c] := by
  obtain ⟨i, hi⟩ := List.mem_iff_getElem?.mp h
  unfold zpD at hi
  rw [List.getElem?_zipWith, List.getElem?_map, List.getElem?_map] at hi
  cases e1 : xs[i]? with
  | none => rw [e1] at hi; cases hi
  | some a =>
    cases e2 : ys[i]? with
    | none => rw [e1, e2] at hi; cases hi
    | some c =>
      rw [e1, e2] at hi
      exact ⟨a, c, (Option.some.inj hi).symm⟩
def leD (d : D) : D := match d with
  | .tup [.int a, .int c] => .bl (decide (a ≤ c))
  | _ => .non
theorem le_all : ∀ (xs ys : List Nat), dAll (.lst ((zpD (xs.map natD) (ys.map natD)).map leD)) = some (.bl (allLe xs ys)) := by
  have go : ∀ (xs ys : List Nat), blsD ((zpD (xs.map natD) (ys.map natD)).map leD) = some ((List.zipWith (fun a c : Nat => decide (a ≤ c)) xs ys)) ∧ (List.zipWith (fun a c : Nat => decide (a ≤ c)) xs ys).all id = allLe xs ys := fun xs => by
    induction xs with
    | nil => intro ys; cases ys <;> exact ⟨rfl, rfl⟩
    | cons x xs ih =>
      intro ys
      cases ys with
      | nil => exact ⟨rfl, rfl⟩
      | cons y ys =>
        obtain ⟨h1, h2⟩ := ih ys
        refine ⟨?_, ?_⟩
        · show (blsD ((zpD (xs.map natD) (ys.map natD)).map leD)).map (decide ((x : Int) ≤ (y : Int)) :: ·) = some (decide (x ≤ y) :: _)
          rw [h1]
          show some (decide ((x : Int) ≤ (y : Int)) :: _) = _
          have e : decide ((x : Int) ≤ (y : Int)) = decide (x ≤ y) := by rw [Bool.eq_iff_iff, decide_eq_true_iff, decide_eq_true_iff]; omega
          rw [e]
        · show (decide (x ≤ y) && (List.zipWith (fun a c : Nat => decide (a ≤ c)) xs ys).all id) = (decide (x ≤ y) && allLe xs ys)
          rw [h2]
  intro xs ys
  obtain ⟨h1, h2⟩ := go xs ys
  show (blsD ((zpD (xs.map natD) (ys.map natD)).map leD)).map (fun bs => D.bl (bs.all id)) = _
  rw [h1, ← h2]
  rfl
theorem zp_len {xs ys : List Nat} : (zpD (xs.map natD) (ys.map natD)).length ≤ xs.length := by
  unfold zpD
  rw [List.length_zipWith, List.length_map]
  omega
theorem e_is_below (xs ys : List Nat) (b : Box) (h : xs.length ≤ 60) : outOf (m_is_below (s0 ["one", "other", "near", "far"] [rowD xs, rowD ys] b)) = .ok (.bl (allLe xs ys)) b := by
  have c : cm_is_below_0 { env := [.d (rowD xs), .d (rowD ys), .no, .no], box := b } = .ok ((zpD (xs.map natD) (ys.map natD)).map leD) { env := [.d (rowD xs), .d (rowD ys), .no, .no], box := b } := by
    refine Pv.comp_map leD (zp_it (q := (false, xs.map natD)) (r := (false, ys.map natD)) rfl rfl rfl rfl) rfl (fun d hd => ?_) (small_line (by have := zp_len (xs := xs) (ys := ys); omega))
    obtain ⟨a, c, rfl⟩ := mem_zpD hd
    exact ⟨_, rfl, mB_at (m2b_at rfl rfl rfl), rfl⟩
  unfold m_is_below
  refine Eq.trans (congrArg outOf (ret_at (b1_at (lst_at c) (le_all xs ys)))) ?_
  rfl
theorem at_is_below (xs ys : List Nat) (b : Box) (h : xs.length ≤ 60) (g : ys.length = xs.length) : F_is_below [rowD xs, rowD ys] b = .ok (.bl (allLe xs ys)) b := by
  unfold F_is_below
  rw [fnOf_at (enc := fun p : List Nat × List Nat => [rowD p.1, rowD p.2]) (fun a a' h => by
    have h1 := List.cons.inj h
    exact Prod.ext (rowD_inj h1.1) (rowD_inj (List.cons.inj h1.2).1)) (xs, ys) b, if_pos ⟨h, g⟩]
theorem allLe_iff : ∀ (n : Nat) (f g : Nat → Nat), allLe ((List.range n).map f) ((List.range n).map g) = true ↔ ∀ i, i < n → f i ≤ g i := by
  have gen : ∀ (n k : Nat) (f g : Nat → Nat), allLe ((List.range' k n).map f) ((List.range' k n).map g) = true ↔ ∀ i, k ≤ i → i < k + n → f i ≤ g i := fun n => by
    induction n with
    | zero => intro k f g; exact ⟨fun _ i h1 h2 => by omega, fun _ => rfl⟩
    | succ n ih =>
      intro k f g
      rw [List.range'_succ, List.map_cons, List.map_cons]
      show (decide (f k ≤ g k) && allLe _ _) = true ↔ _
      rw [Bool.and_eq_true, decide_eq_true_iff, ih (k + 1)]
      constructor
      · rintro ⟨h1, h2⟩ i hi hk
        by_cases e : i = k
        · rw [e]; exact h1
        · exact h2 i (by omega) (by omega)
      · intro h
        exact ⟨h k (Nat.le_refl _) (by omega), fun i h1 h2 => h i (by omega) (by omega)⟩
  intro n f g
  rw [List.range_eq_range', gen n 0 f g]
  exact ⟨fun h i hi => h i (Nat.zero_le _) (by omega), fun h i _ hi => h i (by omega)⟩
theorem rows_le {t u : Tr} (h : u.sz = t.sz) : allLe (t.row 0) (u.row 0) = decide (Tr.le t u) := by
  rw [Tr.row_map t, Tr.row_map u, h, Bool.eq_iff_iff, allLe_iff, @decide_eq_true_iff (Tr.le t u) (propDecidable _)]
  exact Iff.rfl
/-! ### lower_in -/
def minD (d : D) : D := match d with
  | .tup [.int a, .int c] => .int (min a c)
  | _ => .non
theorem mins_eq : ∀ (n : Nat) (f g : Nat → Nat), (zpD (((List.range n).map f).map natD) (((List.range n).map g).map natD)).map minD = ((List.range n).map fun i => min (f i) (g i)).map natD := by
  have gen : ∀ (l : List Nat) (f g : Nat → Nat), (zpD ((l.map f).map natD) ((l.map g).map natD)).map minD = (l.map fun i => min (f i) (g i)).map natD := fun l => by
    induction l with
    | nil => intro f g; rfl
    | cons x l ih =>
      intro f g
      show D.int (min (f x : Int) (g x : Int)) :: _ = natD (min (f x) (g x)) :: _
      congr 1
      · show D.int _ = D.int ((min (f x) (g x) : Nat) : Int)
        congr 1
        omega
      · exact ih f g
  exact fun n f g => gen _ f g
theorem mins_row {t u : Tr} (h : t.good) (g : u.good) (e : u.sz = t.sz) : (zpD ((t.row 0).map natD) ((u.row 0).map natD)).map minD = ((Tr.meet t.sz t u).row 0).map natD := by
  have sp := Tr.meet_spec h.ok (e ▸ g.ok)
  rw [Tr.row_map t, Tr.row_map u, e, mins_eq, Tr.row_map (Tr.meet t.sz t u), sp.1.2]
  congr 1
  apply List.map_congr_left
  intro i hi
  exact (sp.2 i (List.mem_range.mp hi)).symm
theorem meet_good {t u : Tr} (h : t.good) (g : u.good) (e : u.sz = t.sz) : (Tr.meet t.sz t u).good ∧ (Tr.meet t.sz t u).sz = t.sz := by
  have sp := (Tr.meet_spec h.ok (e ▸ g.ok)).1
  exact ⟨⟨by rw [sp.2]; exact h.1, sp.1⟩, sp.2⟩
theorem e_lower_in (t u : Tr) (b : Box) (h : t.good) (g : u.good) (e : u.sz = t.sz) : outOf (m_lower_in (s0 ["one", "other", "row", "near", "far"] [t.d, u.d] b)) = .ok (Tr.meet t.sz t u).d b := by
  obtain ⟨mg, ms⟩ := meet_good h g e
  have c : cm_lower_in_0 { env := [.d t.d, .d u.d, .no, .no, .no], box := b } = .ok (((Tr.meet t.sz t u).row 0).map natD) { env := [.d t.d, .d u.d, .no, .no, .no], box := b } := by
    rw [← mins_row h g e]
    refine Pv.comp_map minD (zp_it (q := (false, (t.row 0).map natD)) (r := (false, (u.row 0).map natD)) (call_same rfl (at_reach_in t b h)) (call_same rfl (at_reach_in u b g)) rfl rfl) rfl (fun d hd => ?_) (small_line (by have := zp_len (xs := t.row 0) (ys := u.row 0); rw [Tr.row_len] at this; have := h.1; omega))
    obtain ⟨a, c, rfl⟩ := mem_zpD hd
    exact ⟨_, rfl, m2_at rfl rfl rfl, rfl⟩
  unfold m_lower_in
  refine Eq.trans (congrArg outOf (seq_nx (setF_at c))) ?_
  have p := Tr.sz_pos t
  have sub : dSub (.int (((((Tr.meet t.sz t u).row 0).map natD).length : Nat) : Int)) (.int 1) = some (natD (t.sz - 1)) := by
    show some (D.int ((((((Tr.meet t.sz t u).row 0).map natD).length : Nat) : Int) - 1)) = some (D.int ((t.sz - 1 : Nat) : Int))
    rw [nats_len, Tr.row_len, ms]
    congr 2
    omega
  have ft := fits_row mg
  rw [ms] at ft
  refine Eq.trans (congrArg outOf (ret_at (call_same (cons_at rfl (cons_at rfl (cons_at (m2_at (b1_at rfl rfl) rfl sub) rfl))) (at_tree_of_row (l := true) ft)))) ?_
  rfl
theorem at_lower_in (t u : Tr) (b : Box) (h : t.good) (g : u.good) (e : u.sz = t.sz) : F_lower_in [t.d, u.d] b = .ok (Tr.meet t.sz t u).d b := by
  unfold F_lower_in
  rw [fnOf_at (enc := fun p : Tr × Tr => [p.1.d, p.2.d]) (fun a a' h => by
    have h1 := List.cons.inj h
    exact Prod.ext (Tr.d_inj h1.1) (Tr.d_inj (List.cons.inj h1.2).1)) (t, u) b, if_pos ⟨h, g, e⟩]
/-! ### flipped -/
theorem at_flipF {k n : Nat} {t : Tr} {b : Box} (h : ∀ i ∈ t.lv, i < n) (hk : t.sz ≤ k) : flipF k [t.d, natD n] b = .ok (t.flip n).d b := by
  unfold flipF
  rw [fnOf_at (enc := fun p : Tr × Nat => [p.1.d, natD p.2]) (fun a a' h => by
    have h1 := List.cons.inj h
    exact Prod.ext (Tr.d_inj h1.1) (natD_inj (List.cons.inj h1.2).1)) (t, n) b, if_pos ⟨h, hk⟩]
theorem e_flipped (k n : Nat) (t : Tr) (b : Box) (h : ∀ i ∈ t.lv, i < n) (hk : t.sz ≤ k + 1) : outOf (m_flipped (flipF k) (s0 ["tree", "many"] [t.d, natD n] b)) = .ok (t.flip n).d b := by
  unfold m_flipped
  cases t with
  | lf i =>
    have hi := h i (by simp [Tr.lv])
    have s1 : dSub (natD n) (.int 1) = some (natD (n - 1)) := by
      show some (D.int ((n : Int) - 1)) = some (D.int ((n - 1 : Nat) : Int))
      congr 2
      omega
    have s2 : dSub (natD (n - 1)) (natD i) = some (natD (n - 1 - i)) := by
      show some (D.int (((n - 1 : Nat) : Int) - (i : Int))) = some (D.int ((n - 1 - i : Nat) : Int))
      congr 2
      omega
    refine Eq.trans (congrArg outOf (seq_rt (Eq.trans (if_t (not_at (mT_at (b1_at rfl rfl)))) (ret_at (m2_at (m2_at rfl rfl s1) rfl s2))))) ?_
    rfl
  | nd a c =>
    have pa := Tr.sz_pos a
    have pc := Tr.sz_pos c
    have hk' : a.sz + c.sz ≤ k + 1 := hk
    have ha : ∀ i ∈ a.lv, i < n := fun i m => h i (List.mem_append_left _ m)
    have hc : ∀ i ∈ c.lv, i < n := fun i m => h i (List.mem_append_right _ m)
    refine Eq.trans (congrArg outOf (seq_nx (Eq.trans (if_f (not_at (mT_at (b1_at rfl rfl)))) rfl))) ?_
    refine Eq.trans (congrArg outOf (ret_at (tup_at (cons_at (call_same (cons_at (ixN_at rfl rfl rfl rfl) rfl) (at_flipF hc (by omega))) (cons_at (call_same (cons_at (ixN_at rfl rfl rfl rfl) rfl) (at_flipF ha (by omega))) rfl)) (by simp)))) ?_
    rfl
theorem good_lt {t : Tr} (h : t.good) : ∀ i ∈ t.lv, i < t.sz := fun i m => by
  rw [Tr.lv_at h.2] at m
  have := List.mem_range'_1.mp m
  omega
theorem at_flipped {t : Tr} {b : Box} (h : t.good) : F_flipped [t.d, natD t.sz] b = .ok (t.flip t.sz).d b := at_flipF (good_lt h) h.1
theorem flip_good {t : Tr} (h : t.good) : (t.flip t.sz).good ∧ (t.flip t.sz).sz = t.sz := by
  have := Tr.flip_ok h.ok
  exact ⟨⟨by rw [this.2]; exact h.1, this.1⟩, this.2⟩
/-! ### the doors -/
theorem mm_inj {a a' : Mx × Mx} (h : encMM a = encMM a') : a = a' := by
  have h1 := List.cons.inj h
  exact Prod.ext (Mx.d_inj h1.1) (Mx.d_inj (List.cons.inj h1.2).1)
theorem e_sure_pair (x y : Mx) (b : Box) (h : goodMM (x, y)) : outOf (m_sure_pair (s0 ["one", "other", "near", "far"] [x.d, y.d] b)) = .ok (.tup [x.tr.d, y.tr.d]) b := by
  obtain ⟨h1, h2, h3⟩ := h
  unfold m_sure_pair
  refine Eq.trans (congrArg outOf (seq_nx (set_at (call_same rfl (at_sure_tree x b h1))))) ?_
  refine Eq.trans (congrArg outOf (seq_nx (set_at (call_same rfl (at_sure_tree y b h2))))) ?_
  have ne : (fun x y => (dEq x y).map (!·)) (.int (((x.tr.lv.map natD).length : Nat) : Int)) (.int (((y.tr.lv.map natD).length : Nat) : Int)) = some false := by
    show (dEq (natD _) (natD _)).map _ = _
    rw [nat_eq, nats_len, nats_len, Tr.lv_len, Tr.lv_len, decide_eq_true (show x.tr.sz = y.tr.sz from h3.symm)]
    rfl
  refine Eq.trans (congrArg outOf (seq_nx (Eq.trans (if_f (m2b_at (b1_at (call_same rfl (at_leaves_in x.tr b h1.1)) rfl) (b1_at (call_same rfl (at_leaves_in y.tr b h2.1)) rfl) ne)) rfl))) ?_
  refine Eq.trans (congrArg outOf (ret_at (tup_at rfl (by simp)))) ?_
  rfl
theorem at_sure_pair (x y : Mx) (b : Box) (h : goodMM (x, y)) : F_sure_pair [x.d, y.d] b = .ok (.tup [x.tr.d, y.tr.d]) b := by
  unfold F_sure_pair
  exact (fnOf_at (enc := encMM) (fun a a' h => mm_inj h) (x, y) b).trans (if_pos h)
theorem e_reaches (m : Mx) (b : Box) (h : m.tr.good) : outOf (m_reaches (s0 ["tree"] [m.d] b)) = .ok (rowD (m.tr.row 0)) b := by
  unfold m_reaches
  refine Eq.trans (congrArg outOf (ret_at (call_same (cons_at (call_same rfl (at_sure_tree m b h)) rfl) (at_reach_in m.tr b h)))) ?_
  rfl
theorem at_reaches (m : Mx) (b : Box) (h : m.tr.good) : F_reaches [m.d] b = .ok (rowD (m.tr.row 0)) b := by
  unfold F_reaches
  rw [fnOf_at (enc := fun m : Mx => [m.d]) (fun a a' h => Mx.d_inj (List.cons.inj h).1) m b, if_pos h]
theorem e_goes_right (x y : Mx) (b : Box) (h : goodMM (x, y)) : outOf (m_goes_right (s0 ["one", "other", "near", "far"] [x.d, y.d] b)) = .ok (.bl (decide (Tr.le x.tr y.tr))) b := by
  unfold m_goes_right
  refine Eq.trans (congrArg outOf (seq_nx (asg_at (call_same rfl (at_sure_pair x y b h)) rfl))) ?_
  obtain ⟨h1, h2, h3⟩ := h
  have lb := at_is_below (x.tr.row 0) (y.tr.row 0) b (by rw [Tr.row_len]; exact h1.1) (by rw [Tr.row_len, Tr.row_len]; exact h3)
  rw [rows_le h3] at lb
  refine Eq.trans (congrArg outOf (ret_at (call_same (cons_at (call_same rfl (at_reach_in x.tr b h1)) (cons_at (call_same rfl (at_reach_in y.tr b h2)) rfl)) lb))) ?_
  rfl
theorem at_goes_right (x y : Mx) (b : Box) (h : goodMM (x, y)) : F_goes_right [x.d, y.d] b = .ok (.bl (decide (Tr.le x.tr y.tr))) b := by
  unfold F_goes_right
  exact (fnOf_at (enc := encMM) (fun a a' h => mm_inj h) (x, y) b).trans (if_pos h)
theorem e_right_below (x y : Mx) (b : Box) (h : goodMM (x, y)) : outOf (m_right_below (s0 ["one", "other", "near", "far"] [x.d, y.d] b)) = .ok (Tr.meet x.tr.sz x.tr y.tr).d b := by
  unfold m_right_below
  refine Eq.trans (congrArg outOf (seq_nx (asg_at (call_same rfl (at_sure_pair x y b h)) rfl))) ?_
  obtain ⟨h1, h2, h3⟩ := h
  refine Eq.trans (congrArg outOf (ret_at (call_same rfl (at_lower_in x.tr y.tr b h1 h2 h3)))) ?_
  rfl
theorem at_right_below (x y : Mx) (b : Box) (h : goodMM (x, y)) : F_right_below [x.d, y.d] b = .ok (Tr.meet x.tr.sz x.tr y.tr).d b := by
  unfold F_right_below
  exact (fnOf_at (enc := encMM) (fun a a' h => mm_inj h) (x, y) b).trans (if_pos h)
theorem e_right_above (x y : Mx) (b : Box) (h : goodMM (x, y)) : outOf (m_right_above (s0 ["one", "other", "many", "near", "far"] [x.d, y.d] b)) = .ok (Tr.join x.tr.sz x.tr y.tr).d b := by
  unfold m_right_above
  refine Eq.trans (congrArg outOf (seq_nx (asg_at (call_same rfl (at_sure_pair x y b h)) rfl))) ?_
  obtain ⟨h1, h2, h3⟩ := h
  have h3' : y.tr.sz = x.tr.sz := h3
  have len : dLen (lsD x.tr.lv) = some (natD x.tr.sz) := by
    show some (D.int (((x.tr.lv.map natD).length : Nat) : Int)) = _
    rw [nats_len, Tr.lv_len]
    rfl
  refine Eq.trans (congrArg outOf (seq_nx (set_at (b1_at (call_same rfl (at_leaves_in x.tr b h1.1)) len)))) ?_
  obtain ⟨g1, s1⟩ := flip_good h1
  obtain ⟨g2, s2⟩ := flip_good h2
  have fy := at_flipped (b := b) h2
  rw [h3'] at fy g2 s2
  have lo := at_lower_in (x.tr.flip x.tr.sz) (y.tr.flip x.tr.sz) b g1 g2 (by rw [s1, s2])
  rw [s1] at lo
  obtain ⟨g3, s3⟩ := meet_good g1 g2 (by rw [s1, s2])
  rw [s1] at g3 s3
  have fl := at_flipped (b := b) g3
  rw [s3] at fl
  refine Eq.trans (congrArg outOf (ret_at (call_same (cons_at (call_same (cons_at (call_same rfl (at_flipped h1)) (cons_at (call_same rfl fy) rfl)) lo) rfl) fl))) ?_
  rfl
theorem at_right_above (x y : Mx) (b : Box) (h : goodMM (x, y)) : F_right_above [x.d, y.d] b = .ok (Tr.join x.tr.sz x.tr y.tr).d b := by
  unfold F_right_above
  exact (fnOf_at (enc := encMM) (fun a a' h => mm_inj h) (x, y) b).trans (if_pos h)
theorem row_tup (ns : List Nat) (h : ns.length ≤ 60) : tupOk (rowD ns) = true ∧ depthD (rowD ns) < 61 ∧ tupD (rowD ns) = rowD ns := by
  have a : ∀ l : List Nat, tupOks (l.map natD) = true ∧ tupDs (l.map natD) = l.map natD := fun l => by
    induction l with
    | nil => exact ⟨rfl, rfl⟩
    | cons x l ih => exact ⟨by show (true && tupOks (l.map natD)) = true; rw [ih.1]; rfl, by show natD x :: tupDs (l.map natD) = _; rw [ih.2]; rfl⟩
  refine ⟨?_, ?_, ?_⟩
  · show (decide ((ns.map natD).length ≤ 100) && tupOks (ns.map natD)) = true
    rw [(a ns).1, decide_eq_true (by rw [nats_len]; omega)]
    rfl
  · show depthDs (ns.map natD) + 1 < 61
    rw [nats_dep]
    omega
  · show D.tup (tupDs (ns.map natD)) = _
    rw [(a ns).2]
    rfl
theorem at_are_numbers (ns : List Nat) (b : Box) (h : ns.length ≤ 60) : F_are_numbers [rowD ns] b = .ok (.bl true) b := by
  unfold F_are_numbers
  rw [fnOf_at (enc := fun ns : List Nat => [rowD ns]) (fun a a' h => rowD_inj (List.cons.inj h).1) ns b, if_pos h]
theorem e_tree_of_reaches (t : Tr) (b : Box) (h : t.good) : outOf (m_tree_of_reaches (s0 ["row", "own"] [rowD (t.row 0)] b)) = .ok t.d b := by
  have len := Tr.row_len t 0
  have p := Tr.sz_pos t
  have small : (t.row 0).length ≤ 60 := by rw [len]; exact h.1
  obtain ⟨r1, r2, r3⟩ := row_tup (t.row 0) small
  have tp := at_tupled (b := b) r1 r2
  rw [r3] at tp
  unfold m_tree_of_reaches
  refine Eq.trans (congrArg outOf (seq_nx (set_at (call_same rfl tp)))) ?_
  have l1 : dLen (rowD (t.row 0)) = some (natD t.sz) := by
    show some (D.int ((((t.row 0).map natD).length : Nat) : Int)) = _
    rw [nats_len, len]
    rfl
  have c1 : dOrd (fun i j => decide (i ≤ j)) (fun a b => !strLt b a) (.int 1) (natD t.sz) = some true := le_nat (a := 1) (by omega)
  have c2 : dOrd (fun i j => decide (i ≤ j)) (fun a b => !strLt b a) (natD t.sz) (.int 60) = some true := le_nat (c := 60) h.1
  refine Eq.trans (congrArg outOf (seq_nx (Eq.trans (if_f (Eq.trans (or_f (not_at (k := true) (mT_at (call_same rfl (at_are_numbers (t.row 0) b small))))) (not_at (k := true) (m3b_at rfl (b1_at rfl l1) c1 rfl c2)))) rfl))) ?_
  refine Eq.trans (congrArg outOf (seq_nx (Eq.trans (if_f (not_at (k := true) (mT_at (call_same rfl (at_is_reach_in t b h))))) rfl))) ?_
  have sub : dSub (natD t.sz) (.int 1) = some (natD (t.sz - 1)) := by
    show some (D.int ((t.sz : Int) - 1)) = some (D.int ((t.sz - 1 : Nat) : Int))
    congr 2
    omega
  refine Eq.trans (congrArg outOf (ret_at (call_same (cons_at rfl (cons_at rfl (cons_at (m2_at (b1_at rfl l1) rfl sub) rfl))) (at_tree_of_row (l := false) (fits_row h))))) ?_
  rfl
theorem row_uniq {t u : Tr} (h : t.good) (g : u.good) (e : t.row 0 = u.row 0) : t = u := by
  have s := congrArg List.length e
  rw [Tr.row_len, Tr.row_len] at s
  exact Tr.row_inj h.2 g.2 s fun i _ _ => by rw [e]
theorem at_tree_of_reaches (t : Tr) (b : Box) (h : t.good) : F_tree_of_reaches [rowD (t.row 0)] b = .ok t.d b := by
  unfold F_tree_of_reaches
  have c : isRow (t.row 0) := ⟨t, h, rfl⟩
  rw [fnOf_at (enc := fun ns : List Nat => [rowD ns]) (fun a a' h => rowD_inj (List.cons.inj h).1) (t.row 0) b, dif_pos c, row_uniq c.choose_spec.1 h c.choose_spec.2]
end K76
end S76h_

section S76i_
set_option Elab.async false
set_option linter.all false
set_option maxRecDepth 100000
set_option maxHeartbeats 4000000
namespace K76
open PySem PySem.Spec PyProof.Rows L2 Pv
open Classical
/-! ### the law's draws -/
theorem mod_at {x n : Int} (h : 0 < n) : dMod (.int x) (.int n) = some (.int (x % n)) := by
  show (if 0 < n then some (D.int (x % n)) else none) = _
  rw [if_pos h]
theorem div_at {x n : Int} (h : 0 < n) (g : n.natAbs.log2 < 9000) : dDiv (.int x) (.int n) = some (.int (x / n)) := by
  show (if 0 < n ∧ n.natAbs.log2 < 9000 then some (D.int (x / n)) else none) = _
  rw [if_pos ⟨h, g⟩]
theorem mul_at {x y : Int} (h : x.natAbs < 2 ^ 64 ∨ y.natAbs < 2 ^ 64) : dMul (.int x) (.int y) = some (.int (x * y)) := by
  show (if x.natAbs.log2 + y.natAbs.log2 < 1000000 ∨ (x.natAbs < 2 ^ 64 ∨ y.natAbs < 2 ^ 64) then some (D.int (x * y)) else none) = _
  rw [if_pos (.inr h)]
theorem gt_int (x y : Int) : dOrd (fun i j => decide (j < i)) (fun a b => strLt b a) (.int x) (.int y) = some (decide (y < x)) := rfl
theorem e_take (n : Int) (b : Box) (h : 0 < n) (g : n.natAbs.log2 < 9000) (o : okB b 1) : outOf (m__law_take (s0 ["tin", "below_so", "once_so", "wide_so", "twice_so", "drawn_so"] [.box, .int n] b)) = .ok (.int (takeV b n)) (takeB b n) := by
  unfold m__law_take
  by_cases c : 0 < b.1
  · have t1 : (dOrd (fun i j => decide (j < i)) fun a b => strLt b a) (.int b.1) (.int 0) = some true := by rw [gt_int, decide_eq_true c]
    refine Eq.trans (congrArg outOf (seq_rt (Eq.trans (if_t (m2b_at (ixN_at rfl rfl rfl rfl) rfl t1)) (Eq.trans (seq_nx (set_at (m2_at (b1_at (ixN_at rfl rfl rfl rfl) rfl) rfl (mod_at h)))) (Eq.trans (seq_nx (putIx_at (m2_at (ixN_at rfl rfl rfl rfl) rfl (div_at h g)) rfl rfl rfl)) (ret_at rfl)))))) ?_
    unfold takeV takeB
    rw [if_pos c, if_pos c]
    rfl
  · have t1 : (dOrd (fun i j => decide (j < i)) fun a b => strLt b a) (.int b.1) (.int 0) = some false := by rw [gt_int, decide_eq_false c]
    refine Eq.trans (congrArg outOf (seq_nx (Eq.trans (if_f (m2b_at (ixN_at rfl rfl rfl rfl) rfl t1)) rfl))) ?_
    refine Eq.trans (congrArg outOf (seq_nx (putIx_at (m2_at (ixN_at rfl rfl rfl rfl) rfl (z := .int (b.2.2 + 1)) rfl) rfl rfl rfl))) ?_
    have o1 := o.1
    have o2 := o.2
    have w : (((b.2.1 + 48271 * (b.2.2 + 1)) * (39373 + (b.2.2 + 1))) % 2147483647 % 40009 + 7).natAbs < 2 ^ 64 := by omega
    refine Eq.trans (congrArg outOf (seq_nx (set_at (m2_at (b1_at (m2_at (m2_at (ixN_at rfl rfl rfl rfl) (m2_at rfl (ixN_at rfl rfl rfl rfl) (mul_at (y := b.2.2 + 1) (.inl (by decide)))) rfl) (m2_at rfl (ixN_at rfl rfl rfl rfl) rfl) (mul_at (x := b.2.1 + 48271 * (b.2.2 + 1)) (y := 39373 + (b.2.2 + 1)) (.inr (by omega)))) rfl) rfl (mod_at (by decide)))))) ?_
    refine Eq.trans (congrArg outOf (seq_nx (set_at (m2_at (m2_at (b1_at rfl rfl) rfl (mod_at (by decide))) rfl rfl)))) ?_
    refine Eq.trans (congrArg outOf (seq_nx (set_at (m2_at (b1_at (m2_at (m2_at (m2_at rfl (ixN_at rfl rfl rfl rfl) rfl) (m2_at (ixN_at rfl rfl rfl rfl) rfl (div_at (by decide) (by decide))) rfl) rfl (mul_at (.inr w))) rfl) rfl (mod_at (by decide)))))) ?_
    refine Eq.trans (congrArg outOf (ret_at (m2_at (b1_at (m2_at (m2_at (b1_at (m2_at (m2_at rfl rfl (mul_at (.inr (by decide)))) rfl rfl) rfl) rfl (mod_at (by decide))) rfl (div_at (by decide) (by decide))) rfl) rfl (mod_at h)))) ?_
    unfold takeV takeB
    rw [if_neg c, if_neg c]
    rfl
theorem at_take (n : Int) (b : Box) (h : 0 < n) (g : n.natAbs.log2 < 9000) (o : okB b 1) : F__law_take [.box, .int n] b = .ok (.int (takeV b n)) (takeB b n) := by
  unfold F__law_take
  rw [fnOf_at (enc := fun n : Int => [.box, .int n]) (fun a a' h => by
    have h1 := (List.cons.inj (List.cons.inj h).2).1
    injection h1) n b, if_pos ⟨h, g, o⟩]
theorem small_log {n : Nat} (h : n ≤ 100000) : ((n : Nat) : Int).natAbs.log2 < 9000 := by
  rw [Int.natAbs_natCast]
  by_cases e : n = 0
  · subst e; decide
  · have : n < 2 ^ 9000 := Nat.lt_of_le_of_lt h (Nat.lt_of_lt_of_le (by decide : 100000 < 2 ^ 20) (Nat.pow_le_pow_right (by decide) (by decide)))
    exact (Nat.log2_lt e).mpr this
/-! ### the cells -/
abbrev cS (ns : List Int) (c : Int) (k bt at_ : SV) (b : Box) : S := { env := [.d (.scr ns), .d (.int 1), .o [.int c], k, bt, at_], box := b }
theorem c_loop (ns : List Int) (b : Box) : ∀ (xs : List Int) (q : Nat) (c : Int) (k bt at_ : SV), q ≤ 1000 → xs.length ≤ 1000 - q → ∃ k' b' a', sForL (gT 2 (gCons' (gN 3) (gCons' (gN 4) gNil'))) lp__law_cells_0 (enD q (xs.map .int)) (cS ns c k bt at_ b) = .nx (cS ns (cellV c xs (q : Int)) k' b' a' b)
  | [], q, c, k, bt, at_, _, _ => ⟨k, bt, at_, rfl⟩
  | x :: xs, q, c, k, bt, at_, q1, q2 => by
    rw [List.length_cons] at q2
    obtain ⟨k', b', a', e⟩ := c_loop ns b xs (q + 1) (c + x * ((q : Int) + 2)) (.d (.int ((q : Nat) : Int))) (.d (.int x)) (.d (.int 0)) (by omega) (by omega)
    refine ⟨k', b', a', ?_⟩
    have turn : lp__law_cells_0 (cS ns c (.d (.int ((q : Nat) : Int))) (.d (.int x)) at_ b) = .nx (cS ns (c + x * ((q : Int) + 2)) (.d (.int ((q : Nat) : Int))) (.d (.int x)) (.d (.int 0)) b) := by
      unfold lp__law_cells_0
      refine Eq.trans (seq_nx (set_at (m2_at (b1_at rfl rfl) rfl (Eq.trans (mod_at (by decide)) (by rw [Int.emod_one]))))) ?_
      refine Eq.trans (putIx_at (m2_at (ixN_at rfl rfl rfl rfl) (m2_at rfl (m2_at rfl rfl rfl) (mul_at (x := x) (y := (q : Int) + 2) (.inr (by omega)))) rfl) rfl rfl rfl) ?_
      rfl
    have g := Eq.trans (for_cons (g := gT 2 (gCons' (gN 3) (gCons' (gN 4) gNil'))) (d := .tup [.int ((q : Nat) : Int), .int x]) (r := enD (q + 1) (xs.map .int)) (s := cS ns c k bt at_ b) (s1 := cS ns c (.d (.int ((q : Nat) : Int))) (.d (.int x)) at_ b) rfl turn) e
    rw [show ((q + 1 : Nat) : Int) = (q : Int) + 1 by omega] at g
    exact g
theorem e_cells (ns : List Int) (b : Box) (h : ns.length ≤ 63) : outOf (m__law_cells (s0 ["script", "most_so", "cells_so", "k", "bit_so", "at_so"] [.scr ns, .int 1] b)) = .ok (.lst [.int (cells ns)]) b := by
  unfold m__law_cells
  have first : fOr (mB1F dList (mSl (rd 0) oNo (oIn (rd 1)))) (lNew (aCons (con (.int 0)) aNil)) { env := [.d (.scr ns), .d (.int 1), .no, .no, .no, .no], box := b } = .ok [.int (ns.headD 0)] { env := [.d (.scr ns), .d (.int 1), .no, .no, .no, .no], box := b } := by
    cases ns with
    | nil => rfl
    | cons x r =>
      have ct : Pv.cutD (x :: r) none (some 1) = [x] := by
        unfold Pv.cutD
        rw [show HT.sIx (x :: r).length 0 none = 0 from rfl, show HT.sIx (x :: r).length (x :: r).length (some 1) = min 1 (x :: r).length from HT.sIx_nat _ _ 1, show min 1 (x :: r).length = 1 by rw [List.length_cons]; omega]
        rfl
      have sl : mSl (rd 0) oNo (oIn (rd 1)) { env := [.d (.scr (x :: r)), .d (.int 1), .no, .no, .no, .no], box := b } = .ok (.lst [.int x]) { env := [.d (.scr (x :: r)), .d (.int 1), .no, .no, .no, .no], box := b } := by
        show (ofO (some (D.lst ((Pv.cutD (x :: r) none (some 1)).map .int))) _ : Out D) = _
        rw [ct]
        rfl
      unfold fOr
      rw [b1F_at sl rfl]
      rfl
  refine Eq.trans (congrArg outOf (seq_nx (setF_at first))) ?_
  have ct : Pv.cutD ns (some 1) (some 63) = ns.drop 1 := by
    unfold Pv.cutD
    rw [show HT.sIx ns.length 0 (some 1) = min 1 ns.length from HT.sIx_nat _ _ 1, show HT.sIx ns.length ns.length (some 63) = min 63 ns.length from HT.sIx_nat _ _ 63, Nat.min_eq_right h]
    cases ns with
    | nil => rfl
    | cons x r =>
      rw [show min 1 (x :: r).length = 1 by rw [List.length_cons]; omega]
      exact List.take_of_length_le (by rw [List.length_drop]; omega)
  have it : iEnM (mSl (rd 0) (oIn (rd 1)) (oIn (con (.int 63)))) (cS ns (ns.headD 0) .no .no .no b) = .ok (enD 0 ((ns.drop 1).map .int)) (cS ns (ns.headD 0) .no .no .no b) := by
    have sl : mSl (rd 0) (oIn (rd 1)) (oIn (con (.int 63))) (cS ns (ns.headD 0) .no .no .no b) = .ok (.lst ((ns.drop 1).map .int)) (cS ns (ns.headD 0) .no .no .no b) := by
      show (ofO (some (D.lst ((Pv.cutD ns (some 1) (some 63)).map .int))) _ : Out D) = _
      rw [ct]
      rfl
    exact en_it (q := (true, (ns.drop 1).map .int)) sl rfl
  obtain ⟨k', b', a', e⟩ := c_loop ns b (ns.drop 1) 0 (ns.headD 0) .no .no .no (by omega) (by rw [List.length_drop]; omega)
  refine Eq.trans (congrArg outOf (seq_nx (Eq.trans (for_at it) e))) ?_
  rfl
theorem at_cells (ns : List Int) (b : Box) (h : ns.length ≤ 63) : F__law_cells [.scr ns, .int 1] b = .ok (.lst [.int (cells ns)]) b := by
  unfold F__law_cells
  rw [fnOf_at (enc := fun ns : List Int => [.scr ns, .int 1]) (fun a a' h => by
    have h1 := (List.cons.inj h).1
    injection h1) ns b, if_pos h]
theorem e_box (i : Int) : ∃ s1, m__law_box (s0 ["script", "k", "bit_so"] [.lst [.int i], .int 0] (0, 0, 0)) = .ok [.int (boxOf i).1, .int (boxOf i).2.1, .int (boxOf i).2.2] s1 := by
  refine ⟨{ env := [.d (.lst [.int i]), .d (.int 0), .d (.int i)], box := (0, 0, 0) }, ?_⟩
  have st : sSet 2 (mIf (m2b (dOrd (fun i j => decide (i < j)) strLt) (rd 1) (mB1 dLen (lend 0))) (mIxN 0 (rd 1)) (con (.int 0))) (s0 ["script", "k", "bit_so"] [.lst [.int i], .int 0] (0, 0, 0)) = .nx { env := [.d (.lst [.int i]), .d (.int 0), .d (.int i)], box := (0, 0, 0) } :=
    rfl
  unfold m__law_box rSeq
  rw [st]
  have ge : (dOrd (fun i j => decide (j ≤ i)) fun a b => !strLt a b) (.int (absI i)) (.int (10 ^ 18)) = some (decide ((10 : Int) ^ 18 ≤ absI i)) := rfl
  have hp : dPow (.int 10) (.int 18) = some (.int (10 ^ 18)) := by
    show (if (0 : Int) ≤ 18 ∧ (18 : Int) ≤ 1000000 ∧ (10 : Int).natAbs < 2 ^ 64 then some (D.int (10 ^ (18 : Int).toNat)) else none) = _
    rw [if_pos (by decide)]
    rfl
  have hi : dIntS (.bl (decide ((10 : Int) ^ 18 ≤ absI i))) = some (.int (if 10 ^ 18 ≤ absI i then 1 else 0)) := by
    show some (D.int (if decide ((10 : Int) ^ 18 ≤ absI i) = true then 1 else 0)) = _
    by_cases c : (10 : Int) ^ 18 ≤ absI i
    · rw [decide_eq_true c, if_pos rfl, if_pos c]
    · rw [decide_eq_false c, if_neg Bool.false_ne_true, if_neg c]
  exact lnew_at (cons_at (m2_at (b1_at rfl rfl) (b1_at (mB_at (m2b_at (b1_at rfl rfl) (m2_at rfl rfl hp) ge)) hi) (mul_at (.inr (by split <;> decide)))) (cons_at (m2_at (m2_at (m2_at (b1_at rfl rfl) rfl (mod_at (by decide))) (m2_at rfl rfl (mul_at (.inl (by decide)))) rfl) rfl rfl) (cons_at rfl rfl))) (by simp)
end K76
end S76i_

section S76j_
set_option Elab.async false
set_option linter.all false
set_option maxRecDepth 100000
set_option maxHeartbeats 4000000
namespace Pv
theorem compL_step {g : D → S → Option S} {me : M D} {vs : List Nat} {d u : D} {r acc : List D} {s a s' : S} (h1 : g d (wipeS vs s) = some a) (h2 : me a = .ok u s') (hl : acc.length < 100000) : sCompL g mYes me vs (d :: r) acc s = sCompL g mYes me vs r (acc ++ [u]) s' := by
  show (match g d (wipeS vs s) with
    | none => Out.no
    | some s1 => match mYes s1 with
      | .ok false s2 => sCompL g mYes me vs r acc s2
      | .ok true s2 => (match me s2 with
        | .ok x s3 => if acc.length < PySem.sizeLine then sCompL g mYes me vs r (acc ++ [x]) s3 else .no
        | _ => .no)
      | _ => .no) = _
  rw [h1]
  show (match me a with
        | .ok x s3 => if acc.length < PySem.sizeLine then sCompL g mYes me vs r (acc ++ [x]) s3 else .no
        | _ => .no) = _
  rw [h2]
  show (if acc.length < PySem.sizeLine then sCompL g mYes me vs r (acc ++ [u]) s' else .no) = _
  rw [if_pos (by have := PySem.sizeLine_eq; omega)]
theorem comp_of {mi : M (List D)} {g : D → S → Option S} {me : M D} {vs : List Nat} {ds us : List D} {s s1 s2 : S} (h1 : mi s = .ok ds s1) (hno : vs.all (fun i => !(getS i s1).own) = true) (h2 : sCompL g mYes me vs ds [] s1 = .ok us s2) :
    mComp mi g mYes me vs s = .ok us { s2 with env := backE vs s1.env s2.env } := by
  unfold mComp
  rw [h1]
  show (if vs.all (fun i => !(getS i s1).own) = true then _ else _) = _
  rw [if_pos hno, h2]
  rfl
end Pv
namespace K76
open PySem PySem.Spec PyProof.Rows L2 Pv
open Classical
theorem e_law_of (ns : List Int) (b : Box) (h : 0 < ns.length) (g : ns.length ≤ 60) (o : okB b 1) : outOf (m__law_of (s0 ["tin", "goods_so"] [.box, .lst (ns.map .int)] b)) = .ok (.int (ns.getD (takeV b ns.length).toNat 0)) (takeB b ns.length) := by
  have bd := take_lo (b := b) (n := (ns.length : Int)) (by omega)
  have c : mCall F__law_take (aCons (rd 0) (aCons (mB1 dLen (lend 1)) aNil)) { env := [.d .box, .d (.lst (ns.map .int))], box := b } = .ok (.int (takeV b ns.length)) { env := [.d .box, .d (.lst (ns.map .int))], box := takeB b ns.length } := by
    have tk := at_take ns.length b (by omega) (small_log (by omega)) o
    refine call_at (cons_at rfl (cons_at (b1_at rfl rfl) rfl)) ?_
    show F__law_take [.box, .int (((ns.map D.int).length : Nat) : Int)] b = _
    rw [List.length_map]
    exact tk
  have ix : dIx (.lst (ns.map .int)) (.int (takeV b ns.length)) { env := [.d .box, .d (.lst (ns.map .int))], box := takeB b ns.length } = some (.int (ns.getD (takeV b ns.length).toNat 0)) := by
    show atI (ns.map D.int) (takeV b ns.length) = _
    have e : takeV b ns.length = (((takeV b ns.length).toNat : Nat) : Int) := by omega
    rw [e]
    refine atI_nat ?_
    rw [Int.toNat_natCast, List.getElem?_map, List.getD_eq_getElem?_getD]
    rw [List.getElem?_eq_getElem (show (takeV b ns.length).toNat < ns.length by omega)]
    rfl
  unfold m__law_of
  refine Eq.trans (congrArg outOf (ret_at (ixN_at rfl c rfl ix))) ?_
  rfl
theorem at_law_of (ns : List Int) (b : Box) (h : 0 < ns.length) (g : ns.length ≤ 60) (o : okB b 1) : F__law_of [.box, .lst (ns.map .int)] b = .ok (.int (ns.getD (takeV b ns.length).toNat 0)) (takeB b ns.length) := by
  unfold F__law_of
  rw [fnOf_at (enc := fun ns : List Int => [.box, .lst (ns.map .int)]) (fun a a' h => by
    have h1 := (List.cons.inj (List.cons.inj h).2).1
    injection h1 with h1
    exact List.map_inj_right (fun x y e => by injection e) |>.mp h1) ns b, if_pos ⟨h, g, o⟩]
/-! ### _law_mixed -/
theorem okB_mix : ∀ (t : Tr) {b : Box} {m : Nat}, okB b (t.sz + m) → okB (mixV t b).2 (m + 1)
  | .lf i, b, m, h => h.less (show m + 1 ≤ 1 + m by omega)
  | .nd l r, b, m, h => by
    have e : (Tr.nd l r).sz = l.sz + r.sz := rfl
    have h1 : okB (mixV l b).2 (r.sz + m + 1) := okB_mix l (h.less (by omega))
    have h2 : okB (mixV r (mixV l b).2).2 (m + 1 + 1) := okB_mix r (h1.less (by omega))
    exact h2.take
theorem mix_tr : ∀ (t : Tr) (b : Box), (mixV t b).1.tr = t
  | .lf i, b => rfl
  | .nd l r, b => by
    show Tr.nd (mixV l b).1.tr (mixV r (mixV l b).2).1.tr = _
    rw [mix_tr l, mix_tr r]
theorem at_mixF {n : Nat} {t : Tr} {b : Box} (h : t.sz ≤ n) (hn : n ≤ 60) (o : okB b t.sz) : mixF n [.box, t.d] b = .ok (mixV t b).1.d (mixV t b).2 := by
  unfold mixF
  rw [fnOf_at (enc := fun t : Tr => [.box, t.d]) (fun a a' h => Tr.d_inj (List.cons.inj (List.cons.inj h).2).1) t b, if_pos ⟨h, hn, o⟩]
theorem e_mixed (n : Nat) (t : Tr) (b : Box) (h : t.sz ≤ n + 1) (hn : n + 1 ≤ 60) (o : okB b t.sz) : outOf (m__law_mixed (mixF n) (s0 ["tin", "matter", "row_so", "bit"] [.box, t.d] b)) = .ok (mixV t b).1.d (mixV t b).2 := by
  unfold m__law_mixed
  cases t with
  | lf i =>
    refine Eq.trans (congrArg outOf (seq_rt (Eq.trans (if_t (not_at (k := false) (mT_at (b1_at rfl rfl)))) (ret_at rfl)))) ?_
    rfl
  | nd a c =>
    have pa := Tr.sz_pos a
    have pc := Tr.sz_pos c
    have h' : a.sz + c.sz ≤ n + 1 := h
    have o' : okB b (a.sz + c.sz) := o
    have o1 : okB (mixV a b).2 (c.sz + 1) := okB_mix a o'
    have o2 : okB (mixV c (mixV a b).2).2 (1 + 1) := okB_mix c o1
    have ma := at_mixF (n := n) (t := a) (b := b) (by omega) (by omega) (o'.less (by omega))
    have mc := at_mixF (n := n) (t := c) (b := (mixV a b).2) (by omega) (by omega) (o1.less (by omega))
    refine Eq.trans (congrArg outOf (seq_nx (Eq.trans (if_f (not_at (k := true) (mT_at (b1_at rfl rfl)))) rfl))) ?_
    have l1 : sCompL (gN 3) mYes (mCall (mixF n) (aCons (rd 0) (aCons (rd 3) aNil))) [3] [a.d, c.d] [] { env := [.d .box, .d (Tr.nd a c).d, .no, .no], box := b } = .ok [(mixV a b).1.d, (mixV c (mixV a b).2).1.d] { env := [.d .box, .d (Tr.nd a c).d, .no, .d c.d], box := (mixV c (mixV a b).2).2 } := by
      refine Eq.trans (compL_step (a := { env := [.d .box, .d (Tr.nd a c).d, .no, .d a.d], box := b }) (s' := { env := [.d .box, .d (Tr.nd a c).d, .no, .d a.d], box := (mixV a b).2 }) rfl (call_at rfl ma) (by simp)) ?_
      refine Eq.trans (compL_step (a := { env := [.d .box, .d (Tr.nd a c).d, .no, .d c.d], box := (mixV a b).2 }) (s' := { env := [.d .box, .d (Tr.nd a c).d, .no, .d c.d], box := (mixV c (mixV a b).2).2 }) rfl (call_at rfl mc) (by simp)) ?_
      rfl
    have cp : cm__law_mixed_0 (mixF n) { env := [.d .box, .d (Tr.nd a c).d, .no, .no], box := b } = .ok [(mixV a b).1.d, (mixV c (mixV a b).2).1.d] { env := [.d .box, .d (Tr.nd a c).d, .no, .no], box := (mixV c (mixV a b).2).2 } :=
      Eq.trans (comp_of (ds := [a.d, c.d]) (s1 := { env := [.d .box, .d (Tr.nd a c).d, .no, .no], box := b }) rfl rfl l1) rfl
    refine Eq.trans (congrArg outOf (seq_nx (setF_at cp))) ?_
    have tk := at_take 2 (mixV c (mixV a b).2).2 (by decide) (by decide) (o2.less (by omega))
    have tc : mCall F__law_take (aCons (rd 0) (aCons (con (.int 2)) aNil)) { env := [.d .box, .d (Tr.nd a c).d, .o [(mixV a b).1.d, (mixV c (mixV a b).2).1.d], .no], box := (mixV c (mixV a b).2).2 } = .ok (.int (takeV (mixV c (mixV a b).2).2 2)) { env := [.d .box, .d (Tr.nd a c).d, .o [(mixV a b).1.d, (mixV c (mixV a b).2).1.d], .no], box := takeB (mixV c (mixV a b).2).2 2 } := call_at rfl tk
    have dq : dEq (.int (takeV (mixV c (mixV a b).2).2 2)) (.int 0) = some (decide (takeV (mixV c (mixV a b).2).2 2 = 0)) := by
      show some ((takeV (mixV c (mixV a b).2).2 2) == 0) = _
      congr 1
    by_cases z : takeV (mixV c (mixV a b).2).2 2 = 0
    · rw [decide_eq_true z] at dq
      refine Eq.trans (congrArg outOf (ret_at (Eq.trans (mIf_t (m2b_at tc rfl dq)) rfl))) ?_
      show RO.ok (D.lst [(mixV a b).1.d, (mixV c (mixV a b).2).1.d]) (takeB (mixV c (mixV a b).2).2 2) = RO.ok (Mx.nd (decide (takeV (mixV c (mixV a b).2).2 2 = 0)) (mixV a b).1 (mixV c (mixV a b).2).1).d _
      rw [decide_eq_true z]
      rfl
    · rw [decide_eq_false z] at dq
      refine Eq.trans (congrArg outOf (ret_at (Eq.trans (mIf_f (m2b_at tc rfl dq)) (b1_at rfl rfl)))) ?_
      show RO.ok (D.tup [(mixV a b).1.d, (mixV c (mixV a b).2).1.d]) (takeB (mixV c (mixV a b).2).2 2) = RO.ok (Mx.nd (decide (takeV (mixV c (mixV a b).2).2 2 = 0)) (mixV a b).1 (mixV c (mixV a b).2).1).d _
      rw [decide_eq_false z]
      rfl
/-! ### _law_same -/
theorem smOks_mem : ∀ {xs : List D} {x : D}, smOks xs = true → x ∈ xs → smOk x = true
  | y :: r, x, h, m => by
    have h' := Bool.and_eq_true_iff.mp (show (smOk y && smOks r) = true from h)
    rcases List.mem_cons.mp m with z | z
    · rw [z]; exact h'.1
    · exact smOks_mem h'.2 z
theorem at_sameF {n : Nat} {d : D} {b : Box} (h : smOk d = true) (g : depthD d < n) : sameF n [d, d] b = .ok (.bl true) b := by
  unfold sameF
  rw [fnOf_at (enc := fun d : D => [d, d]) (fun a a' h => (List.cons.inj h).1) d b, if_pos ⟨h, g⟩]
theorem zp_self {xs : List D} {d : D} (h : d ∈ zpD xs xs) : ∃ x ∈ xs, d = .tup [x, x] := by
  obtain ⟨i, hi⟩ := List.mem_iff_getElem?.mp h
  unfold zpD at hi
  rw [List.getElem?_zipWith] at hi
  cases e : xs[i]? with
  | none => rw [e] at hi; cases hi
  | some x =>
    rw [e] at hi
    exact ⟨x, List.mem_of_getElem? e, (Option.some.inj hi).symm⟩
theorem int_eq (x y : Int) : dEq (.int x) (.int y) = some (x == y) := rfl
theorem e_same (n : Nat) (d : D) (b : Box) (h : smOk d = true) (g : depthD d < n + 1) : outOf (m__law_same (sameF n) (s0 ["got", "due", "mine", "its"] [d, d] b)) = .ok (.bl true) b := by
  have seq : ∀ (k : Bool) (xs : List D) (d : D), seqD d = some (k, xs) → xs.length ≤ 100 → smOks xs = true → depthDs xs < n → cm__law_same_0 (sameF n) { env := [.d d, .d d, .no, .no], box := b } = .ok ((zpD xs xs).map fun _ => .bl true) { env := [.d d, .d d, .no, .no], box := b } := fun k xs d hs hl ho hd => by
    refine Pv.comp_map (fun _ => .bl true) (zp_it (q := (k, xs)) (r := (k, xs)) rfl rfl hs hs) rfl (fun x hx => ?_) (small_line (by unfold zpD; rw [List.length_zipWith]; omega))
    obtain ⟨y, hy, rfl⟩ := zp_self hx
    exact ⟨_, rfl, call_same rfl (at_sameF (smOks_mem ho hy) (by have := dep_mem hy; omega)), rfl⟩
  unfold m__law_same
  cases d with
  | int i =>
    refine Eq.trans (congrArg outOf (seq_nx (Eq.trans (if_f (mT_at (b1_at rfl rfl))) rfl))) ?_
    refine Eq.trans (congrArg outOf (seq_nx (Eq.trans (if_f (m2b_at rfl rfl rfl)) rfl))) ?_
    refine Eq.trans (congrArg outOf (seq_nx (Eq.trans (if_f (mT_at (b1_at rfl rfl))) rfl))) ?_
    have q : dEq (.int i) (.int i) = some true := by rw [int_eq]; simp
    refine Eq.trans (congrArg outOf (ret_at (Eq.trans (mAnd_t (b1_at rfl rfl)) (Eq.trans (mAnd_t rfl) (mB_at (m2b_at rfl rfl q)))))) ?_
    rfl
  | bl k =>
    refine Eq.trans (congrArg outOf (seq_nx (Eq.trans (if_f (mT_at (b1_at rfl rfl))) rfl))) ?_
    refine Eq.trans (congrArg outOf (seq_nx (Eq.trans (if_f (m2b_at rfl rfl rfl)) rfl))) ?_
    have q : dEq (.bl k) (.bl k) = some true := by cases k <;> rfl
    refine Eq.trans (congrArg outOf (seq_rt (Eq.trans (if_t (mT_at (b1_at rfl rfl))) (ret_at (Eq.trans (mAnd_t (mB_at (m2b_at (b1_at rfl rfl) (b1_at rfl rfl) rfl))) (Eq.trans (mAnd_t (mB_at (m2b_at (b1_at rfl rfl) (b1_at rfl rfl) rfl))) (mB_at (m2b_at rfl rfl q)))))))) ?_
    rfl
  | lst xs =>
    have h' := Bool.and_eq_true_iff.mp (show (decide (xs.length ≤ 100) && smOks xs) = true from h)
    have g' : depthDs xs + 1 < n + 1 := g
    have c := seq true xs (.lst xs) rfl (of_decide_eq_true h'.1) h'.2 (by omega)
    have q : dEq (.int ((xs.length : Nat) : Int)) (.int ((xs.length : Nat) : Int)) = some true := by rw [int_eq]; simp
    refine Eq.trans (congrArg outOf (seq_rt (Eq.trans (if_t (mT_at (b1_at rfl rfl))) (Eq.trans (seq_nx (Eq.trans (if_f (Eq.trans (or_f (m2b_at (b1_at rfl rfl) (b1_at rfl rfl) rfl)) (m2b_at (b1_at rfl rfl) (b1_at rfl rfl) rfl))) rfl)) (ret_at (Eq.trans (mAnd_t (mB_at (m2b_at (b1_at rfl rfl) (b1_at rfl rfl) q))) (b1_at (lst_at c) (all_true _)))))))) ?_
    rfl
  | tup xs =>
    have h' := Bool.and_eq_true_iff.mp (show (decide (xs.length ≤ 100) && smOks xs) = true from h)
    have g' : depthDs xs + 1 < n + 1 := g
    have c := seq false xs (.tup xs) rfl (of_decide_eq_true h'.1) h'.2 (by omega)
    have q : dEq (.int ((xs.length : Nat) : Int)) (.int ((xs.length : Nat) : Int)) = some true := by rw [int_eq]; simp
    refine Eq.trans (congrArg outOf (seq_rt (Eq.trans (if_t (mT_at (b1_at rfl rfl))) (Eq.trans (seq_nx (Eq.trans (if_f (Eq.trans (or_f (m2b_at (b1_at rfl rfl) (b1_at rfl rfl) rfl)) (m2b_at (b1_at rfl rfl) (b1_at rfl rfl) rfl))) rfl)) (ret_at (Eq.trans (mAnd_t (mB_at (m2b_at (b1_at rfl rfl) (b1_at rfl rfl) q))) (b1_at (lst_at c) (all_true _)))))))) ?_
    rfl
  | _ => cases h
/-! ### _law_tree -/
theorem draw_facts : ∀ (n f m : Nat) (b : Box), 0 < m → m ≤ n → Tr.at' (drawT n f m b).1 f ∧ (drawT n f m b).1.sz = m ∧ ∀ k, okB b (m + k) → okB (drawT n f m b).2 (k + 1)
  | 0, f, m, b, h, g => by omega
  | n + 1, f, m, b, h, g => by
    by_cases e : m = 1
    · subst e
      have : drawT (n + 1) f 1 b = (.lf f, b) := if_pos rfl
      rw [this]
      exact ⟨rfl, rfl, fun k o => o.less (by omega)⟩
    · have lo := take_lo (b := b) (n := (m : Int) - 1) (by omega)
      have eq : drawT (n + 1) f m b = (.nd (drawT n f (1 + (takeV b ((m : Int) - 1)).toNat) (takeB b ((m : Int) - 1))).1 (drawT n (f + (1 + (takeV b ((m : Int) - 1)).toNat)) (m - (1 + (takeV b ((m : Int) - 1)).toNat)) (drawT n f (1 + (takeV b ((m : Int) - 1)).toNat) (takeB b ((m : Int) - 1))).2).1, (drawT n (f + (1 + (takeV b ((m : Int) - 1)).toNat)) (m - (1 + (takeV b ((m : Int) - 1)).toNat)) (drawT n f (1 + (takeV b ((m : Int) - 1)).toNat) (takeB b ((m : Int) - 1))).2).2) := if_neg e
      rw [eq]
      obtain ⟨a1, a2, a3⟩ := draw_facts n f (1 + (takeV b ((m : Int) - 1)).toNat) (takeB b ((m : Int) - 1)) (by omega) (by omega)
      obtain ⟨c1, c2, c3⟩ := draw_facts n (f + (1 + (takeV b ((m : Int) - 1)).toNat)) (m - (1 + (takeV b ((m : Int) - 1)).toNat)) (drawT n f (1 + (takeV b ((m : Int) - 1)).toNat) (takeB b ((m : Int) - 1))).2 (by omega) (by omega)
      refine ⟨⟨a1, by rw [a2]; exact c1⟩, ?_, fun k o => ?_⟩
      · show (drawT n f _ _).1.sz + (drawT n _ _ _).1.sz = m
        rw [a2, c2]
        omega
      · have o1 : okB (takeB b ((m : Int) - 1)) (m - 1 + k) := okB.take (o.less (by omega))
        have o2 := a3 (m - (1 + (takeV b ((m : Int) - 1)).toNat) + k - 1) (o1.less (by omega))
        exact c3 k (o2.less (by omega))
theorem at_treeF {n f m : Nat} {b : Box} (h : 0 < m) (g : m ≤ n) (hn : n ≤ 60) (o : okB b m) : treeF n [.box, natD f, natD m] b = .ok (drawT n f m b).1.d (drawT n f m b).2 := by
  unfold treeF
  rw [fnOf_at (enc := fun p : Nat × Nat => [.box, natD p.1, natD p.2]) (fun a a' h => by
    have h1 := List.cons.inj (List.cons.inj h).2
    exact Prod.ext (natD_inj h1.1) (natD_inj (List.cons.inj h1.2).1)) (f, m) b, if_pos ⟨h, g, hn, o⟩]
theorem e_tree (n f m : Nat) (b : Box) (h : 0 < m) (g : m ≤ n + 1) (hn : n + 1 ≤ 60) (o : okB b m) : outOf (m__law_tree (treeF n) (s0 ["tin", "first_so", "many_so", "k"] [.box, natD f, natD m] b)) = .ok (drawT (n + 1) f m b).1.d (drawT (n + 1) f m b).2 := by
  unfold m__law_tree
  by_cases e : m = 1
  · subst e
    have dr : drawT (n + 1) f 1 b = (.lf f, b) := if_pos rfl
    refine Eq.trans (congrArg outOf (seq_rt (Eq.trans (if_t (m2b_at rfl rfl rfl)) (ret_at rfl)))) ?_
    rw [dr]
    rfl
  · have lo := take_lo (b := b) (n := (m : Int) - 1) (by omega)
    have ne : dEq (natD m) (.int 1) = some false := (nat_eq m 1).trans (by rw [decide_eq_false e])
    refine Eq.trans (congrArg outOf (seq_nx (Eq.trans (if_f (m2b_at rfl rfl ne)) rfl))) ?_
    have tk := at_take ((m : Int) - 1) b (by omega) (by have := small_log (n := m - 1) (by omega); rw [show ((m - 1 : Nat) : Int) = (m : Int) - 1 by omega] at this; exact this) (o.less (by omega))
    have ad : dAdd (.int 1) (.int (takeV b ((m : Int) - 1))) = some (natD (1 + (takeV b ((m : Int) - 1)).toNat)) := by
      show some (D.int (1 + takeV b ((m : Int) - 1))) = some (D.int ((1 + (takeV b ((m : Int) - 1)).toNat : Nat) : Int))
      congr 2
      omega
    refine Eq.trans (congrArg outOf (seq_nx (set_at (m2_at rfl (call_at rfl tk) ad)))) ?_
    have eq : drawT (n + 1) f m b = (.nd (drawT n f (1 + (takeV b ((m : Int) - 1)).toNat) (takeB b ((m : Int) - 1))).1 (drawT n (f + (1 + (takeV b ((m : Int) - 1)).toNat)) (m - (1 + (takeV b ((m : Int) - 1)).toNat)) (drawT n f (1 + (takeV b ((m : Int) - 1)).toNat) (takeB b ((m : Int) - 1))).2).1, (drawT n (f + (1 + (takeV b ((m : Int) - 1)).toNat)) (m - (1 + (takeV b ((m : Int) - 1)).toNat)) (drawT n f (1 + (takeV b ((m : Int) - 1)).toNat) (takeB b ((m : Int) - 1))).2).2) := if_neg e
    rw [eq]
    have o1 : okB (takeB b ((m : Int) - 1)) (m - 1) := okB.take (o.less (by omega))
    obtain ⟨_, _, a3⟩ := draw_facts n f (1 + (takeV b ((m : Int) - 1)).toNat) (takeB b ((m : Int) - 1)) (by omega) (by omega)
    have o2 := a3 (m - 1 - (1 + (takeV b ((m : Int) - 1)).toNat)) (o1.less (by omega))
    have l := at_treeF (n := n) (f := f) (m := 1 + (takeV b ((m : Int) - 1)).toNat) (b := takeB b ((m : Int) - 1)) (by omega) (by omega) (by omega) (o1.less (by omega))
    have r := at_treeF (n := n) (f := f + (1 + (takeV b ((m : Int) - 1)).toNat)) (m := m - (1 + (takeV b ((m : Int) - 1)).toNat)) (b := (drawT n f (1 + (takeV b ((m : Int) - 1)).toNat) (takeB b ((m : Int) - 1))).2) (by omega) (by omega) (by omega) (o2.less (by omega))
    generalize hk : 1 + (takeV b ((m : Int) - 1)).toNat = k at *
    have a2 : dAdd (natD f) (natD k) = some (natD (f + k)) := by
      show some (D.int ((f : Int) + (k : Int))) = some (D.int ((f + k : Nat) : Int))
      congr 2
    have s2 : dSub (natD m) (natD k) = some (natD (m - k)) := by
      show some (D.int ((m : Int) - (k : Int))) = some (D.int ((m - k : Nat) : Int))
      congr 2
      omega
    refine Eq.trans (congrArg outOf (ret_at (tup_at (cons_at (call_at rfl l) (cons_at (call_at (cons_at rfl (cons_at (m2_at rfl rfl a2) (cons_at (m2_at rfl rfl s2) rfl))) r) rfl)) (by simp)))) ?_
    rfl
end K76
end S76j_

section S76k_
set_option Elab.async false
set_option linter.all false
set_option maxRecDepth 100000
set_option maxHeartbeats 4000000
namespace K76
open PySem PySem.Spec PyProof.Rows L2 Pv
open Classical
/-! ### _law_leaves -/
theorem at_lvF {n : Nat} {t : Tr} {b : Box} (h : t.sz ≤ n) (hn : n ≤ 60) : lvF n [t.d] b = .ok (lsD t.lv) b := by
  unfold lvF
  rw [fnOf_at (enc := fun t : Tr => [t.d]) (fun a a' h => Tr.d_inj (List.cons.inj h).1) t b, if_pos ⟨h, hn⟩]
theorem e_law_leaves (n : Nat) (t : Tr) (b : Box) (h : t.sz ≤ n + 1) (hn : n + 1 ≤ 60) : outOf (m__law_leaves (lvF n) (s0 ["tree_so"] [t.d] b)) = .ok (lsD t.lv) b := by
  unfold m__law_leaves
  cases t with
  | lf i =>
    refine Eq.trans (congrArg outOf (ret_at (Eq.trans (mIf_f (mT_at (b1_at rfl rfl))) (fz_at (lnew_at rfl (by simp)))))) ?_
    rfl
  | nd a c =>
    have pa := Tr.sz_pos a
    have pc := Tr.sz_pos c
    have h' : a.sz + c.sz ≤ n + 1 := h
    have ad : dAdd (lsD a.lv) (lsD c.lv) = some (lsD (Tr.nd a c).lv) := by
      show (if (a.lv.map natD).length + (c.lv.map natD).length ≤ sizeLine then some (D.lst (a.lv.map natD ++ c.lv.map natD)) else none) = _
      rw [if_pos (by rw [nats_len, nats_len, Tr.lv_len, Tr.lv_len]; exact small_line (by omega)), ← List.map_append]
      rfl
    refine Eq.trans (congrArg outOf (ret_at (Eq.trans (mIf_t (mT_at (b1_at rfl rfl))) (m2_at (call_same (cons_at (ixN_at rfl rfl rfl rfl) rfl) (at_lvF (by omega) (by omega))) (call_same (cons_at (ixN_at rfl rfl rfl rfl) rfl) (at_lvF (by omega) (by omega))) ad)))) ?_
    rfl
theorem at_law_leaves {t : Tr} {b : Box} (h : t.sz ≤ 60) : F__law_leaves [t.d] b = .ok (lsD t.lv) b := at_lvF h (Nat.le_refl _)
/-! ### _law_reach -/
abbrev qS (t0 : D) (lap : SV) (f : List Nat) (l : List D) (h w : SV) (b : Box) : S := { env := [.d t0, lap, .o (f.map natD), .o l, h, w], box := b }
theorem q_leaf (t0 : D) (lap : SV) (f : List Nat) (l : List D) (h w : SV) (b : Box) (i : Nat) (ok1 : okDs (l ++ [natD i]) = true) (dp : depthDs (l ++ [natD i]) ≤ 63) : lp__law_reach_0 (qS t0 lap f (l ++ [natD i]) h w b) = .nx (qS t0 lap f l (.d (natD i)) w b) := by
  unfold lp__law_reach_0
  have e := eq_nil_at (i := 3) (s := qS t0 lap f (l ++ [natD i]) h w b) rfl ok1 dp
  rw [show (l ++ [natD i]).isEmpty = false by simp] at e
  refine Eq.trans (seq_nx (Eq.trans (if_f e) rfl)) ?_
  refine Eq.trans (seq_nx (set_at (pop_at l rfl))) ?_
  refine Eq.trans (if_f (mT_at (b1_at rfl rfl))) ?_
  rfl
theorem q_node (t0 : D) (lap : SV) (f : List Nat) (l : List D) (h w : SV) (b : Box) (u v : Tr) (a : Nat) (at_ : Tr.at' (Tr.nd u v) a) (sm : (Tr.nd u v).sz ≤ 60) (lt : a < f.length) (hl : l.length ≤ 1000) (ok1 : okDs (l ++ [(Tr.nd u v).d]) = true) (dp : depthDs (l ++ [(Tr.nd u v).d]) ≤ 63) :
    lp__law_reach_0 (qS t0 lap f (l ++ [(Tr.nd u v).d]) h w b) = .nx (qS t0 lap (stepP f (a, a + (Tr.nd u v).sz - 1)) (l ++ [u.d, v.d]) (.d (Tr.nd u v).d) (.d (lsD (Tr.nd u v).lv)) b) := by
  unfold lp__law_reach_0
  have e := eq_nil_at (i := 3) (s := qS t0 lap f (l ++ [(Tr.nd u v).d]) h w b) rfl ok1 dp
  rw [show (l ++ [(Tr.nd u v).d]).isEmpty = false by simp] at e
  refine Eq.trans (seq_nx (Eq.trans (if_f e) rfl)) ?_
  refine Eq.trans (seq_nx (set_at (pop_at l rfl))) ?_
  refine Eq.trans (if_t (mT_at (b1_at rfl rfl))) ?_
  refine Eq.trans (seq_nx (set_at (call_same rfl (at_law_leaves (b := b) sm)))) ?_
  have fi : f[a]? = some (f.getD a 0) := by rw [List.getD_eq_getElem?_getD, List.getElem?_eq_getElem lt]; rfl
  have first : mIxN 5 (con (.int 0)) (qS t0 lap f l (.d (Tr.nd u v).d) (.d (lsD (Tr.nd u v).lv)) b) = .ok (natD a) (qS t0 lap f l (.d (Tr.nd u v).d) (.d (lsD (Tr.nd u v).lv)) b) := ixN_at rfl rfl rfl (lv_first at_)
  have last : mIxN 5 (mNeg (con (.int 1))) (qS t0 lap f l (.d (Tr.nd u v).d) (.d (lsD (Tr.nd u v).lv)) b) = .ok (natD (a + (Tr.nd u v).sz - 1)) (qS t0 lap f l (.d (Tr.nd u v).d) (.d (lsD (Tr.nd u v).lv)) b) := ixN_at rfl rfl rfl (lv_last at_)
  have old : mIxN 2 (mIxN 5 (con (.int 0))) (qS t0 lap f l (.d (Tr.nd u v).d) (.d (lsD (Tr.nd u v).lv)) b) = .ok (natD (f.getD a 0)) (qS t0 lap f l (.d (Tr.nd u v).d) (.d (lsD (Tr.nd u v).lv)) b) :=
    ixN_at rfl first rfl (by show atI (f.map natD) ((a : Nat) : Int) = _; exact atI_nat (by rw [List.getElem?_map, fi]; rfl))
  have put : putIx 2 (natD a) (natD (max (f.getD a 0) (a + (Tr.nd u v).sz - 1))) (qS t0 lap f l (.d (Tr.nd u v).d) (.d (lsD (Tr.nd u v).lv)) b) = .nx (qS t0 lap (stepP f (a, a + (Tr.nd u v).sz - 1)) l (.d (Tr.nd u v).d) (.d (lsD (Tr.nd u v).lv)) b) := by
    show putL 2 ((a : Nat) : Int) (natD (max (f.getD a 0) (a + (Tr.nd u v).sz - 1))) (f.map natD) _ = _
    unfold putL ixN
    rw [if_pos (by omega), if_pos (by rw [List.length_map]; omega), Int.toNat_natCast]
    show SO.nx _ = SO.nx _
    rw [← List.map_set]
    rfl
  refine Eq.trans (seq_nx (putIx_at (m2_at old last (max_nat _ _)) rfl first put)) ?_
  refine Eq.trans (drop_at (ext_at rfl (lst_at (lnew_at (cons_at (ixN_at rfl rfl rfl rfl) (cons_at (ixN_at rfl rfl rfl rfl) rfl)) (by simp))) rfl (by show l.length + 2 ≤ 100000; omega))) ?_
  rfl
theorem q_loop (T : Tr) (b : Box) : ∀ (laps : List D) (ts : List (Tr × Nat)) (lap : SV) (f : List Nat) (h w : SV), szs (ts.map (·.1)) ≤ 60 → f.length = T.sz → 2 * szs (ts.map (·.1)) ≤ laps.length + ts.length → (∀ y ∈ ts, Tr.at' y.1 y.2 ∧ ∀ x ∈ nds y.1 y.2, x ∈ nds T 0) →
    ∃ (ps : List (Nat × Nat)) (lap' h' w' : SV), (∀ x ∈ ps, x ∈ nds T 0) ∧ (∀ y ∈ ts, ∀ x ∈ nds y.1 y.2, x ∈ ps) ∧ sForL (gN 1) lp__law_reach_0 laps (qS T.d lap f ((ts.map (·.1)).map Tr.d).reverse h w b) = .nx (qS T.d lap' (ps.foldl stepP f) [] h' w' b)
  | laps, [], lap, f, h, w, _, _, _, _ => by
    cases laps with
    | nil => exact ⟨[], lap, h, w, (fun _ m => by cases m), (fun _ m => by cases m), rfl⟩
    | cons x laps =>
      have e : lp__law_reach_0 (qS T.d (.d x) f [] h w b) = .bk (qS T.d (.d x) f [] h w b) := by
        unfold lp__law_reach_0
        have e := eq_nil_at (i := 3) (l := []) (s := qS T.d (.d x) f [] h w b) rfl rfl (Nat.zero_le _)
        show (sIf _ _ _ _).bind _ = _
        rw [if_t e]
        rfl
      exact ⟨[], .d x, h, w, (fun _ m => by cases m), (fun _ m => by cases m), for_bk (s1 := qS T.d (.d x) f [] h w b) rfl e⟩
  | [], y :: ts, lap, f, h, w, h1, h2, h3, h4 => by
    have := szs_len ((y :: ts).map (·.1))
    rw [List.length_map] at this
    have p := Tr.sz_pos y.1
    have e : szs ((y :: ts).map (·.1)) = y.1.sz + szs (ts.map (·.1)) := rfl
    have := szs_len (ts.map (·.1))
    rw [List.length_map] at this
    have h3' : 2 * szs ((y :: ts).map (·.1)) ≤ 0 + (ts.length + 1) := h3
    omega
  | x :: laps, (.lf i, a) :: ts, lap, f, h, w, h1, h2, h3, h4 => by
    have h1' : 1 + szs (ts.map (·.1)) ≤ 60 := h1
    have h3' : 2 * (1 + szs (ts.map (·.1))) ≤ laps.length + 1 + (ts.length + 1) := h3
    obtain ⟨ps, lap', h', w', g1, g2, g3⟩ := q_loop T b laps ts (.d x) f (.d (natD i)) w (by omega) h2 (by omega) fun y hy => h4 y (by simp [hy])
    refine ⟨ps, lap', h', w', g1, fun y m x hx => ?_, ?_⟩
    · rcases List.mem_cons.mp m with z | z
      · rw [z] at hx; cases hx
      · exact g2 y z x hx
    · have st : ((((Tr.lf i, a) :: ts).map (·.1)).map Tr.d).reverse = ((ts.map (·.1)).map Tr.d).reverse ++ [natD i] := by rw [List.map_cons, List.map_cons, List.reverse_cons]; rfl
      have o := stack_ok (((Tr.lf i, a) :: ts).map (·.1))
      have dp := stack_dep h1
      rw [st] at o dp
      have t := q_leaf T.d (.d x) f _ h w b i o (by omega)
      rw [st]
      exact Eq.trans (for_cons (s1 := qS T.d (.d x) f (((ts.map (·.1)).map Tr.d).reverse ++ [natD i]) h w b) rfl t) g3
  | x :: laps, (.nd u v, a) :: ts, lap, f, h, w, h1, h2, h3, h4 => by
    have pu := Tr.sz_pos u
    have pv := Tr.sz_pos v
    have h1' : (u.sz + v.sz) + szs (ts.map (·.1)) ≤ 60 := h1
    have h3' : 2 * ((u.sz + v.sz) + szs (ts.map (·.1))) ≤ laps.length + 1 + (ts.length + 1) := h3
    obtain ⟨at_, sub⟩ := h4 (.nd u v, a) (by simp)
    have self : (a, a + (u.sz + v.sz) - 1) ∈ nds T 0 := sub _ (List.mem_cons_self ..)
    have lt := (nds_row self).2.1
    obtain ⟨ps, lap', h', w', g1, g2, g3⟩ := q_loop T b laps ((v, a + u.sz) :: (u, a) :: ts) (.d x) (stepP f (a, a + (Tr.nd u v).sz - 1)) (.d (Tr.nd u v).d) (.d (lsD (Tr.nd u v).lv)) (by show v.sz + (u.sz + szs (ts.map (·.1))) ≤ 60; omega) (by unfold stepP; rw [List.length_set]; exact h2)
      (by show 2 * (v.sz + (u.sz + szs (ts.map (·.1)))) ≤ laps.length + (ts.length + 1 + 1); omega) (fun y hy => by
        rcases List.mem_cons.mp hy with z | hy
        · rw [z]; exact ⟨at_.2, fun x hx => sub x (List.mem_cons_of_mem _ (List.mem_append_right _ hx))⟩
        · rcases List.mem_cons.mp hy with z | hy
          · rw [z]; exact ⟨at_.1, fun x hx => sub x (List.mem_cons_of_mem _ (List.mem_append_left _ hx))⟩
          · exact h4 y (by simp [hy]))
    refine ⟨(a, a + (Tr.nd u v).sz - 1) :: ps, lap', h', w', fun y m => ?_, fun y m z hz => ?_, ?_⟩
    · rcases List.mem_cons.mp m with z | z
      · rw [z]; exact self
      · exact g1 y z
    · rcases List.mem_cons.mp m with e | e
      · rw [e] at hz
        rcases List.mem_cons.mp hz with q | hz
        · rw [q]; exact List.mem_cons_self ..
        · refine List.mem_cons_of_mem _ ?_
          rcases List.mem_append.mp hz with q | q
          · exact g2 (u, a) (by simp) z q
          · exact g2 (v, a + u.sz) (by simp) z q
      · exact List.mem_cons_of_mem _ (g2 y (by simp [e]) z hz)
    · have st : ((((Tr.nd u v, a) :: ts).map (·.1)).map Tr.d).reverse = ((ts.map (·.1)).map Tr.d).reverse ++ [(Tr.nd u v).d] := by rw [List.map_cons, List.map_cons, List.reverse_cons]
      have o := stack_ok (((Tr.nd u v, a) :: ts).map (·.1))
      have dp := stack_dep h1
      rw [st] at o dp
      have ln := szs_len (ts.map (·.1))
      have t := q_node T.d (.d x) f ((ts.map (·.1)).map Tr.d).reverse h w b u v a at_ (by show u.sz + v.sz ≤ 60; omega) (by rw [h2]; omega) (by rw [List.length_reverse, List.length_map]; omega) o (by omega)
      rw [st]
      have g3' : sForL (gN 1) lp__law_reach_0 laps (qS T.d (.d x) (stepP f (a, a + (Tr.nd u v).sz - 1)) (((ts.map (·.1)).map Tr.d).reverse ++ [u.d, v.d]) (.d (Tr.nd u v).d) (.d (lsD (Tr.nd u v).lv)) b) = .nx (qS T.d lap' (ps.foldl stepP (stepP f (a, a + (Tr.nd u v).sz - 1))) [] h' w' b) := by
        rw [← g3]
        simp
      exact Eq.trans (for_cons (s1 := qS T.d (.d x) f (((ts.map (·.1)).map Tr.d).reverse ++ [(Tr.nd u v).d]) h w b) rfl t) g3'
theorem e_law_reach (t : Tr) (b : Box) (h : t.good) : outOf (m__law_reach (s0 ["tree_so", "lap", "found", "open_so", "here", "leaves_so"] [t.d] b)) = .ok (rowD (t.row 0)) b := by
  unfold m__law_reach
  have rg : mRg1 (mB1 dLen (mCall F__law_leaves (aCons (rd 0) aNil))) { env := [.d t.d, .no, .no, .no, .no, .no], box := b } = .ok ((List.range t.sz).map natD) { env := [.d t.d, .no, .no, .no, .no, .no], box := b } := by
    refine Eq.trans (rg1_at (b1_at (call_same rfl (at_law_leaves h.1)) rfl) (by omega) (by rw [nats_len, Tr.lv_len]; have := h.1; omega)) ?_
    rw [Int.toNat_natCast, nats_len, Tr.lv_len, rgD_nats]
  refine Eq.trans (congrArg outOf (seq_nx (parV_at (new_at rg) (new_at (lnew_at rfl (by simp)))))) ?_
  obtain ⟨ps, lap', h', w', g1, g2, g3⟩ := q_loop t b (rgD 0 200) [(t, 0)] .no (List.range t.sz) .no .no (by show t.sz + 0 ≤ 60; have := h.1; omega) (List.length_range) (by show 2 * (t.sz + 0) ≤ (rgD 0 200).length + 1; have := h.1; rw [show (rgD 0 200).length = 200 by unfold rgD; rw [List.length_map, List.length_range]]; omega) (fun y hy => by
    rw [List.mem_singleton.mp hy]
    exact ⟨h.2, fun x hx => hx⟩)
  rw [reach_of g1 fun x hx => g2 (t, 0) (by simp) x hx] at g3
  refine Eq.trans (congrArg outOf (seq_nx (Eq.trans (for_at (ds := rgD 0 200) rfl) g3))) ?_
  rfl
theorem at_law_reach (t : Tr) (b : Box) (h : t.good) : F__law_reach [t.d] b = .ok (rowD (t.row 0)) b := by
  unfold F__law_reach
  rw [fnOf_at (enc := fun t : Tr => [t.d]) (fun a a' h => Tr.d_inj (List.cons.inj h).1) t b, if_pos h]
end K76
end S76k_

section S76l_
set_option Elab.async false
set_option linter.all false
set_option maxRecDepth 100000
set_option maxHeartbeats 4000000
namespace Pv
open PySem
theorem rg2_at {m m' : M D} {s s1 s2 : S} {i j : Int} (h1 : m s = .ok (.int i) s1) (h2 : m' s1 = .ok (.int j) s2) (hi : -(2 ^ 62) ≤ i ∧ i < 2 ^ 62) (hj : -(2 ^ 62) ≤ j ∧ j < 2 ^ 62) : iRg2 m m' s = .ok (rgD i (j - i).toNat) s2 := by
  unfold iRg2
  rw [h1]
  show (m' s1).bind _ = _
  rw [h2]
  show (if -(2 ^ 62) ≤ i ∧ i < 2 ^ 62 ∧ -(2 ^ 62) ≤ j ∧ j < 2 ^ 62 then _ else _) = _
  exact if_pos ⟨hi.1, hi.2, hj.1, hj.2⟩
end Pv
namespace K76
open PySem PySem.Spec PyProof.Rows L2 Pv
open Classical
/-! ### _law_all_trees -/
def lnT : Nat → Nat → Nat
  | 0, _ => 0
  | n + 1, m => if m = 1 then 1 else ((List.range (m - 1)).map fun i => lnT n (i + 1) * lnT n (m - (i + 1))).sum
theorem sum_map_mul {α β γ : Type} (f : α → β → γ) (ls : List α) (rs : List β) : (ls.flatMap fun l => rs.map fun r => f l r).length = ls.length * rs.length := by
  induction ls with
  | nil => simp
  | cons x r ih => rw [List.flatMap_cons, List.length_append, ih, List.length_map, List.length_cons, Nat.add_mul, Nat.one_mul, Nat.add_comm]
theorem allT_len : ∀ (n f m : Nat), (allT n f m).length = lnT n m
  | 0, f, m => rfl
  | n + 1, f, m => by
    unfold allT lnT
    split
    · rfl
    · rw [List.length_flatten, List.map_map]
      congr 1
      apply List.map_congr_left
      intro i _
      show ((allT n f (i + 1)).flatMap fun l => (allT n (f + (i + 1)) (m - (i + 1))).map fun r => Tr.nd l r).length = _
      rw [sum_map_mul, allT_len, allT_len]
theorem lnT_small : ∀ n ≤ 6, ∀ m ≤ 6, lnT n m ≤ 42 := by decide +kernel
theorem allT_all : ∀ (n : Nat) (t : Tr) (f : Nat), Tr.at' t f → t.sz ≤ n → t ∈ allT n f t.sz
  | 0, t, f, _, h => by have := Tr.sz_pos t; omega
  | n + 1, .lf i, f, a, h => by
    unfold allT
    rw [if_pos (show (Tr.lf i).sz = 1 from rfl)]
    rw [show i = f from a]
    exact List.mem_singleton.mpr rfl
  | n + 1, .nd l r, f, a, h => by
    have pl := Tr.sz_pos l
    have pr := Tr.sz_pos r
    have e : (Tr.nd l r).sz = l.sz + r.sz := rfl
    have h' : l.sz + r.sz ≤ n + 1 := h
    unfold allT
    rw [if_neg (by omega)]
    refine List.mem_flatten.mpr ⟨_, List.mem_map.mpr ⟨l.sz - 1, List.mem_range.mpr (by omega), rfl⟩, ?_⟩
    rw [show l.sz - 1 + 1 = l.sz by omega, show (Tr.nd l r).sz - l.sz = r.sz by omega]
    exact List.mem_flatMap.mpr ⟨l, allT_all n l f a.1 (by omega), List.mem_map.mpr ⟨r, allT_all n r _ a.2 (by omega), rfl⟩⟩
theorem allT_ok : ∀ (n f m : Nat) (t : Tr), 0 < m → m ≤ n → t ∈ allT n f m → Tr.at' t f ∧ t.sz = m
  | 0, f, m, t, h, g, x => by omega
  | n + 1, f, m, t, h, g, x => by
    unfold allT at x
    split at x
    · next e =>
      rw [List.mem_singleton.mp x, e]
      exact ⟨rfl, rfl⟩
    · next e =>
      obtain ⟨_, hy, hx⟩ := List.mem_flatten.mp x
      obtain ⟨i, hi, rfl⟩ := List.mem_map.mp hy
      have hi := List.mem_range.mp hi
      obtain ⟨l, hl, hx⟩ := List.mem_flatMap.mp hx
      obtain ⟨r, hr, rfl⟩ := List.mem_map.mp hx
      have a := allT_ok n f (i + 1) l (by omega) (by omega) hl
      have c := allT_ok n (f + (i + 1)) (m - (i + 1)) r (by omega) (by omega) hr
      refine ⟨⟨a.1, ?_⟩, ?_⟩
      · rw [a.2]; exact c.1
      · show l.sz + r.sz = m
        rw [a.2, c.2]; omega
theorem at_allF {n f m : Nat} {b : Box} (h : 0 < m) (g : m ≤ n) (hn : n ≤ 6) : allF n [natD f, natD m] b = .ok (.lst ((allT n f m).map Tr.d)) b := by
  unfold allF
  rw [fnOf_at (enc := fun p : Nat × Nat => [natD p.1, natD p.2]) (fun a a' h => by
    have h1 := List.cons.inj h
    exact Prod.ext (natD_inj h1.1) (natD_inj (List.cons.inj h1.2).1)) (f, m) b, if_pos ⟨h, g, hn⟩]
abbrev lS (f m : Nat) (acc : List D) (k own L R : SV) (b : Box) : S := { env := [.d (natD f), .d (natD m), .o acc, k, own, L, R, .no], box := b }
theorem l_inner {rec : Fn} (f m : Nat) (rs : List Tr) (k L : SV) (b : Box) (hr : rs.length ≤ 1000) : ∀ (ls : List Tr) (acc : List D) (own : SV), acc.length + ls.length * rs.length ≤ 100000 →
    ∃ own', sForL (gN 4) (lp__law_all_trees_1 rec) (ls.map Tr.d) (lS f m acc k own L (.d (.lst (rs.map Tr.d))) b) = .nx (lS f m (acc ++ (ls.flatMap fun l => rs.map fun r => Tr.nd l r).map Tr.d) k own' L (.d (.lst (rs.map Tr.d))) b)
  | [], acc, own, _ => ⟨own, by simp [sForL]⟩
  | x :: ls, acc, own, h => by
    rw [List.length_cons, Nat.add_mul, Nat.one_mul] at h
    obtain ⟨own', e⟩ := l_inner f m rs k L b hr ls (acc ++ (rs.map fun r => Tr.nd x r).map Tr.d) (.d x.d) (by rw [List.length_append, List.length_map, List.length_map]; omega)
    refine ⟨own', ?_⟩
    have turn : lp__law_all_trees_1 rec (lS f m acc k (.d x.d) L (.d (.lst (rs.map Tr.d))) b) = .nx (lS f m (acc ++ (rs.map fun r => Tr.nd x r).map Tr.d) k (.d x.d) L (.d (.lst (rs.map Tr.d))) b) := by
      unfold lp__law_all_trees_1
      have cp : cm__law_all_trees_0 rec (lS f m acc k (.d x.d) L (.d (.lst (rs.map Tr.d))) b) = .ok ((rs.map Tr.d).map fun d => .tup [x.d, d]) (lS f m acc k (.d x.d) L (.d (.lst (rs.map Tr.d))) b) :=
        Pv.comp_map (fun d => .tup [x.d, d]) (seq_it rfl) rfl (fun d hd => ⟨_, rfl, tup_at rfl (by simp), rfl⟩) (small_line (by rw [List.length_map]; omega))
      refine Eq.trans (drop_at (ext_at rfl (lst_at cp) rfl (by rw [List.length_map, List.length_map]; omega))) ?_
      rw [List.map_map, List.map_map]
      rfl
    have g := Eq.trans (for_cons (g := gN 4) (d := x.d) (r := ls.map Tr.d) (s := lS f m acc k own L (.d (.lst (rs.map Tr.d))) b) (s1 := lS f m acc k (.d x.d) L (.d (.lst (rs.map Tr.d))) b) rfl turn) e
    rw [List.map_cons, g, List.flatMap_cons, List.map_append, List.append_assoc]
theorem l_outer (n f m : Nat) (b : Box) (hn : n ≤ 5) (hm : m ≤ n + 1) : ∀ (j i : Nat) (acc : List D) (k own L R : SV), i + j + 1 = m → acc.length ≤ 2000 * i →
    ∃ k' own' L' R', sForL (gN 3) (lp__law_all_trees_2 (allF n)) ((List.range' (i + 1) j).map natD) (lS f m acc k own L R b) = .nx (lS f m (acc ++ (((List.range' i j).map fun i => (allT n f (i + 1)).flatMap fun l => (allT n (f + (i + 1)) (m - (i + 1))).map fun r => Tr.nd l r).flatten).map Tr.d) k' own' L' R' b)
  | 0, i, acc, k, own, L, R, _, _ => ⟨k, own, L, R, by simp [sForL]⟩
  | j + 1, i, acc, k, own, L, R, h, g => by
    have ll : (allT n f (i + 1)).length ≤ 42 := by rw [allT_len]; exact lnT_small n (by omega) _ (by omega)
    have lr : (allT n (f + (i + 1)) (m - (i + 1))).length ≤ 42 := by rw [allT_len]; exact lnT_small n (by omega) _ (by omega)
    have lm := Nat.mul_le_mul ll lr
    obtain ⟨own1, e1⟩ := l_inner (rec := allF n) f m (allT n (f + (i + 1)) (m - (i + 1))) (.d (natD (i + 1))) (.d (.lst ((allT n f (i + 1)).map Tr.d))) b (by omega) (allT n f (i + 1)) acc own (by omega)
    obtain ⟨k', own', L', R', e2⟩ := l_outer n f m b hn hm j (i + 1) (acc ++ ((allT n f (i + 1)).flatMap fun l => (allT n (f + (i + 1)) (m - (i + 1))).map fun r => Tr.nd l r).map Tr.d) (.d (natD (i + 1))) own1 (.d (.lst ((allT n f (i + 1)).map Tr.d))) (.d (.lst ((allT n (f + (i + 1)) (m - (i + 1))).map Tr.d))) (by omega)
      (by rw [List.length_append, List.length_map, sum_map_mul]; omega)
    refine ⟨k', own', L', R', ?_⟩
    have turn : lp__law_all_trees_2 (allF n) (lS f m acc (.d (natD (i + 1))) own L R b) = .nx (lS f m (acc ++ ((allT n f (i + 1)).flatMap fun l => (allT n (f + (i + 1)) (m - (i + 1))).map fun r => Tr.nd l r).map Tr.d) (.d (natD (i + 1))) own1 (.d (.lst ((allT n f (i + 1)).map Tr.d))) (.d (.lst ((allT n (f + (i + 1)) (m - (i + 1))).map Tr.d))) b) := by
      unfold lp__law_all_trees_2
      have ad : dAdd (natD f) (natD (i + 1)) = some (natD (f + (i + 1))) := by
        show some (D.int ((f : Int) + ((i + 1 : Nat) : Int))) = some (D.int _)
        congr 2
      have sb : dSub (natD m) (natD (i + 1)) = some (natD (m - (i + 1))) := by
        show some (D.int ((m : Int) - ((i + 1 : Nat) : Int))) = some (D.int _)
        congr 2
        omega
      refine Eq.trans (seq_nx (parV_at (val_at (call_same rfl (at_allF (f := f) (m := i + 1) (by omega) (by omega) (by omega)))) (val_at (call_same (cons_at (m2_at rfl rfl ad) (cons_at (m2_at rfl rfl sb) rfl)) (at_allF (by omega) (by omega) (by omega)))))) ?_
      refine Eq.trans (for_at (seq_it rfl)) ?_
      exact e1
    have e3 := Eq.trans (for_cons (g := gN 3) (d := natD (i + 1)) (r := (List.range' (i + 1 + 1) j).map natD) (s := lS f m acc k own L R b) (s1 := lS f m acc (.d (natD (i + 1))) own L R b) rfl turn) e2
    rw [show List.range' (i + 1) (j + 1) = (i + 1) :: List.range' (i + 1 + 1) j from rfl, show List.range' i (j + 1) = i :: List.range' (i + 1) j from rfl, List.map_cons, e3, List.map_cons, List.flatten_cons, List.map_append, List.append_assoc]
theorem e_all (n f m : Nat) (b : Box) (h : 0 < m) (g : m ≤ n + 1) (hn : n + 1 ≤ 6) : outOf (m__law_all_trees (allF n) (s0 ["first_so", "many_so", "found", "k", "own", "lefts_so", "rights_so", "its"] [natD f, natD m] b)) = .ok (.lst ((allT (n + 1) f m).map Tr.d)) b := by
  unfold m__law_all_trees
  have q : dEq (natD m) (.int 1) = some (decide (m = 1)) := by
    show some (((m : Nat) : Int) == 1) = _
    congr 1
    by_cases e : m = 1
    · subst e; rfl
    · rw [decide_eq_false e]
      exact beq_eq_false_iff_ne.mpr (by omega)
  by_cases e : m = 1
  · rw [decide_eq_true e] at q
    refine Eq.trans (congrArg outOf (seq_rt (Eq.trans (if_t (m2b_at rfl rfl q)) (ret_at (fz_at (lnew_at rfl (by simp))))))) ?_
    subst e
    rfl
  · rw [decide_eq_false e] at q
    refine Eq.trans (congrArg outOf (seq_nx (Eq.trans (if_f (m2b_at rfl rfl q)) rfl))) ?_
    refine Eq.trans (congrArg outOf (seq_nx (setF_at (lnew_at rfl (by simp))))) ?_
    obtain ⟨k', own', L', R', e2⟩ := l_outer n f m b (by omega) g (m - 1) 0 [] .no .no .no .no (by omega) (by simp)
    have rg : iRg2 (con (.int 1)) (rd 1) (lS f m [] .no .no .no .no b) = .ok ((List.range' (0 + 1) (m - 1)).map natD) (lS f m [] .no .no .no .no b) := by
      refine Eq.trans (Pv.rg2_at (i := 1) (j := ((m : Nat) : Int)) rfl rfl ⟨by decide, by decide⟩ ⟨by omega, by omega⟩) ?_
      congr 1
      unfold rgD
      rw [show (((m : Nat) : Int) - 1).toNat = m - 1 by omega, List.range'_eq_map_range, List.map_map]
      apply List.map_congr_left
      intro i _
      show D.int _ = D.int _
      congr 1
    refine Eq.trans (congrArg outOf (seq_nx (Eq.trans (for_at rg) e2))) ?_
    refine Eq.trans (congrArg outOf (ret_at rfl)) ?_
    show RO.ok (D.lst ([] ++ _)) b = _
    rw [List.nil_append, ← List.range_eq_range']
    have e4 : allT (n + 1) f m = ((List.range (m - 1)).map fun i => (allT n f (i + 1)).flatMap fun l => (allT n (f + (i + 1)) (m - (i + 1))).map fun r => Tr.nd l r).flatten := by
      show (if m = 1 then _ else _) = _
      rw [if_neg e]
    rw [e4]
theorem at_all {f m : Nat} {b : Box} (h : 0 < m) (g : m ≤ 6) : F__law_all_trees [natD f, natD m] b = .ok (.lst ((allT 6 f m).map Tr.d)) b := at_allF h g (Nat.le_refl _)
end K76
end S76l_

section S76m_
set_option Elab.async false
set_option linter.all false
set_option maxRecDepth 100000
set_option maxHeartbeats 4000000
namespace Pv
open PySem
theorem z3_it {ma mb mc : M D} {s s1 s2 s3 : S} {x y z : D} {p q r : Bool × List D} (h1 : ma s = .ok x s1) (h2 : mb s1 = .ok y s2) (h3 : mc s2 = .ok z s3) (e1 : seqD x = some p) (e2 : seqD y = some q) (e3 : seqD z = some r) : iZ3M ma mb mc s = .ok (z3D p.2 q.2 r.2) s3 := by
  unfold iZ3M
  rw [h1]
  show (mb s1).bind _ = _
  rw [h2]
  show (mc s2).bind _ = _
  rw [h3]
  show (match seqD x, seqD y, seqD z with
  | some (_, xs), some (_, ys), some (_, zs) => Out.ok (z3D xs ys zs) s3
  | _, _, _ => .no) = _
  rw [e1, e2, e3]
end Pv
namespace K76
open PySem PySem.Spec PyProof.Rows L2 Pv
open Classical
/-! ### _law_right: the plain facts -/
variable {n : Nat} {t u v : Tr} {b : Box}
theorem good_of (h : Tr.ok n t) (hn : n ≤ 60) : t.good := ⟨by rw [h.2]; exact hn, h.1⟩
theorem gmm {x y : Mx} (hx : Tr.ok n x.tr) (hy : Tr.ok n y.tr) (hn : n ≤ 60) : goodMM (x, y) := ⟨good_of hx hn, good_of hy hn, by show y.tr.sz = x.tr.sz; rw [hx.2, hy.2]⟩
theorem okmx (h : Tr.ok n t) : Tr.ok n t.mx.tr := by rw [Tr.mx_tr]; exact h
theorem r_below (x : Mx) (hx : Tr.ok n x.tr) (hu : Tr.ok n u) (hn : n ≤ 60) : F_right_below [x.d, u.d] b = .ok (Tr.meet n x.tr u).d b := by
  have := at_right_below x u.mx b (gmm hx (okmx hu) hn)
  rwa [Tr.mx_d, Tr.mx_tr, hx.2] at this
theorem t_below (ht : Tr.ok n t) (hu : Tr.ok n u) (hn : n ≤ 60) : F_right_below [t.d, u.d] b = .ok (Tr.meet n t u).d b := by
  have := r_below (b := b) t.mx (okmx ht) hu hn
  rwa [Tr.mx_d, Tr.mx_tr] at this
theorem r_above (x : Mx) (ht : Tr.ok n t) (hx : Tr.ok n x.tr) (hn : n ≤ 60) : F_right_above [t.d, x.d] b = .ok (Tr.join n t x.tr).d b := by
  have := at_right_above t.mx x b (gmm (okmx ht) hx hn)
  rwa [Tr.mx_d, Tr.mx_tr, ht.2] at this
theorem t_above (ht : Tr.ok n t) (hu : Tr.ok n u) (hn : n ≤ 60) : F_right_above [t.d, u.d] b = .ok (Tr.join n t u).d b := by
  have := r_above (b := b) u.mx ht (okmx hu) hn
  rwa [Tr.mx_d, Tr.mx_tr] at this
theorem t_goes (ht : Tr.ok n t) (hu : Tr.ok n u) (hn : n ≤ 60) : F_goes_right [t.d, u.d] b = .ok (.bl (decide (Tr.le t u))) b := by
  have := at_goes_right t.mx u.mx b (gmm (okmx ht) (okmx hu) hn)
  rwa [Tr.mx_d, Tr.mx_tr, Tr.mx_d, Tr.mx_tr] at this
theorem t_turn (ht : Tr.ok n t) (hn : n ≤ 60) : F_turned_tree [t.d] b = .ok (Tr.flip n t).d b := by
  have := at_turned_tree t b (good_of ht hn)
  rwa [ht.2] at this
theorem t_reaches (ht : Tr.ok n t) (hn : n ≤ 60) : F_reaches [t.d] b = .ok (rowD (t.row 0)) b := by
  have := at_reaches t.mx b (good_of (okmx ht) hn)
  rwa [Tr.mx_d, Tr.mx_tr] at this
theorem t_reach (ht : Tr.ok n t) (hn : n ≤ 60) : F__law_reach [t.d] b = .ok (rowD (t.row 0)) b := at_law_reach t b (good_of ht hn)
theorem t_tor (ht : Tr.ok n t) (hn : n ≤ 60) : F_tree_of_reaches [rowD (t.row 0)] b = .ok t.d b := at_tree_of_reaches t b (good_of ht hn)
theorem tr_small : ∀ t : Tr, smOk t.d = true
  | .lf i => rfl
  | .nd a c => by
    show (decide (2 ≤ 100) && (smOk a.d && (smOk c.d && true))) = true
    rw [tr_small a, tr_small c]
    rfl
theorem nats_sm : ∀ ns : List Nat, smOks (ns.map natD) = true
  | [] => rfl
  | _ :: ns => by show (true && smOks (ns.map natD)) = true; rw [nats_sm ns]; rfl
theorem row_small {ns : List Nat} (h : ns.length ≤ 100) : smOk (rowD ns) = true := by
  show (decide ((ns.map natD).length ≤ 100) && smOks (ns.map natD)) = true
  rw [nats_sm, List.length_map, decide_eq_true h]
  rfl
theorem nats_dp (ns : List Nat) : depthDs (ns.map natD) ≤ 0 := depDs_le fun x hx => by
  obtain ⟨i, _, rfl⟩ := List.mem_map.mp hx
  exact Nat.le_refl _
theorem row_dep (ns : List Nat) : depthD (rowD ns) ≤ 1 := by
  show depthDs (ns.map natD) + 1 ≤ 1
  have := nats_dp ns
  omega
theorem tr_dep (ht : Tr.ok n t) (hn : n ≤ 60) : depthD t.d ≤ 60 := by have := d_dep t; rw [ht.2] at this; omega
theorem smOks_of : ∀ {l : List D}, (∀ x ∈ l, smOk x = true) → smOks l = true
  | [], _ => rfl
  | x :: l, h => by
    show (smOk x && smOks l) = true
    rw [h x (by simp), smOks_of fun y hy => h y (by simp [hy])]
    rfl
theorem same_of {l : List D} (hl : l.length ≤ 100) (h : ∀ x ∈ l, smOk x = true ∧ depthD x ≤ 60) : F__law_same [.lst l, .lst l] b = .ok (.bl true) b := by
  refine at_sameF ?_ ?_
  · show (decide (l.length ≤ 100) && smOks l) = true
    rw [decide_eq_true hl, smOks_of fun x hx => (h x hx).1]
    rfl
  · show depthDs l + 1 < 65
    have := depDs_le fun x hx => (h x hx).2
    omega
theorem tr_okD : ∀ t : Tr, okD t.d = true
  | .lf i => rfl
  | .nd a c => by
    show (okD a.d && (okD c.d && true)) = true
    rw [tr_okD a, tr_okD c]
    rfl
theorem tr_eqD : ∀ t u : Tr, eqD t.d u.d = decide (t = u)
  | .lf i, .lf j => by
    show ((i : Int) == (j : Int)) = _
    by_cases e : i = j
    · subst e; rw [decide_eq_true rfl]; exact beq_self_eq_true _
    · rw [decide_eq_false (fun h => e (by injection h))]
      exact beq_eq_false_iff_ne.mpr (by omega)
  | .lf i, .nd a c => by rw [decide_eq_false (fun h => by cases h)]; rfl
  | .nd a c, .lf i => by rw [decide_eq_false (fun h => by cases h)]; rfl
  | .nd a c, .nd e f => by
    show (eqD a.d e.d && (eqD c.d f.d && true)) = _
    rw [tr_eqD a e, tr_eqD c f, Bool.and_true, Bool.eq_iff_iff, Bool.and_eq_true, decide_eq_true_iff, decide_eq_true_iff, decide_eq_true_iff]
    exact ⟨fun h => by rw [h.1, h.2], fun h => by injection h with h1 h2; exact ⟨h1, h2⟩⟩
theorem tr_dEq (ht : Tr.ok n t) (hu : Tr.ok n u) (hn : n ≤ 60) : dEq t.d u.d = some (decide (t = u)) := by
  have gen : (if (okD t.d && okD u.d) = true ∧ depthD t.d ≤ 64 ∧ depthD u.d ≤ 64 then some (eqD t.d u.d) else none) = some (decide (t = u)) := by
    rw [if_pos ⟨by rw [tr_okD, tr_okD]; rfl, by have := tr_dep ht hn; omega, by have := tr_dep hu hn; omega⟩, tr_eqD]
  cases t with
  | lf i =>
    cases u with
    | lf j => exact congrArg some (tr_eqD (.lf i) (.lf j))
    | nd a c => exact gen
  | nd a c => exact gen
theorem tr_in {ts : List Tr} (ht : Tr.ok n t) (hs : ∀ x ∈ ts, Tr.ok n x) (hn : n ≤ 60) : dIn t.d (.lst (ts.map Tr.d)) = some (decide (t ∈ ts)) := by
  have e : (ts.map Tr.d).any (fun z => eqD z t.d) = decide (t ∈ ts) := by
    rw [Bool.eq_iff_iff, List.any_eq_true, decide_eq_true_iff]
    constructor
    · rintro ⟨x, hx, h⟩
      obtain ⟨y, hy, rfl⟩ := List.mem_map.mp hx
      rw [tr_eqD, decide_eq_true_iff] at h
      rw [← h]; exact hy
    · intro h
      exact ⟨_, List.mem_map.mpr ⟨t, h, rfl⟩, by rw [tr_eqD, decide_eq_true rfl]⟩
  have gen : (if flatD t.d = true ∧ (ts.map Tr.d).all flatD = true then some ((ts.map Tr.d).any fun z => eqD z t.d) else if (okD t.d && okDs (ts.map Tr.d)) = true ∧ depthD t.d ≤ 64 ∧ depthDs (ts.map Tr.d) < 64 then some ((ts.map Tr.d).any fun z => eqD z t.d) else none) = some (decide (t ∈ ts)) := by
    split
    · rw [e]
    · have a1 : okDs (ts.map Tr.d) = true := okDs_of fun x hx => by
        obtain ⟨y, hy, rfl⟩ := List.mem_map.mp hx
        exact tr_okD y
      have a2 : depthDs (ts.map Tr.d) ≤ 60 := depDs_le fun x hx => by
        obtain ⟨y, hy, rfl⟩ := List.mem_map.mp hx
        exact tr_dep (hs y hy) hn
      rw [if_pos ⟨by rw [tr_okD, a1]; rfl, by have := tr_dep ht hn; omega, by omega⟩, e]
  cases t with
  | lf i => exact gen
  | nd a c => exact gen
theorem ts_nil {ts : List Tr} (hs : ∀ x ∈ ts, Tr.ok n x) (hn : n ≤ 60) : dEq (.lst (ts.map Tr.d)) (.lst []) = some ts.isEmpty := by
  have a1 : okDs (ts.map Tr.d) = true := okDs_of fun x hx => by
    obtain ⟨y, hy, rfl⟩ := List.mem_map.mp hx
    exact tr_okD y
  have a2 : depthDs (ts.map Tr.d) ≤ 60 := depDs_le fun x hx => by
    obtain ⟨y, hy, rfl⟩ := List.mem_map.mp hx
    exact tr_dep (hs y hy) hn
  rw [Pv.dEq_nil a1 (by omega)]
  cases ts <;> rfl
theorem ones_nil (l : List D) : dEq (.lst (l.map fun _ => D.int 1)) (.lst []) = some l.isEmpty := by
  rw [Pv.dEq_nil (okDs_of fun x hx => by
    obtain ⟨y, hy, rfl⟩ := List.mem_map.mp hx
    rfl) (Nat.le_trans (depDs_le (n := 0) fun x hx => by
    obtain ⟨y, hy, rfl⟩ := List.mem_map.mp hx
    exact Nat.le_refl _) (by omega))]
  cases l <;> rfl
end K76
end S76m_

section S76n_
set_option Elab.async false
set_option linter.all false
set_option maxRecDepth 100000
set_option maxHeartbeats 4000000
namespace K76
open PySem PySem.Spec PyProof.Rows L2 Pv
open Classical
theorem cmp_enc {α : Type} {en : α → D} (inj : ∀ x y, en x = en y → x = y) (p : α → Bool) (f : α → D) {mi : M (List D)} {g : D → S → Option S} {tt : M Bool} {me : M D} {vs : List Nat} {s s1 : S} {xs : List α} (h1 : mi s = .ok (xs.map en) s1) (hno : vs.all (fun i => !(getS i s1).own) = true)
    (h : ∀ x ∈ xs, ∃ s', g (en x) (wipeS vs s1) = some s' ∧ tt s' = .ok (p x) s' ∧ (p x = true → me s' = .ok (f x) s') ∧ wipeS vs s' = wipeS vs s1) (hl : xs.length ≤ 100000) : mComp mi g tt me vs s = .ok ((xs.filter p).map f) s1 := by
  have kp : ∀ x, (if h : ∃ y, en y = en x then p h.choose else false) = p x := fun x => by
    have h : ∃ y, en y = en x := ⟨x, rfl⟩
    rw [dif_pos h, inj _ _ h.choose_spec]
  have kf : ∀ x, (if h : ∃ y, en y = en x then f h.choose else .non) = f x := fun x => by
    have h : ∃ y, en y = en x := ⟨x, rfl⟩
    rw [dif_pos h, inj _ _ h.choose_spec]
  have := comp_pure (tt := tt) (me := me) (g := g) (fun d => if h : ∃ y, en y = d then p h.choose else false) (fun d => if h : ∃ y, en y = d then f h.choose else .non) h1 hno (fun d hd => by
    obtain ⟨x, hx, rfl⟩ := List.mem_map.mp hd
    obtain ⟨s', q1, q2, q3, q4⟩ := h x hx
    refine ⟨s', q1, ?_, ?_, q4⟩
    · show tt s' = .ok (if h : ∃ y, en y = en x then p h.choose else false) s'
      rw [kp]; exact q2
    · show (if h : ∃ y, en y = en x then p h.choose else false) = true → me s' = .ok (if h : ∃ y, en y = en x then f h.choose else .non) s'
      rw [kp, kf]; exact q3) (small_line (by rw [List.length_map]; exact hl))
  rw [this, List.filter_map, List.map_map]
  congr 1
  have e1 : (fun d => if h : ∃ y, en y = d then p h.choose else false) ∘ en = p := funext kp
  have e2 : (fun d => if h : ∃ y, en y = d then f h.choose else D.non) ∘ en = f := funext kf
  rw [e1, e2]
/-! ### rows under two -/
theorem z3_rows (f g h : Nat → Nat) : ∀ l : List Nat, z3D ((l.map f).map natD) ((l.map g).map natD) ((l.map h).map natD) = l.map fun i => .tup [natD (f i), natD (g i), natD (h i)]
  | [] => rfl
  | x :: l => by
    show D.tup [natD (f x), natD (g x), natD (h x)] :: z3D ((l.map f).map natD) ((l.map g).map natD) ((l.map h).map natD) = _
    rw [z3_rows f g h l]
    rfl
abbrev t3 (x : Nat × Nat × Nat) : D := .tup [natD x.1, natD x.2.1, natD x.2.2]
theorem t3_inj (x y : Nat × Nat × Nat) (h : t3 x = t3 y) : x = y := by
  injection h with h
  injection h with h1 h
  injection h with h2 h
  injection h with h3 h
  exact Prod.ext (natD_inj h1) (Prod.ext (natD_inj h2) (natD_inj h3))
def tri (n : Nat) (x t u : Tr) : List (Nat × Nat × Nat) := (List.range n).map fun i => (Tr.rw0 x i, Tr.rw0 t i, Tr.rw0 u i)
theorem tri_eq {n : Nat} {x t u : Tr} (hx : Tr.ok n x) (ht : Tr.ok n t) (hu : Tr.ok n u) : z3D ((x.row 0).map natD) ((t.row 0).map natD) ((u.row 0).map natD) = (tri n x t u).map t3 := by
  rw [Tr.row_map x, Tr.row_map t, Tr.row_map u, hx.2, ht.2, hu.2, z3_rows]
  unfold tri
  rw [List.map_map]
  rfl
def upp (x : Nat × Nat × Nat) : Bool := decide (x.2.1 < x.1) || decide (x.2.2 < x.1)
def dnn (x : Nat × Nat × Nat) : Bool := decide (x.1 < x.2.1) || decide (x.1 < x.2.2)
theorem upp_nil {n : Nat} {x t u : Tr} (hx : Tr.ok n x) : ((tri n x t u).filter upp).isEmpty = decide (Tr.le x t ∧ Tr.le x u) := by
  rw [Bool.eq_iff_iff, List.isEmpty_iff, List.filter_eq_nil_iff, decide_eq_true_iff]
  unfold tri upp Tr.le
  constructor
  · intro h
    constructor
    · intro i hi
      have := h _ (List.mem_map.mpr ⟨i, List.mem_range.mpr (by rw [← hx.2]; exact hi), rfl⟩)
      rw [Bool.or_eq_true, decide_eq_true_iff, decide_eq_true_iff] at this
      show Tr.rw0 x i ≤ Tr.rw0 t i
      have : ¬ (Tr.rw0 t i < Tr.rw0 x i ∨ Tr.rw0 u i < Tr.rw0 x i) := this
      omega
    · intro i hi
      have := h _ (List.mem_map.mpr ⟨i, List.mem_range.mpr (by rw [← hx.2]; exact hi), rfl⟩)
      rw [Bool.or_eq_true, decide_eq_true_iff, decide_eq_true_iff] at this
      show Tr.rw0 x i ≤ Tr.rw0 u i
      have : ¬ (Tr.rw0 t i < Tr.rw0 x i ∨ Tr.rw0 u i < Tr.rw0 x i) := this
      omega
  · rintro ⟨h1, h2⟩ y hy
    obtain ⟨i, hi, rfl⟩ := List.mem_map.mp hy
    have hi : i < x.sz := by rw [hx.2]; exact List.mem_range.mp hi
    have := h1 i hi
    have := h2 i hi
    rw [Bool.or_eq_true, decide_eq_true_iff, decide_eq_true_iff]
    show ¬ (Tr.rw0 t i < Tr.rw0 x i ∨ Tr.rw0 u i < Tr.rw0 x i)
    omega
theorem dnn_nil {n : Nat} {x t u : Tr} (hx : Tr.ok n x) (ht : Tr.ok n t) (hu : Tr.ok n u) : ((tri n x t u).filter dnn).isEmpty = decide (Tr.le t x ∧ Tr.le u x) := by
  rw [Bool.eq_iff_iff, List.isEmpty_iff, List.filter_eq_nil_iff, decide_eq_true_iff]
  unfold tri dnn Tr.le
  constructor
  · intro h
    constructor
    · intro i hi
      have := h _ (List.mem_map.mpr ⟨i, List.mem_range.mpr (by rw [← ht.2]; exact hi), rfl⟩)
      rw [Bool.or_eq_true, decide_eq_true_iff, decide_eq_true_iff] at this
      show Tr.rw0 t i ≤ Tr.rw0 x i
      have : ¬ (Tr.rw0 x i < Tr.rw0 t i ∨ Tr.rw0 x i < Tr.rw0 u i) := this
      omega
    · intro i hi
      have := h _ (List.mem_map.mpr ⟨i, List.mem_range.mpr (by rw [← hu.2]; exact hi), rfl⟩)
      rw [Bool.or_eq_true, decide_eq_true_iff, decide_eq_true_iff] at this
      show Tr.rw0 u i ≤ Tr.rw0 x i
      have : ¬ (Tr.rw0 x i < Tr.rw0 t i ∨ Tr.rw0 x i < Tr.rw0 u i) := this
      omega
  · rintro ⟨h1, h2⟩ y hy
    obtain ⟨i, hi, rfl⟩ := List.mem_map.mp hy
    have hi := List.mem_range.mp hi
    have := h1 i (by rw [ht.2]; exact hi)
    have := h2 i (by rw [hu.2]; exact hi)
    rw [Bool.or_eq_true, decide_eq_true_iff, decide_eq_true_iff]
    show ¬ (Tr.rw0 x i < Tr.rw0 t i ∨ Tr.rw0 x i < Tr.rw0 u i)
    omega
/-! ### the comprehensions -/
structure RV where
  n : Nat
  ls : SV
  got : SV
  rows : SV
  lows : SV
  highs : SV
  t : Tr
  u : Tr
  v : Tr
  low : Tr
  high : Tr
  near : SV
  far : SV
  own : SV
  row : SV
abbrev RV.S (r : RV) (b : Box) : S := { env := [.d .box, .d (natD r.n), r.ls, r.got, r.rows, r.lows, r.highs, .d r.t.d, .d r.u.d, .d r.v.d, .d r.low.d, .d r.high.d, r.near, r.far, r.own, r.row, .no, .no, .no], box := b }
theorem c_two (r : RV) (b : Box) {x : Tr} (hx : Tr.ok r.n x) (ht : Tr.ok r.n r.t) (hu : Tr.ok r.n r.u) (hn : r.n ≤ 60) (e1 : r.row = .d (rowD (x.row 0))) (e2 : r.near = .d (rowD (r.t.row 0))) (e3 : r.far = .d (rowD (r.u.row 0))) :
    m2b dEq (fz (cm__law_right_2 )) (fz (lNew aNil)) (r.S b) = .ok (decide (Tr.le x r.t ∧ Tr.le x r.u)) (r.S b) := by
  have c : cm__law_right_2 (r.S b) = .ok (((tri r.n x r.t r.u).filter upp).map fun _ => .int 1) (r.S b) := by
    unfold cm__law_right_2
    refine cmp_enc t3_inj upp (fun _ => .int 1) ?_ rfl (fun y _ => ?_) ?_
    · rw [← tri_eq hx ht hu]
      obtain ⟨n, ls, got, rows, lows, highs, t, u, v, low, high, near, far, own, row⟩ := r
      replace e1 : row = .d (rowD (x.row 0)) := e1
      replace e2 : near = .d (rowD (t.row 0)) := e2
      replace e3 : far = .d (rowD (u.row 0)) := e3
      subst e1 e2 e3
      exact z3_it (p := (false, (x.row 0).map natD)) (q := (false, (t.row 0).map natD)) (r := (false, (u.row 0).map natD)) rfl rfl rfl rfl rfl rfl
    · refine ⟨{ env := [.d .box, .d (natD r.n), r.ls, r.got, r.rows, r.lows, r.highs, .d r.t.d, .d r.u.d, .d r.v.d, .d r.low.d, .d r.high.d, r.near, r.far, r.own, r.row, .d (natD y.1), .d (natD y.2.1), .d (natD y.2.2)], box := b }, rfl, ?_, fun _ => rfl, rfl⟩
      have q1 : (dOrd (fun i j => decide (j < i)) fun a b => strLt b a) (natD y.1) (natD y.2.1) = some (decide (y.2.1 < y.1)) := by
        show some (decide (((y.2.1 : Nat) : Int) < ((y.1 : Nat) : Int))) = _
        congr 1
        rw [Bool.eq_iff_iff, decide_eq_true_iff, decide_eq_true_iff]
        omega
      have q2 : (dOrd (fun i j => decide (j < i)) fun a b => strLt b a) (natD y.1) (natD y.2.2) = some (decide (y.2.2 < y.1)) := by
        show some (decide (((y.2.2 : Nat) : Int) < ((y.1 : Nat) : Int))) = _
        congr 1
        rw [Bool.eq_iff_iff, decide_eq_true_iff, decide_eq_true_iff]
        omega
      unfold upp
      by_cases z : y.2.1 < y.1
      · rw [decide_eq_true z] at q1 ⊢
        exact or_t (m2b_at rfl rfl q1)
      · rw [decide_eq_false z] at q1 ⊢
        exact Eq.trans (or_f (m2b_at rfl rfl q1)) (m2b_at rfl rfl q2)
    · unfold tri
      rw [List.length_map, List.length_range]
      omega
  refine m2b_at (fz_at c) (fz_at (lnew_at rfl (by simp))) ?_
  have e := upp_nil (t := r.t) (u := r.u) hx
  have ml : (((tri r.n x r.t r.u).filter upp).map fun _ => D.int 1) = ((((tri r.n x r.t r.u).filter upp).map t3).map fun _ => D.int 1) := by rw [List.map_map]; rfl
  rw [ml, ones_nil, ← e]
  cases (tri r.n x r.t r.u).filter upp <;> rfl
theorem c_four (r : RV) (b : Box) {x : Tr} (hx : Tr.ok r.n x) (ht : Tr.ok r.n r.t) (hu : Tr.ok r.n r.u) (hn : r.n ≤ 60) (e1 : r.row = .d (rowD (x.row 0))) (e2 : r.near = .d (rowD (r.t.row 0))) (e3 : r.far = .d (rowD (r.u.row 0))) :
    m2b dEq (fz (cm__law_right_4 )) (fz (lNew aNil)) (r.S b) = .ok (decide (Tr.le r.t x ∧ Tr.le r.u x)) (r.S b) := by
  have c : cm__law_right_4 (r.S b) = .ok (((tri r.n x r.t r.u).filter dnn).map fun _ => .int 1) (r.S b) := by
    unfold cm__law_right_4
    refine cmp_enc t3_inj dnn (fun _ => .int 1) ?_ rfl (fun y _ => ?_) ?_
    · rw [← tri_eq hx ht hu]
      obtain ⟨n, ls, got, rows, lows, highs, t, u, v, low, high, near, far, own, row⟩ := r
      replace e1 : row = .d (rowD (x.row 0)) := e1
      replace e2 : near = .d (rowD (t.row 0)) := e2
      replace e3 : far = .d (rowD (u.row 0)) := e3
      subst e1 e2 e3
      exact z3_it (p := (false, (x.row 0).map natD)) (q := (false, (t.row 0).map natD)) (r := (false, (u.row 0).map natD)) rfl rfl rfl rfl rfl rfl
    · refine ⟨{ env := [.d .box, .d (natD r.n), r.ls, r.got, r.rows, r.lows, r.highs, .d r.t.d, .d r.u.d, .d r.v.d, .d r.low.d, .d r.high.d, r.near, r.far, r.own, r.row, .d (natD y.1), .d (natD y.2.1), .d (natD y.2.2)], box := b }, rfl, ?_, fun _ => rfl, rfl⟩
      have q1 : (dOrd (fun i j => decide (i < j)) strLt) (natD y.1) (natD y.2.1) = some (decide (y.1 < y.2.1)) := by
        show some (decide (((y.1 : Nat) : Int) < ((y.2.1 : Nat) : Int))) = _
        congr 1
        rw [Bool.eq_iff_iff, decide_eq_true_iff, decide_eq_true_iff]
        omega
      have q2 : (dOrd (fun i j => decide (i < j)) strLt) (natD y.1) (natD y.2.2) = some (decide (y.1 < y.2.2)) := by
        show some (decide (((y.1 : Nat) : Int) < ((y.2.2 : Nat) : Int))) = _
        congr 1
        rw [Bool.eq_iff_iff, decide_eq_true_iff, decide_eq_true_iff]
        omega
      unfold dnn
      by_cases z : y.1 < y.2.1
      · rw [decide_eq_true z] at q1 ⊢
        exact or_t (m2b_at rfl rfl q1)
      · rw [decide_eq_false z] at q1 ⊢
        exact Eq.trans (or_f (m2b_at rfl rfl q1)) (m2b_at rfl rfl q2)
    · unfold tri
      rw [List.length_map, List.length_range]
      omega
  refine m2b_at (fz_at c) (fz_at (lnew_at rfl (by simp))) ?_
  have e := dnn_nil (t := r.t) (u := r.u) hx ht hu
  have ml : (((tri r.n x r.t r.u).filter dnn).map fun _ => D.int 1) = ((((tri r.n x r.t r.u).filter dnn).map t3).map fun _ => D.int 1) := by rw [List.map_map]; rfl
  rw [ml, ones_nil, ← e]
  cases (tri r.n x r.t r.u).filter dnn <;> rfl
end K76
end S76n_

section S76o_
set_option Elab.async false
set_option linter.all false
set_option maxRecDepth 100000
set_option maxHeartbeats 4000000
namespace K76
open PySem PySem.Spec PyProof.Rows L2 Pv
open Classical
abbrev rwp (x : Tr) : D := .tup [x.d, rowD (x.row 0)]
theorem rwp_inj (x y : Tr) (h : rwp x = rwp y) : x = y := by
  injection h with h
  injection h with h1 h
  exact Tr.d_inj h1
theorem d_inj' (x y : Tr) (h : x.d = y.d) : x = y := Tr.d_inj h
/-- the tail of _law_right: all trees of few leaves -/
noncomputable def tailM : MS := sSeq (sSetF 4 (cm__law_right_1 )) (sSeq (sAsg (gT 2 (gCons' (gN 12) (gCons' (gN 13) (gNil')))) (mTup (aCons (mCall F__law_reach (aCons (rd 7) (aNil))) (aCons (mCall F__law_reach (aCons (rd 8) (aNil))) (aNil))))) (sSeq (sSetF 5 (cm__law_right_3 )) (sSeq (sSetF 6 (cm__law_right_5 )) (sSeq (sIf (tOrM (m2b (fun x y => (dIn x y).map fun b => if true then !b else b) (rd 10) (rd 5)) (m2b (fun x y => (dIn x y).map fun b => if true then !b else b) (rd 11) (rd 6))) (sRet (con (.bl false))) (sNx)) (sRet (mAnd (mB (m2b dEq (fz (cm__law_right_7 )) (fz (lNew (aNil))))) (mB (m2b dEq (fz (cm__law_right_6 )) (fz (lNew (aNil))))))))))) 
theorem e_tail (n : Nat) (ls : SV) (got : SV) (t u v : Tr) (b : Box) (h0 : 0 < n) (h6 : n ≤ 6) (ht : Tr.ok n t) (hu : Tr.ok n u) :
    outOf (tailM (RV.S ⟨n, ls, got, .no, .no, .no, t, u, v, Tr.meet n t u, Tr.join n t u, .no, .no, .no, .no⟩ b)) = .ok (.bl true) b := by
  have hn : n ≤ 60 := by omega
  have all : ∀ x, x ∈ allT 6 0 n → Tr.ok n x := fun x hx => allT_ok 6 0 n x h0 h6 hx
  have len : (allT 6 0 n).length ≤ 42 := by rw [allT_len]; exact lnT_small 6 (by omega) n h6
  have hl := Tr.meet_ok ht hu
  have hh := Tr.join_ok ht hu
  have c1 : cm__law_right_1 (RV.S ⟨n, ls, got, .no, .no, .no, t, u, v, Tr.meet n t u, Tr.join n t u, .no, .no, .no, .no⟩ b) = .ok (((allT 6 0 n).filter fun _ => true).map rwp) (RV.S ⟨n, ls, got, .no, .no, .no, t, u, v, Tr.meet n t u, Tr.join n t u, .no, .no, .no, .no⟩ b) := by
    unfold cm__law_right_1
    exact cmp_enc d_inj' (fun _ => true) rwp (seq_it (call_same rfl (at_all h0 h6))) rfl (fun x hx => ⟨_, rfl, rfl, fun _ => tup_at (cons_at rfl (cons_at (call_same rfl (t_reach (all x hx) hn)) rfl)) (by simp), rfl⟩) (by omega)
  rw [List.filter_eq_self.mpr (fun _ _ => rfl)] at c1
  unfold tailM
  refine Eq.trans (congrArg outOf (seq_nx (setF_at c1))) ?_
  refine Eq.trans (congrArg outOf (seq_nx (asg_at (s2 := RV.S ⟨n, ls, got, .o ((allT 6 0 n).map rwp), .no, .no, t, u, v, Tr.meet n t u, Tr.join n t u, .d (rowD (t.row 0)), .d (rowD (u.row 0)), .no, .no⟩ b) (tup_at (cons_at (call_same rfl (t_reach ht hn)) (cons_at (call_same rfl (t_reach hu hn)) rfl)) (by simp)) rfl))) ?_
  have c3 : cm__law_right_3 (RV.S ⟨n, ls, got, .o ((allT 6 0 n).map rwp), .no, .no, t, u, v, Tr.meet n t u, Tr.join n t u, .d (rowD (t.row 0)), .d (rowD (u.row 0)), .no, .no⟩ b) = .ok (((allT 6 0 n).filter fun x => decide (Tr.le x t ∧ Tr.le x u)).map Tr.d) (RV.S ⟨n, ls, got, .d (.lst ((allT 6 0 n).map rwp)), .no, .no, t, u, v, Tr.meet n t u, Tr.join n t u, .d (rowD (t.row 0)), .d (rowD (u.row 0)), .no, .no⟩ b) := by
    unfold cm__law_right_3
    refine cmp_enc rwp_inj (fun x => decide (Tr.le x t ∧ Tr.le x u)) Tr.d (seq_it rfl) rfl (fun x hx => ?_) (by omega)
    exact ⟨RV.S ⟨n, ls, got, .d (.lst ((allT 6 0 n).map rwp)), .no, .no, t, u, v, Tr.meet n t u, Tr.join n t u, .d (rowD (t.row 0)), .d (rowD (u.row 0)), .d x.d, .d (rowD (x.row 0))⟩ b, rfl, c_two ⟨n, ls, got, .d (.lst ((allT 6 0 n).map rwp)), .no, .no, t, u, v, Tr.meet n t u, Tr.join n t u, .d (rowD (t.row 0)), .d (rowD (u.row 0)), .d x.d, .d (rowD (x.row 0))⟩ b (all x hx) ht hu hn rfl rfl rfl, fun _ => rfl, rfl⟩
  refine Eq.trans (congrArg outOf (seq_nx (setF_at c3))) ?_
  have c5 : cm__law_right_5 (RV.S ⟨n, ls, got, .d (.lst ((allT 6 0 n).map rwp)), .o (((allT 6 0 n).filter fun x => decide (Tr.le x t ∧ Tr.le x u)).map Tr.d), .no, t, u, v, Tr.meet n t u, Tr.join n t u, .d (rowD (t.row 0)), .d (rowD (u.row 0)), .no, .no⟩ b) = .ok (((allT 6 0 n).filter fun x => decide (Tr.le t x ∧ Tr.le u x)).map Tr.d) (RV.S ⟨n, ls, got, .d (.lst ((allT 6 0 n).map rwp)), .o (((allT 6 0 n).filter fun x => decide (Tr.le x t ∧ Tr.le x u)).map Tr.d), .no, t, u, v, Tr.meet n t u, Tr.join n t u, .d (rowD (t.row 0)), .d (rowD (u.row 0)), .no, .no⟩ b) := by
    unfold cm__law_right_5
    refine cmp_enc rwp_inj (fun x => decide (Tr.le t x ∧ Tr.le u x)) Tr.d (seq_it rfl) rfl (fun x hx => ?_) (by omega)
    exact ⟨RV.S ⟨n, ls, got, .d (.lst ((allT 6 0 n).map rwp)), .o (((allT 6 0 n).filter fun x => decide (Tr.le x t ∧ Tr.le x u)).map Tr.d), .no, t, u, v, Tr.meet n t u, Tr.join n t u, .d (rowD (t.row 0)), .d (rowD (u.row 0)), .d x.d, .d (rowD (x.row 0))⟩ b, rfl, c_four ⟨n, ls, got, .d (.lst ((allT 6 0 n).map rwp)), .o (((allT 6 0 n).filter fun x => decide (Tr.le x t ∧ Tr.le x u)).map Tr.d), .no, t, u, v, Tr.meet n t u, Tr.join n t u, .d (rowD (t.row 0)), .d (rowD (u.row 0)), .d x.d, .d (rowD (x.row 0))⟩ b (all x hx) ht hu hn rfl rfl rfl, fun _ => rfl, rfl⟩
  refine Eq.trans (congrArg outOf (seq_nx (setF_at c5))) ?_
  generalize hL : (allT 6 0 n).filter (fun x => decide (Tr.le x t ∧ Tr.le x u)) = L
  generalize hH : (allT 6 0 n).filter (fun x => decide (Tr.le t x ∧ Tr.le u x)) = Hs
  have mL : ∀ x, x ∈ L ↔ x ∈ allT 6 0 n ∧ Tr.le x t ∧ Tr.le x u := fun x => by rw [← hL, List.mem_filter, decide_eq_true_iff]
  have mH : ∀ x, x ∈ Hs ↔ x ∈ allT 6 0 n ∧ Tr.le t x ∧ Tr.le u x := fun x => by rw [← hH, List.mem_filter, decide_eq_true_iff]
  have lL : L.length ≤ 42 := by rw [← hL]; exact Nat.le_trans (List.length_filter_le ..) len
  have lH : Hs.length ≤ 42 := by rw [← hH]; exact Nat.le_trans (List.length_filter_le ..) len
  have okL : ∀ x ∈ L, Tr.ok n x := fun x hx => all x ((mL x).mp hx).1
  have okH : ∀ x ∈ Hs, Tr.ok n x := fun x hx => all x ((mH x).mp hx).1
  have inA : ∀ x, Tr.ok n x → x ∈ allT 6 0 n := fun x hx => by
    have := allT_all 6 x 0 hx.1 (by rw [hx.2]; exact h6)
    rwa [hx.2] at this
  have in1 : Tr.meet n t u ∈ L := (mL _).mpr ⟨inA _ hl, Tr.meet_l ht hu, Tr.meet_r ht hu⟩
  have in2 : Tr.join n t u ∈ Hs := (mH _).mpr ⟨inA _ hh, Tr.join_l ht hu, Tr.join_r ht hu⟩
  have d1 := tr_in hl okL hn
  have d2 := tr_in hh okH hn
  rw [decide_eq_true in1] at d1
  rw [decide_eq_true in2] at d2
  have g1 : (fun x y => (dIn x y).map fun b => if true then !b else b) (Tr.meet n t u).d (.lst (L.map Tr.d)) = some false := by
    show (dIn (Tr.meet n t u).d (.lst (L.map Tr.d))).map _ = _
    rw [d1]; rfl
  have g2 : (fun x y => (dIn x y).map fun b => if true then !b else b) (Tr.join n t u).d (.lst (Hs.map Tr.d)) = some false := by
    show (dIn (Tr.join n t u).d (.lst (Hs.map Tr.d))).map _ = _
    rw [d2]; rfl
  refine Eq.trans (congrArg outOf (seq_nx (Eq.trans (if_f (Eq.trans (or_f (m2b_at rfl rfl g1)) (m2b_at rfl rfl g2))) rfl))) ?_
  have c7 : cm__law_right_7 (RV.S ⟨n, ls, got, .d (.lst ((allT 6 0 n).map rwp)), .d (.lst (L.map Tr.d)), .d (.lst (Hs.map Tr.d)), t, u, v, Tr.meet n t u, Tr.join n t u, .d (rowD (t.row 0)), .d (rowD (u.row 0)), .no, .no⟩ b) = .ok ((L.filter fun x => !decide (Tr.le x (Tr.meet n t u))).map Tr.d) (RV.S ⟨n, ls, got, .d (.lst ((allT 6 0 n).map rwp)), .d (.lst (L.map Tr.d)), .d (.lst (Hs.map Tr.d)), t, u, v, Tr.meet n t u, Tr.join n t u, .d (rowD (t.row 0)), .d (rowD (u.row 0)), .no, .no⟩ b) := by
    unfold cm__law_right_7
    exact cmp_enc d_inj' (fun x => !decide (Tr.le x (Tr.meet n t u))) Tr.d (seq_it rfl) rfl (fun x hx => ⟨_, rfl, not_at (k := decide (Tr.le x (Tr.meet n t u))) (mT_at (call_same rfl (t_goes (okL x hx) hl hn))), fun _ => rfl, rfl⟩) (by omega)
  have c6 : cm__law_right_6 (RV.S ⟨n, ls, got, .d (.lst ((allT 6 0 n).map rwp)), .d (.lst (L.map Tr.d)), .d (.lst (Hs.map Tr.d)), t, u, v, Tr.meet n t u, Tr.join n t u, .d (rowD (t.row 0)), .d (rowD (u.row 0)), .no, .no⟩ b) = .ok ((Hs.filter fun x => !decide (Tr.le (Tr.join n t u) x)).map Tr.d) (RV.S ⟨n, ls, got, .d (.lst ((allT 6 0 n).map rwp)), .d (.lst (L.map Tr.d)), .d (.lst (Hs.map Tr.d)), t, u, v, Tr.meet n t u, Tr.join n t u, .d (rowD (t.row 0)), .d (rowD (u.row 0)), .no, .no⟩ b) := by
    unfold cm__law_right_6
    exact cmp_enc d_inj' (fun x => !decide (Tr.le (Tr.join n t u) x)) Tr.d (seq_it rfl) rfl (fun x hx => ⟨_, rfl, not_at (k := decide (Tr.le (Tr.join n t u) x)) (mT_at (call_same rfl (t_goes hh (okH x hx) hn))), fun _ => rfl, rfl⟩) (by omega)
  have n7 : (L.filter fun x => !decide (Tr.le x (Tr.meet n t u))) = [] := List.filter_eq_nil_iff.mpr fun x hx => by
    have m := (mL x).mp hx
    rw [decide_eq_true (Tr.meet_g ht hu (okL x hx) m.2.1 m.2.2)]
    decide
  have n6 : (Hs.filter fun x => !decide (Tr.le (Tr.join n t u) x)) = [] := List.filter_eq_nil_iff.mpr fun x hx => by
    have m := (mH x).mp hx
    rw [decide_eq_true (Tr.join_g ht hu (okH x hx) m.2.1 m.2.2)]
    decide
  rw [n7] at c7
  rw [n6] at c6
  refine Eq.trans (congrArg outOf (ret_at (Eq.trans (mAnd_t (mB_at (m2b_at (fz_at c7) (fz_at (lnew_at rfl (by simp))) rfl))) (mB_at (m2b_at (fz_at c6) (fz_at (lnew_at rfl (by simp))) rfl))))) ?_
  rfl
/-! ### the draws -/
structure RF (b : Box) : Prop where
  pos : 0 < rightN b
  le : rightN b ≤ 30
  k : rightK b = 6 ∨ rightK b = 30
theorem right_n (b : Box) : RF b := by
  have lo := take_lo (b := b) (n := 3) (by omega)
  have k : rightK b = 6 ∨ rightK b = 30 := by
    unfold rightK
    have : (takeV b 3).toNat = 0 ∨ (takeV b 3).toNat = 1 ∨ (takeV b 3).toNat = 2 := by omega
    rcases this with h | h | h <;> rw [h]
    · exact .inl rfl
    · exact .inl rfl
    · exact .inr rfl
  have l2 := take_lo (b := takeB b 3) (n := rightK b) (by rcases k with h | h <;> rw [h] <;> omega)
  refine ⟨by unfold rightN; omega, ?_, k⟩
  unfold rightN
  rcases k with h | h <;> rw [h] at l2 ⊢ <;> omega
theorem right_box (b : Box) (m : Nat) (o : okB b (200 + m)) : okB (takeB b 3) 1 ∧ okB (takeB (takeB b 3) (rightK b)) (rightN b) ∧ okB (right1 b).2 (rightN b) ∧ okB (right2 b).2 (rightN b) ∧ okB (right3 b).2 (rightN b) ∧ okB (right4 b).2 (rightN b) ∧ okB (right5 b).2 m := by
  have rn := right_n b
  have p := rn.pos
  have q := rn.le
  have o1 : okB (takeB b 3) (150 + m + 1) := okB.take (o.less (by omega))
  have o2 : okB (takeB (takeB b 3) (rightK b)) (150 + m) := okB.take o1
  have f1 := draw_facts 60 0 (rightN b) (takeB (takeB b 3) (rightK b)) p (by omega)
  have o3 : okB (right1 b).2 (120 + m) := (f1.2.2 (120 + m) (o2.less (by omega))).less (by omega)
  have f2 := draw_facts 60 0 (rightN b) (right1 b).2 p (by omega)
  have o4 : okB (right2 b).2 (90 + m) := (f2.2.2 (90 + m) (o3.less (by omega))).less (by omega)
  have f3 := draw_facts 60 0 (rightN b) (right2 b).2 p (by omega)
  have o5 : okB (right3 b).2 (60 + m) := (f3.2.2 (60 + m) (o4.less (by omega))).less (by omega)
  have s1 : (right1 b).1.sz = rightN b := f1.2.1
  have s2 : (right2 b).1.sz = rightN b := f2.2.1
  have o6 : okB (right4 b).2 (30 + m) := (okB_mix (right1 b).1 (m := 30 + m) (o5.less (by omega))).less (by omega)
  have o7 : okB (right5 b).2 m := (okB_mix (right2 b).1 (m := m) (o6.less (by omega))).less (by omega)
  exact ⟨o1.less (by omega), o2.less (by omega), o3.less (by omega), o4.less (by omega), o5.less (by omega), o6.less (by omega), o7⟩
theorem right_ok (b : Box) : Tr.ok (rightN b) (right1 b).1 ∧ Tr.ok (rightN b) (right2 b).1 ∧ Tr.ok (rightN b) (right3 b).1 := by
  have rn := right_n b
  have p := rn.pos
  have q := rn.le
  have f1 := draw_facts 60 0 (rightN b) (takeB (takeB b 3) (rightK b)) p (by omega)
  have f2 := draw_facts 60 0 (rightN b) (right1 b).2 p (by omega)
  have f3 := draw_facts 60 0 (rightN b) (right2 b).2 p (by omega)
  exact ⟨⟨f1.1, f1.2.1⟩, ⟨f2.1, f2.2.1⟩, ⟨f3.1, f3.2.1⟩⟩
end K76
end S76o_

section S76p_
set_option Elab.async false
set_option linter.all false
set_option maxRecDepth 100000
set_option maxHeartbeats 4000000
namespace K76
open PySem PySem.Spec PyProof.Rows L2 Pv
open Classical
theorem flip_okk {n : Nat} {t : Tr} (h : Tr.ok n t) : Tr.ok n (Tr.flip n t) := Tr.flip_ok h
abbrev qR (n : Nat) (ls got : SV) (t u v low high : Tr) (b : Box) : S := { env := [.d .box, .d (natD n), ls, got, .no, .no, .no, .d t.d, .d u.d, .d v.d, .d low.d, .d high.d, .no, .no, .no, .no, .no, .no, .no], box := b }
theorem low_row {n : Nat} {t u v low high : Tr} {b : Box} (ht : Tr.ok n t) (hu : Tr.ok n u) (hn : n ≤ 60) : cm__law_right_0 (qR n .no .no t u v low high b) = .ok (((Tr.meet n t u).row 0).map natD) (qR n .no .no t u v low high b) := by
  have e := mins_row (good_of ht hn) (good_of hu hn) (by rw [ht.2, hu.2])
  rw [ht.2] at e
  rw [← e]
  unfold cm__law_right_0
  refine Pv.comp_map minD (zp_it (q := (false, (t.row 0).map natD)) (r := (false, (u.row 0).map natD)) (call_same rfl (t_reach ht hn)) (call_same rfl (t_reach hu hn)) rfl rfl) rfl (fun d hd => ?_) (small_line (by have := zp_len (xs := t.row 0) (ys := u.row 0); rw [Tr.row_len, ht.2] at this; omega))
  obtain ⟨a, c, rfl⟩ := mem_zpD hd
  exact ⟨_, rfl, m2_at rfl rfl rfl, rfl⟩
theorem e_law_right (b : Box) (o : okB b 200) : outOf (m__law_right (s0 ["tin", "n", "lesser_so", "got", "rows_so", "lows_so", "highs_so", "one", "two", "three", "low_so", "high_so", "near", "far", "own", "row_so", "a", "b", "c"] [.box] b)) = .ok (.bl true) (right5 b).2 := by
  obtain ⟨o1, o2, o3, o4, o5, o6, _⟩ := right_box b 0 o
  obtain ⟨ht, hu, hv⟩ := right_ok b
  have rn := right_n b
  have p := rn.pos
  have q := rn.le
  have hn : rightN b ≤ 60 := by omega
  have x1 : (right4 b).1.tr = (right1 b).1 := mix_tr _ _
  have x2 : (right5 b).1.tr = (right2 b).1 := mix_tr _ _
  have hl := Tr.meet_ok ht hu
  have hh := Tr.join_ok ht hu
  unfold m__law_right
  -- the draws
  have lo := at_law_of [6, 6, 30] b (by decide) (by decide) (o.less (by omega))
  have k0 : 0 < rightK b := by rcases rn.k with h | h <;> rw [h] <;> omega
  have kl : (rightK b).natAbs.log2 < 9000 := by rcases rn.k with h | h <;> rw [h] <;> decide
  have tk := at_take (rightK b) (takeB b 3) k0 kl o1
  have lo2 := take_lo (b := takeB b 3) k0
  have ad : dAdd (.int 1) (.int (takeV (takeB b 3) (rightK b))) = some (natD (rightN b)) := by
    show some (D.int (1 + takeV (takeB b 3) (rightK b))) = some (D.int ((1 + (takeV (takeB b 3) (rightK b)).toNat : Nat) : Int))
    congr 2
    omega
  refine Eq.trans (congrArg outOf (seq_nx (set_at (m2_at rfl (call_at (cons_at rfl (cons_at (call_at (cons_at rfl (cons_at (fz_at (lnew_at rfl (by simp))) rfl)) lo) rfl)) tk) ad)))) ?_
  have d1 : F__law_tree [.box, natD 0, natD (rightN b)] (takeB (takeB b 3) (rightK b)) = .ok (right1 b).1.d (right1 b).2 := at_treeF p (by omega) (Nat.le_refl _) o2
  have d2 : F__law_tree [.box, natD 0, natD (rightN b)] (right1 b).2 = .ok (right2 b).1.d (right2 b).2 := at_treeF p (by omega) (Nat.le_refl _) o3
  have d3 : F__law_tree [.box, natD 0, natD (rightN b)] (right2 b).2 = .ok (right3 b).1.d (right3 b).2 := at_treeF p (by omega) (Nat.le_refl _) o4
  refine Eq.trans (congrArg outOf (seq_nx (par3V_at (val_at (call_at rfl d1)) (val_at (call_at rfl d2)) (val_at (call_at rfl d3))))) ?_
  have m1 : F__law_mixed [.box, (right1 b).1.d] (right3 b).2 = .ok (right4 b).1.d (right4 b).2 := at_mixF (by rw [ht.2]; omega) (Nat.le_refl _) (by rw [ht.2]; exact o5)
  have m2 : F__law_mixed [.box, (right2 b).1.d] (right4 b).2 = .ok (right5 b).1.d (right5 b).2 := at_mixF (by rw [hu.2]; omega) (Nat.le_refl _) (by rw [hu.2]; exact o6)
  have r1 : F_right_below [(right4 b).1.d, (right2 b).1.d] (right4 b).2 = .ok (Tr.meet (rightN b) (right1 b).1 (right2 b).1).d (right4 b).2 := by
    have := r_below (b := (right4 b).2) (right4 b).1 (x1.symm ▸ ht) hu hn
    rwa [x1] at this
  have r2 : F_right_above [(right1 b).1.d, (right5 b).1.d] (right5 b).2 = .ok (Tr.join (rightN b) (right1 b).1 (right2 b).1).d (right5 b).2 := by
    have := r_above (b := (right5 b).2) (right5 b).1 ht (x2.symm ▸ hu) hn
    rwa [x2] at this
  generalize hB : (right5 b).2 = b5 at *
  generalize hN : rightN b = n at *
  generalize hT : (right1 b).1 = t at *
  generalize hU : (right2 b).1 = u at *
  generalize hV : (right3 b).1 = v at *
  refine Eq.trans (congrArg outOf (seq_nx (asg_at (s2 := qR n .no .no t u v (Tr.meet n t u) (Tr.join n t u) b5) (tup_at (cons_at (call_same (cons_at (call_at rfl m1) rfl) r1) (cons_at (call_same (cons_at rfl (cons_at (call_at rfl m2) rfl)) r2) rfl)) (by simp)) rfl))) ?_
  clear m1 m2 r1 r2 d1 d2 d3 tk lo lo2 ad
  refine Eq.trans (congrArg outOf (seq_nx (set_at (b1_at (y := rowD ((Tr.meet n t u).row 0)) (lst_at (low_row ht hu hn)) rfl)))) ?_
  -- what they are
  have fl := flip_okk ht
  have fu := flip_okk hu
  have w1 := Tr.meet_ok fl fu
  have c1 := Tr.meet_comm ht hu
  have c2 := Tr.join_comm ht hu
  have g3 := t_below (b := b5) hu ht hn
  rw [c1] at g3
  have g4 := t_above (b := b5) hu ht hn
  rw [c2] at g4
  have g5 : F_turned_tree [(Tr.meet n (Tr.flip n t) (Tr.flip n u)).d] b5 = .ok (Tr.join n t u).d b5 := t_turn w1 hn
  have rd1 : ∀ (x : Tr), Tr.ok n x → smOk x.d = true ∧ depthD x.d ≤ 60 := fun x hx => ⟨tr_small x, tr_dep hx hn⟩
  have rd2 : smOk (rowD ((Tr.meet n t u).row 0)) = true ∧ depthD (rowD ((Tr.meet n t u).row 0)) ≤ 60 := ⟨row_small (by rw [Tr.row_len, hl.2]; omega), by have := row_dep ((Tr.meet n t u).row 0); omega⟩
  refine Eq.trans (congrArg outOf (seq_nx (setF_at (lnew_at (cons_at (call_same rfl (t_reaches hl hn)) (cons_at (call_same rfl (t_tor hl hn)) (cons_at (call_same rfl g3) (cons_at (call_same rfl g4) (cons_at (call_same (cons_at (call_same (cons_at (call_same rfl (t_turn ht hn)) (cons_at (call_same rfl (t_turn hu hn)) rfl)) (t_below fl fu hn)) rfl) g5) rfl))))) (by simp))))) ?_
  have sm1 : F__law_same [.lst [rowD ((Tr.meet n t u).row 0), (Tr.meet n t u).d, (Tr.meet n t u).d, (Tr.join n t u).d, (Tr.join n t u).d], .lst [rowD ((Tr.meet n t u).row 0), (Tr.meet n t u).d, (Tr.meet n t u).d, (Tr.join n t u).d, (Tr.join n t u).d]] b5 = .ok (.bl true) b5 := same_of (by simp) fun x hx => by
    simp only [List.mem_cons, List.not_mem_nil, or_false] at hx
    rcases hx with rfl | rfl | rfl | rfl | rfl
    · exact rd2
    · exact rd1 _ hl
    · exact rd1 _ hl
    · exact rd1 _ hh
    · exact rd1 _ hh
  refine Eq.trans (congrArg outOf (seq_nx (Eq.trans (if_f (not_at (k := true) (mT_at (call_same (cons_at rfl (cons_at (fz_at (lnew_at rfl (by simp))) rfl)) sm1)))) rfl))) ?_
  -- their order
  have q1 := t_goes (b := b5) hl ht hn
  rw [decide_eq_true (Tr.meet_l ht hu)] at q1
  have q2 := t_goes (b := b5) hl hu hn
  rw [decide_eq_true (Tr.meet_r ht hu)] at q2
  have q3 := t_goes (b := b5) ht hh hn
  rw [decide_eq_true (Tr.join_l ht hu)] at q3
  have q4 := t_goes (b := b5) hu hh hn
  rw [decide_eq_true (Tr.join_r ht hu)] at q4
  have q5 := t_below (b := b5) ht ht hn
  rw [Tr.meet_le ht ht (Tr.le_refl t)] at q5
  have q6 := t_above (b := b5) ht ht hn
  rw [Tr.join_le ht ht (Tr.le_refl t)] at q6
  have q7 := t_below (b := b5) ht hh hn
  rw [Tr.meet_le ht hh (Tr.join_l ht hu)] at q7
  have q8 := t_above (b := b5) ht hl hn
  rw [Tr.join_le ht hl (Tr.meet_l ht hu)] at q8
  refine Eq.trans (congrArg outOf (seq_nx (setF_at (lnew_at (cons_at (call_same rfl q1) (cons_at (call_same rfl q2) (cons_at (call_same rfl q3) (cons_at (call_same rfl q4) (cons_at (call_same rfl q5) (cons_at (call_same rfl q6) (cons_at (call_same rfl q7) (cons_at (call_same rfl q8) rfl)))))))) (by simp))))) ?_
  have sm2 : F__law_same [.lst [.bl true, .bl true, .bl true, .bl true, t.d, t.d, t.d, t.d], .lst [.bl true, .bl true, .bl true, .bl true, t.d, t.d, t.d, t.d]] b5 = .ok (.bl true) b5 := same_of (by simp) fun x hx => by
    simp only [List.mem_cons, List.not_mem_nil, or_false] at hx
    rcases hx with rfl | rfl | rfl | rfl | rfl | rfl | rfl | rfl
    · exact ⟨rfl, Nat.zero_le _⟩
    · exact ⟨rfl, Nat.zero_le _⟩
    · exact ⟨rfl, Nat.zero_le _⟩
    · exact ⟨rfl, Nat.zero_le _⟩
    · exact rd1 _ ht
    · exact rd1 _ ht
    · exact rd1 _ ht
    · exact rd1 _ ht
  refine Eq.trans (congrArg outOf (seq_nx (Eq.trans (if_f (not_at (k := true) (mT_at (call_same (cons_at rfl (cons_at (fz_at (lnew_at rfl (by simp))) rfl)) sm2)))) rfl))) ?_
  -- when they are one of the two
  have e1 := tr_dEq hl ht hn
  rw [show decide (Tr.meet n t u = t) = decide (Tr.le t u) by rw [Bool.eq_iff_iff, decide_eq_true_iff, decide_eq_true_iff]; exact Tr.meet_eq_iff ht hu] at e1
  have e2 := tr_dEq hh hu hn
  rw [show decide (Tr.join n t u = u) = decide (Tr.le t u) by rw [Bool.eq_iff_iff, decide_eq_true_iff, decide_eq_true_iff]; exact Tr.join_eq_iff ht hu] at e2
  have ne : ∀ k : Bool, (fun x y => (dEq x y).map (!·)) (.bl k) (.bl k) = some false := fun k => by cases k <;> rfl
  have q9 := t_goes (b := b5) ht hu hn
  refine Eq.trans (congrArg outOf (seq_nx (Eq.trans (if_f (Eq.trans (or_f (m2b_at (mB_at (m2b_at rfl rfl e1)) (call_same rfl q9) (ne _))) (m2b_at (mB_at (m2b_at rfl rfl e2)) (call_same rfl q9) (ne _)))) rfl))) ?_
  -- three together
  have a1 := t_below (b := b5) hl hv hn
  rw [Tr.meet_assoc ht hu hv] at a1
  have a2 := t_above (b := b5) hh hv hn
  rw [Tr.join_assoc ht hu hv] at a2
  have hm3 := Tr.meet_ok hu hv
  have hj3 := Tr.join_ok hu hv
  have hm4 := Tr.meet_ok ht hm3
  have hj4 := Tr.join_ok ht hj3
  refine Eq.trans (congrArg outOf (seq_nx (setF_at (lnew_at (cons_at (call_same (cons_at (call_same rfl (t_below ht hu hn)) rfl) a1) (cons_at (call_same (cons_at (call_same rfl (t_above ht hu hn)) rfl) a2) rfl)) (by simp))))) ?_
  have sm3 : F__law_same [.lst [(Tr.meet n t (Tr.meet n u v)).d, (Tr.join n t (Tr.join n u v)).d], .lst [(Tr.meet n t (Tr.meet n u v)).d, (Tr.join n t (Tr.join n u v)).d]] b5 = .ok (.bl true) b5 := same_of (by simp) fun x hx => by
    simp only [List.mem_cons, List.not_mem_nil, or_false] at hx
    rcases hx with rfl | rfl
    · exact rd1 _ hm4
    · exact rd1 _ hj4
  have dl : lNew (aCons (mCall F_right_below (aCons (rd 7) (aCons (mCall F_right_below (aCons (rd 8) (aCons (rd 9) aNil))) aNil))) (aCons (mCall F_right_above (aCons (rd 7) (aCons (mCall F_right_above (aCons (rd 8) (aCons (rd 9) aNil))) aNil))) aNil)) (qR n (.d (rowD ((Tr.meet n t u).row 0))) (.d (.lst [(Tr.meet n t (Tr.meet n u v)).d, (Tr.join n t (Tr.join n u v)).d])) t u v (Tr.meet n t u) (Tr.join n t u) b5) = .ok [(Tr.meet n t (Tr.meet n u v)).d, (Tr.join n t (Tr.join n u v)).d] (qR n (.d (rowD ((Tr.meet n t u).row 0))) (.d (.lst [(Tr.meet n t (Tr.meet n u v)).d, (Tr.join n t (Tr.join n u v)).d])) t u v (Tr.meet n t u) (Tr.join n t u) b5) :=
    lnew_at (cons_at (call_same (cons_at rfl (cons_at (call_same rfl (t_below hu hv hn)) rfl)) (t_below ht hm3 hn)) (cons_at (call_same (cons_at rfl (cons_at (call_same rfl (t_above hu hv hn)) rfl)) (t_above ht hj3 hn)) rfl)) (by simp)
  refine Eq.trans (congrArg outOf (seq_nx (Eq.trans (if_f (not_at (k := true) (mT_at (call_same (cons_at rfl (cons_at (fz_at dl) rfl)) sm3)))) rfl))) ?_
  -- all of them, when few
  have gt : (dOrd (fun i j => decide (j < i)) fun a b => strLt b a) (natD n) (.int 6) = some (decide (6 < n)) := by
    show some (decide ((6 : Int) < ((n : Nat) : Int))) = _
    congr 1
    rw [Bool.eq_iff_iff, decide_eq_true_iff, decide_eq_true_iff]
    omega
  by_cases z : 6 < n
  · rw [decide_eq_true z] at gt
    refine Eq.trans (congrArg outOf (seq_rt (Eq.trans (if_t (m2b_at rfl rfl gt)) (ret_at rfl)))) ?_
    rfl
  · rw [decide_eq_false z] at gt
    refine Eq.trans (congrArg outOf (seq_nx (Eq.trans (if_f (m2b_at rfl rfl gt)) rfl))) ?_
    exact e_tail n (.d (rowD ((Tr.meet n t u).row 0))) (.d (.lst [(Tr.meet n t (Tr.meet n u v)).d, (Tr.join n t (Tr.join n u v)).d])) t u v b5 p (by omega) ht hu
end K76
end S76p_

section S76q_
set_option Elab.async false
set_option linter.all false
set_option maxRecDepth 100000
set_option maxHeartbeats 4000000
namespace K76
open PySem PySem.Spec PyProof.Rows L2 Pv
open Classical
theorem meet_of {n : Nat} {t u m : Tr} (ht : Tr.ok n t) (hu : Tr.ok n u) (hm : Tr.ok n m) (h : ∀ i, i < n → Tr.rw0 m i = min (Tr.rw0 t i) (Tr.rw0 u i)) : Tr.meet n t u = m :=
  Tr.inj0 (Tr.meet_ok ht hu) hm fun i hi => by rw [(Tr.meet_spec ht hu).2 i hi, h i hi]
def evT : Tr := .nd (.nd (.lf 0) (.lf 1)) (.nd (.lf 2) (.lf 3))
def beT : Tr := .nd (.nd (.lf 0) (.nd (.lf 1) (.lf 2))) (.lf 3)
def loT : Tr := .nd (.nd (.nd (.lf 0) (.lf 1)) (.lf 2)) (.lf 3)
def hiT : Tr := .nd (.lf 0) (.nd (.lf 1) (.nd (.lf 2) (.lf 3)))
theorem ev_ok : Tr.ok 4 evT := ⟨⟨⟨rfl, rfl⟩, ⟨rfl, rfl⟩⟩, rfl⟩
theorem be_ok : Tr.ok 4 beT := ⟨⟨⟨rfl, ⟨rfl, rfl⟩⟩, rfl⟩, rfl⟩
theorem lo_ok : Tr.ok 4 loT := ⟨⟨⟨⟨rfl, rfl⟩, rfl⟩, rfl⟩, rfl⟩
theorem hi_ok : Tr.ok 4 hiT := ⟨⟨rfl, ⟨rfl, ⟨rfl, rfl⟩⟩⟩, rfl⟩
theorem lo_eq : Tr.meet 4 evT beT = loT := meet_of ev_ok be_ok lo_ok (by decide)
theorem hi_eq : Tr.join 4 evT beT = hiT := by
  show Tr.flip 4 (Tr.meet 4 (Tr.flip 4 evT) (Tr.flip 4 beT)) = hiT
  rw [meet_of (Tr.flip_ok ev_ok) (Tr.flip_ok be_ok) (Tr.flip_ok hi_ok) (by decide)]
  exact Tr.flip2 hi_ok
def t1T : Tr := .lf 0
def t2T : Tr := .nd (.lf 0) (.lf 1)
theorem t1_ok : Tr.ok 1 t1T := ⟨rfl, rfl⟩
theorem t2_ok : Tr.ok 2 t2T := ⟨⟨rfl, rfl⟩, rfl⟩
theorem at_law_right (b : Box) (o : okB b 200) : F__law_right [.box] b = .ok (.bl true) (right5 b).2 := by
  unfold F__law_right
  rw [fnOf_at (enc := fun _ : Unit => [.box]) (fun _ _ _ => rfl) () b, if_pos o]
theorem box_ok (i : Int) : okB (boxOf i) 1000 := ⟨Int.le_refl _, by show (0 : Int) + ((1000 : Nat) : Int) ≤ 100000; decide⟩
theorem box_at {i : Nat} {F : List D → Option Box} {ml : M (List D)} {s s1 : S} {ds : List D} {b : Box} (h : ml s = .ok ds s1) (hF : F ds = some b) : sBox i F ml s = .nx { setS i .bx s1 with box := b } := by
  unfold sBox
  rw [h]
  show (match F ds with
    | some b => SO.nx { setS i .bx s1 with box := b }
    | none => .no) = _
  rw [hF]
theorem e_law (ns : List Int) (b0 : Box) (h : ns.length ≤ 63) : ∃ s1, m_law (s0 ["script", "tin", "got", "even", "bent", "lap"] [.scr ns] b0) = .rt (.bl true) s1 := by
  unfold m_law
  have bx : sBox 1 B__law_box (aCons (mCall F__law_cells (aCons (rd 0) (aCons (con (.int 1)) aNil))) (aCons (con (.int 0)) aNil)) (s0 ["script", "tin", "got", "even", "bent", "lap"] [.scr ns] b0) = .nx { env := [.d (.scr ns), .bx, .no, .no, .no, .no], box := boxOf (cells ns) } := by
    exact box_at (b := boxOf (cells ns)) (cons_at (call_same rfl (at_cells ns b0 h)) rfl) rfl
  generalize hb : boxOf (cells ns) = b at *
  have o : okB b 1000 := by rw [← hb]; exact box_ok _
  have j0 := (right_box b 800 (o.less (by omega))).2.2.2.2.2.2
  have j1 := (right_box (right5 b).2 600 (j0.less (by omega))).2.2.2.2.2.2
  have r0 := at_law_right b (o.less (by omega))
  have r1 := at_law_right (right5 b).2 (j0.less (by omega))
  have r2 := at_law_right (right5 (right5 b).2).2 (j1.less (by omega))
  have g1 := t_below (b := b) ev_ok be_ok (by omega)
  rw [lo_eq] at g1
  have g2 := t_above (b := b) ev_ok be_ok (by omega)
  rw [hi_eq] at g2
  have g3 := t_below (b := b) t1_ok t1_ok (by omega)
  rw [Tr.meet_le t1_ok t1_ok (Tr.le_refl _)] at g3
  have g4 := t_above (b := b) t2_ok t2_ok (by omega)
  rw [Tr.join_le t2_ok t2_ok (Tr.le_refl _)] at g4
  have sm : F__law_same [.lst [loT.d, hiT.d, t1T.d, t2T.d], .lst [loT.d, hiT.d, t1T.d, t2T.d]] b = .ok (.bl true) b := same_of (by simp) fun x hx => by
    simp only [List.mem_cons, List.not_mem_nil, or_false] at hx
    rcases hx with rfl | rfl | rfl | rfl
    · exact ⟨tr_small _, tr_dep lo_ok (by omega)⟩
    · exact ⟨tr_small _, tr_dep hi_ok (by omega)⟩
    · exact ⟨tr_small _, tr_dep t1_ok (by omega)⟩
    · exact ⟨tr_small _, tr_dep t2_ok (by omega)⟩
  refine ⟨{ env := [.d (.scr ns), .bx, .d (.lst [loT.d, hiT.d, t1T.d, t2T.d]), .d evT.d, .d beT.d, .no], box := (right5 (right5 (right5 b).2).2).2 }, ?_⟩
  refine Eq.trans (seq_nx bx) ?_
  have p2 : ∀ (s : S) (x y : D) (ma mb : M D), ma s = .ok x s → mb s = .ok y s → mTup (aCons ma (aCons mb aNil)) s = .ok (.tup [x, y]) s := fun s x y ma mb h1 h2 => tup_at (cons_at h1 (cons_at h2 rfl)) (by simp)
  refine Eq.trans (seq_nx (asg_at (s2 := { env := [.d (.scr ns), .bx, .no, .d evT.d, .d beT.d, .no], box := b }) (p2 _ _ _ _ _ (p2 _ _ _ _ _ (p2 _ _ _ _ _ rfl rfl) (p2 _ _ _ _ _ rfl rfl)) (p2 _ _ _ _ _ (p2 _ _ _ _ _ rfl (p2 _ _ _ _ _ rfl rfl)) rfl)) rfl)) ?_
  refine Eq.trans (seq_nx (setF_at (lnew_at (cons_at (call_same rfl g1) (cons_at (call_same rfl g2) (cons_at (call_same rfl g3) (cons_at (call_same (cons_at (p2 _ _ _ _ _ rfl rfl) (cons_at (p2 _ _ _ _ _ rfl rfl) rfl)) g4) rfl)))) (by simp)))) ?_
  refine Eq.trans (seq_nx (Eq.trans (if_f (not_at (k := true) (mT_at (call_same (cons_at rfl (cons_at (fz_at (lnew_at (cons_at (p2 _ _ _ _ _ (p2 _ _ _ _ _ (p2 _ _ _ _ _ rfl rfl) rfl) rfl) (cons_at (p2 _ _ _ _ _ rfl (p2 _ _ _ _ _ rfl (p2 _ _ _ _ _ rfl rfl))) (cons_at rfl (cons_at (p2 _ _ _ _ _ rfl rfl) rfl)))) (by simp))) rfl)) sm)))) rfl)) ?_
  have cp : cm_law_0 { env := [.d (.scr ns), .bx, .d (.lst [loT.d, hiT.d, t1T.d, t2T.d]), .d evT.d, .d beT.d, .no], box := b } = .ok [.bl true, .bl true, .bl true] { env := [.d (.scr ns), .bx, .d (.lst [loT.d, hiT.d, t1T.d, t2T.d]), .d evT.d, .d beT.d, .no], box := (right5 (right5 (right5 b).2).2).2 } := by
    unfold cm_law_0
    refine Eq.trans (comp_of (ds := [.int 0, .int 1, .int 2]) (s1 := { env := [.d (.scr ns), .bx, .d (.lst [loT.d, hiT.d, t1T.d, t2T.d]), .d evT.d, .d beT.d, .no], box := b }) (us := [.bl true, .bl true, .bl true]) (s2 := { env := [.d (.scr ns), .bx, .d (.lst [loT.d, hiT.d, t1T.d, t2T.d]), .d evT.d, .d beT.d, .d (.int 2)], box := (right5 (right5 (right5 b).2).2).2 }) rfl rfl ?_) rfl
    refine Eq.trans (compL_step (a := { env := [.d (.scr ns), .bx, .d (.lst [loT.d, hiT.d, t1T.d, t2T.d]), .d evT.d, .d beT.d, .d (.int 0)], box := b }) (s' := { env := [.d (.scr ns), .bx, .d (.lst [loT.d, hiT.d, t1T.d, t2T.d]), .d evT.d, .d beT.d, .d (.int 0)], box := (right5 b).2 }) rfl (call_at rfl r0) (by simp)) ?_
    refine Eq.trans (compL_step (a := { env := [.d (.scr ns), .bx, .d (.lst [loT.d, hiT.d, t1T.d, t2T.d]), .d evT.d, .d beT.d, .d (.int 1)], box := (right5 b).2 }) (s' := { env := [.d (.scr ns), .bx, .d (.lst [loT.d, hiT.d, t1T.d, t2T.d]), .d evT.d, .d beT.d, .d (.int 1)], box := (right5 (right5 b).2).2 }) rfl (call_at rfl r1) (by simp)) ?_
    refine Eq.trans (compL_step (a := { env := [.d (.scr ns), .bx, .d (.lst [loT.d, hiT.d, t1T.d, t2T.d]), .d evT.d, .d beT.d, .d (.int 2)], box := (right5 (right5 b).2).2 }) (s' := { env := [.d (.scr ns), .bx, .d (.lst [loT.d, hiT.d, t1T.d, t2T.d]), .d evT.d, .d beT.d, .d (.int 2)], box := (right5 (right5 (right5 b).2).2).2 }) rfl (call_at rfl r2) (by simp)) ?_
    rfl
  refine Eq.trans (ret_at (b1_at (lst_at cp) rfl)) ?_
  rfl
end K76
end S76q_

section S76r_
set_option Elab.async false
set_option linter.all false
set_option maxRecDepth 100000
set_option maxHeartbeats 4000000
namespace K76
open PySem PySem.Spec PyProof.Rows L2 Pv
open Classical
/-! ### every def does what its plain function says -/
structure Df (K : PySem.W.Frag) (mg : Str → Option Value) : Prop where
  is_number : DefAt K mg "is_number" st_is_number ["thing"]
  are_numbers : DefAt K mg "are_numbers" st_are_numbers ["thing"]
  tupled : DefAt K mg "tupled" st_tupled ["value"]
  leaves_in : DefAt K mg "leaves_in" st_leaves_in ["tree"]
  sure_tree : DefAt K mg "sure_tree" st_sure_tree ["value"]
  words_in : DefAt K mg "words_in" st_words_in ["tree"]
  stacked : DefAt K mg "stacked" st_stacked ["lengths"]
  tree_in : DefAt K mg "tree_in" st_tree_in ["lengths"]
  turned_tree : DefAt K mg "turned_tree" st_turned_tree ["tree"]
  piece_at : DefAt K mg "piece_at" st_piece_at ["tree", "word"]
  pair_words : DefAt K mg "pair_words" st_pair_words ["tree"]
  reach_in : DefAt K mg "reach_in" st_reach_in ["tree"]
  is_reach_in : DefAt K mg "is_reach_in" st_is_reach_in ["row"]
  tree_of_row : DefAt K mg "tree_of_row" st_tree_of_row ["row", "first", "last"]
  is_below : DefAt K mg "is_below" st_is_below ["one", "other"]
  lower_in : DefAt K mg "lower_in" st_lower_in ["one", "other"]
  flipped : DefAt K mg "flipped" st_flipped ["tree", "many"]
  sure_pair : DefAt K mg "sure_pair" st_sure_pair ["one", "other"]
  reaches : DefAt K mg "reaches" st_reaches ["tree"]
  tree_of_reaches : DefAt K mg "tree_of_reaches" st_tree_of_reaches ["row"]
  goes_right : DefAt K mg "goes_right" st_goes_right ["one", "other"]
  right_below : DefAt K mg "right_below" st_right_below ["one", "other"]
  right_above : DefAt K mg "right_above" st_right_above ["one", "other"]
  _law_box : DefAt K mg "_law_box" st__law_box ["script", "k"]
  _law_take : DefAt K mg "_law_take" st__law_take ["tin", "below_so"]
  _law_cells : DefAt K mg "_law_cells" st__law_cells ["script", "most_so"]
  _law_of : DefAt K mg "_law_of" st__law_of ["tin", "goods_so"]
  _law_mixed : DefAt K mg "_law_mixed" st__law_mixed ["tin", "matter"]
  _law_same : DefAt K mg "_law_same" st__law_same ["got", "due"]
  _law_tree : DefAt K mg "_law_tree" st__law_tree ["tin", "first_so", "many_so"]
  _law_all_trees : DefAt K mg "_law_all_trees" st__law_all_trees ["first_so", "many_so"]
  _law_leaves : DefAt K mg "_law_leaves" st__law_leaves ["tree_so"]
  _law_reach : DefAt K mg "_law_reach" st__law_reach ["tree_so"]
  _law_right : DefAt K mg "_law_right" st__law_right ["tin"]
  law : DefAt K mg "law" st_law ["script"]
section
variable {P : Program} {w : World} {K : PySem.W.Frag} {mg : Str → Option Value} {base : Heap}
theorem h_is_number (D : Df K mg) (bl : Blt mg) : Has P w K mg base "is_number" 1 1 F_is_number :=
  has_enc (k := 0) D.is_number sc_is_number rfl (fun a a' h => natD_inj (List.cons.inj h).1) fun a b g => ⟨m_is_number, fun cdv A outer s H E f B => d_is_number bl  cdv A outer s H E f B, by
    exact e_is_number a b⟩
theorem h_are_numbers (D : Df K mg) (bl : Blt mg) : Has P w K mg base "are_numbers" 1 2 F_are_numbers :=
  has_enc (k := 1) D.are_numbers sc_are_numbers rfl (fun a a' h => rowD_inj (List.cons.inj h).1) fun a b g => ⟨m_are_numbers, fun cdv A outer s H E f B => d_are_numbers bl (h_is_number D bl |>.up (by omega)) cdv A outer s H E f B, by
    revert g
    try dsimp only
    split
    · next c => exact fun _ => e_are_numbers a b c
    · exact fun g => absurd rfl g⟩
theorem hr_tupled (D : Df K mg) (bl : Blt mg) : ∀ n, Has P w K mg base "tupled" 1 (n + 1) (tupF n)
  | 0 => has_enc (k := 0) D.tupled sc_tupled rfl (fun a a' h => (List.cons.inj h).1) fun a b g => by
    try dsimp only at g
    split at g
    · next c => exact (show False from Nat.not_lt_zero _ c.2).elim
    · exact absurd rfl g
  | n + 1 => (has_enc (k := n + 1) D.tupled sc_tupled rfl (fun a a' h => (List.cons.inj h).1) fun a b g => ⟨m_tupled (tupF n), fun cdv A outer s H E f B => d_tupled bl (hr_tupled D bl n) cdv A outer s H E f B, by
    revert g
    try dsimp only
    split
    · next c => exact fun _ => e_tupled n a b c.1 c.2
    · exact fun g => absurd rfl g⟩).up (by omega)
theorem h_tupled (D : Df K mg) (bl : Blt mg) : Has P w K mg base "tupled" 1 62 F_tupled := hr_tupled D bl 61
theorem h_leaves_in (D : Df K mg) (bl : Blt mg) : Has P w K mg base "leaves_in" 1 2 F_leaves_in :=
  has_enc (k := 1) D.leaves_in sc_leaves_in rfl (fun a a' h => Tr.d_inj (List.cons.inj h).1) fun a b g => ⟨m_leaves_in, fun cdv A outer s H E f B => d_leaves_in bl (h_is_number D bl |>.up (by omega)) cdv A outer s H E f B, by
    revert g
    try dsimp only
    split
    · next c => exact fun _ => e_leaves_in a b c
    · exact fun g => absurd rfl g⟩
theorem h_sure_tree (D : Df K mg) (bl : Blt mg) : Has P w K mg base "sure_tree" 1 63 F_sure_tree :=
  has_enc (k := 62) D.sure_tree sc_sure_tree rfl (fun a a' h => Mx.d_inj (List.cons.inj h).1) fun a b g => ⟨m_sure_tree, fun cdv A outer s H E f B => d_sure_tree bl (h_tupled D bl |>.up (by omega)) (h_leaves_in D bl |>.up (by omega)) cdv A outer s H E f B, by
    revert g
    try dsimp only
    split
    · next c => exact fun _ => e_sure_tree a b c
    · exact fun g => absurd rfl g⟩
theorem h_words_in (D : Df K mg) (bl : Blt mg) : Has P w K mg base "words_in" 1 1 F_words_in :=
  has_enc (k := 0) D.words_in sc_words_in rfl (fun a a' h => Tr.d_inj (List.cons.inj h).1) fun a b g => ⟨m_words_in, fun cdv A outer s H E f B => d_words_in bl  cdv A outer s H E f B, by
    revert g
    try dsimp only
    split
    · next c => exact fun _ => e_words_in a b c
    · exact fun g => absurd rfl g⟩
theorem h_stacked (D : Df K mg) (bl : Blt mg) : Has P w K mg base "stacked" 1 1 F_stacked :=
  has_enc (k := 0) D.stacked sc_stacked rfl (fun a a' h => nats_inj (by have := (List.cons.inj h).1; unfold lsD at this; injection this)) fun a b g => ⟨m_stacked, fun cdv A outer s H E f B => d_stacked bl  cdv A outer s H E f B, by
    revert g
    try dsimp only
    split
    · next c => exact fun _ => e_stacked a b c
    · exact fun g => absurd rfl g⟩
theorem h_tree_in (D : Df K mg) (bl : Blt mg) : Has P w K mg base "tree_in" 1 2 F_tree_in :=
  has_enc (k := 1) D.tree_in sc_tree_in rfl (fun a a' h => nats_inj (by have := (List.cons.inj h).1; unfold lsD at this; injection this)) fun a b g => ⟨m_tree_in, fun cdv A outer s H E f B => d_tree_in bl (h_stacked D bl |>.up (by omega)) cdv A outer s H E f B, by
    revert g
    try dsimp only
    split
    · next c =>
      split
      · next t q => exact fun _ => e_tree_in a b t c q
      · exact fun g => absurd rfl g
    · exact fun g => absurd rfl g⟩
theorem h_turned_tree (D : Df K mg) (bl : Blt mg) : Has P w K mg base "turned_tree" 1 64 F_turned_tree :=
  has_enc (k := 63) D.turned_tree sc_turned_tree rfl (fun a a' h => Tr.d_inj (List.cons.inj h).1) fun a b g => ⟨m_turned_tree, fun cdv A outer s H E f B => d_turned_tree bl (h_words_in D bl |>.up (by omega)) (h_sure_tree D bl |>.up (by omega)) (h_tree_in D bl |>.up (by omega)) cdv A outer s H E f B, by
    revert g
    try dsimp only
    split
    · next c => exact fun _ => e_turned_tree a b c
    · exact fun g => absurd rfl g⟩
theorem h_piece_at (D : Df K mg) (bl : Blt mg) : Has P w K mg base "piece_at" 2 1 F_piece_at :=
  has_enc (k := 0) D.piece_at sc_piece_at rfl (fun a a' h => Prod.ext (Tr.d_inj (List.cons.inj h).1) (wd_inj (by have := (List.cons.inj (List.cons.inj h).2).1; injection this))) fun a b g => ⟨m_piece_at, fun cdv A outer s H E f B => d_piece_at bl  cdv A outer s H E f B, by
    revert g
    try dsimp only
    split
    · next u q => exact fun _ => e_piece_at a.1 u a.2 b q
    · exact fun g => absurd rfl g⟩
theorem h_pair_words (D : Df K mg) (bl : Blt mg) : Has P w K mg base "pair_words" 1 1 F_pair_words :=
  has_enc (k := 0) D.pair_words sc_pair_words rfl (fun a a' h => Tr.d_inj (List.cons.inj h).1) fun a b g => ⟨m_pair_words, fun cdv A outer s H E f B => d_pair_words bl  cdv A outer s H E f B, by
    revert g
    try dsimp only
    split
    · next c => exact fun _ => e_pair_words a b c
    · exact fun g => absurd rfl g⟩
theorem h_reach_in (D : Df K mg) (bl : Blt mg) : Has P w K mg base "reach_in" 1 3 F_reach_in :=
  has_enc (k := 2) D.reach_in sc_reach_in rfl (fun a a' h => Tr.d_inj (List.cons.inj h).1) fun a b g => ⟨m_reach_in, fun cdv A outer s H E f B => d_reach_in bl (h_leaves_in D bl |>.up (by omega)) (h_pair_words D bl |>.up (by omega)) (h_piece_at D bl |>.up (by omega)) cdv A outer s H E f B, by
    revert g
    try dsimp only
    split
    · next c => exact fun _ => e_reach_in a b c
    · exact fun g => absurd rfl g⟩
theorem h_is_reach_in (D : Df K mg) (bl : Blt mg) : Has P w K mg base "is_reach_in" 1 1 F_is_reach_in :=
  has_enc (k := 0) D.is_reach_in sc_is_reach_in rfl (fun a a' h => rowD_inj (List.cons.inj h).1) fun a b g => ⟨m_is_reach_in, fun cdv A outer s H E f B => d_is_reach_in bl  cdv A outer s H E f B, by
    revert g
    try dsimp only
    split
    · next c =>
      obtain ⟨t, ht, rfl⟩ := c
      exact fun _ => e_is_reach_in t b ht
    · exact fun g => absurd rfl g⟩
theorem hr_tree_of_row (D : Df K mg) (bl : Blt mg) : ∀ n, Has P w K mg base "tree_of_row" 3 (n + 1) (torF n)
  | 0 => has_enc (k := 0) D.tree_of_row sc_tree_of_row rfl (fun a a' h => by
    have h1 := List.cons.inj h
    have h2 := List.cons.inj h1.2
    have h3 := List.cons.inj h2.2
    have r := rowL_inj h1.1
    exact Prod.ext r.1 (Prod.ext r.2 (Prod.ext (natD_inj h2.1) (natD_inj h3.1)))) fun a b g => by
    try dsimp only at g
    split at g
    · next c => exact (show False from absurd c.2 (by have h := c.1.choose_spec; have p := Tr.sz_pos c.1.choose; have := h.sz; omega)).elim
    · exact absurd rfl g
  | n + 1 => (has_enc (k := n + 1) D.tree_of_row sc_tree_of_row rfl (fun a a' h => by
    have h1 := List.cons.inj h
    have h2 := List.cons.inj h1.2
    have h3 := List.cons.inj h2.2
    have r := rowL_inj h1.1
    exact Prod.ext r.1 (Prod.ext r.2 (Prod.ext (natD_inj h2.1) (natD_inj h3.1)))) fun a b g => ⟨m_tree_of_row (torF n), fun cdv A outer s H E f B => d_tree_of_row bl (hr_tree_of_row D bl n) cdv A outer s H E f B, by
    revert g
    try dsimp only
    split
    · next c => exact fun _ => e_tree_of_row n a.1 a.2.1 a.2.2.1 a.2.2.2 c.1.choose b c.1.choose_spec (by have := c.1.choose_spec.sz; have := c.2; omega)
    · exact fun g => absurd rfl g⟩).up (by omega)
theorem h_tree_of_row (D : Df K mg) (bl : Blt mg) : Has P w K mg base "tree_of_row" 3 61 F_tree_of_row := hr_tree_of_row D bl 60
theorem h_is_below (D : Df K mg) (bl : Blt mg) : Has P w K mg base "is_below" 2 1 F_is_below :=
  has_enc (k := 0) D.is_below sc_is_below rfl (fun a a' h => Prod.ext (rowD_inj (List.cons.inj h).1) (rowD_inj (List.cons.inj (List.cons.inj h).2).1)) fun a b g => ⟨m_is_below, fun cdv A outer s H E f B => d_is_below bl  cdv A outer s H E f B, by
    revert g
    try dsimp only
    split
    · next c => exact fun _ => e_is_below a.1 a.2 b c.1
    · exact fun g => absurd rfl g⟩
theorem h_lower_in (D : Df K mg) (bl : Blt mg) : Has P w K mg base "lower_in" 2 62 F_lower_in :=
  has_enc (k := 61) D.lower_in sc_lower_in rfl (fun a a' h => Prod.ext (Tr.d_inj (List.cons.inj h).1) (Tr.d_inj (List.cons.inj (List.cons.inj h).2).1)) fun a b g => ⟨m_lower_in, fun cdv A outer s H E f B => d_lower_in bl (h_reach_in D bl |>.up (by omega)) (h_tree_of_row D bl |>.up (by omega)) cdv A outer s H E f B, by
    revert g
    try dsimp only
    split
    · next c => exact fun _ => e_lower_in a.1 a.2 b c.1 c.2.1 c.2.2
    · exact fun g => absurd rfl g⟩
theorem hr_flipped (D : Df K mg) (bl : Blt mg) : ∀ n, Has P w K mg base "flipped" 2 (n + 1) (flipF n)
  | 0 => has_enc (k := 0) D.flipped sc_flipped rfl (fun a a' h => Prod.ext (Tr.d_inj (List.cons.inj h).1) (natD_inj (List.cons.inj (List.cons.inj h).2).1)) fun a b g => by
    try dsimp only at g
    split at g
    · next c => exact (show False from absurd c.2 (by have p := Tr.sz_pos a.1; omega)).elim
    · exact absurd rfl g
  | n + 1 => (has_enc (k := n + 1) D.flipped sc_flipped rfl (fun a a' h => Prod.ext (Tr.d_inj (List.cons.inj h).1) (natD_inj (List.cons.inj (List.cons.inj h).2).1)) fun a b g => ⟨m_flipped (flipF n), fun cdv A outer s H E f B => d_flipped bl (hr_flipped D bl n) cdv A outer s H E f B, by
    revert g
    try dsimp only
    split
    · next c => exact fun _ => e_flipped n a.2 a.1 b c.1 c.2
    · exact fun g => absurd rfl g⟩).up (by omega)
theorem h_flipped (D : Df K mg) (bl : Blt mg) : Has P w K mg base "flipped" 2 61 F_flipped := hr_flipped D bl 60
theorem h_sure_pair (D : Df K mg) (bl : Blt mg) : Has P w K mg base "sure_pair" 2 64 F_sure_pair :=
  has_enc (k := 63) D.sure_pair sc_sure_pair rfl (fun a a' h => mm_inj h) fun a b g => ⟨m_sure_pair, fun cdv A outer s H E f B => d_sure_pair bl (h_sure_tree D bl |>.up (by omega)) (h_leaves_in D bl |>.up (by omega)) cdv A outer s H E f B, by
    revert g
    try dsimp only
    split
    · next c => exact fun _ => e_sure_pair a.1 a.2 b c
    · exact fun g => absurd rfl g⟩
theorem h_reaches (D : Df K mg) (bl : Blt mg) : Has P w K mg base "reaches" 1 64 F_reaches :=
  has_enc (k := 63) D.reaches sc_reaches rfl (fun a a' h => Mx.d_inj (List.cons.inj h).1) fun a b g => ⟨m_reaches, fun cdv A outer s H E f B => d_reaches bl (h_reach_in D bl |>.up (by omega)) (h_sure_tree D bl |>.up (by omega)) cdv A outer s H E f B, by
    revert g
    try dsimp only
    split
    · next c => exact fun _ => e_reaches a b c
    · exact fun g => absurd rfl g⟩
theorem h_tree_of_reaches (D : Df K mg) (bl : Blt mg) : Has P w K mg base "tree_of_reaches" 1 63 F_tree_of_reaches :=
  has_enc (k := 62) D.tree_of_reaches sc_tree_of_reaches rfl (fun a a' h => rowD_inj (List.cons.inj h).1) fun a b g => ⟨m_tree_of_reaches, fun cdv A outer s H E f B => d_tree_of_reaches bl (h_tupled D bl |>.up (by omega)) (h_are_numbers D bl |>.up (by omega)) (h_is_reach_in D bl |>.up (by omega)) (h_tree_of_row D bl |>.up (by omega)) cdv A outer s H E f B, by
    revert g
    try dsimp only
    split
    · next c =>
      intro _
      have q := e_tree_of_reaches c.choose b c.choose_spec.1
      rw [c.choose_spec.2] at q
      exact q
    · exact fun g => absurd rfl g⟩
theorem h_goes_right (D : Df K mg) (bl : Blt mg) : Has P w K mg base "goes_right" 2 65 F_goes_right :=
  has_enc (k := 64) D.goes_right sc_goes_right rfl (fun a a' h => mm_inj h) fun a b g => ⟨m_goes_right, fun cdv A outer s H E f B => d_goes_right bl (h_sure_pair D bl |>.up (by omega)) (h_is_below D bl |>.up (by omega)) (h_reach_in D bl |>.up (by omega)) cdv A outer s H E f B, by
    revert g
    try dsimp only
    split
    · next c => exact fun _ => e_goes_right a.1 a.2 b c
    · exact fun g => absurd rfl g⟩
theorem h_right_below (D : Df K mg) (bl : Blt mg) : Has P w K mg base "right_below" 2 65 F_right_below :=
  has_enc (k := 64) D.right_below sc_right_below rfl (fun a a' h => mm_inj h) fun a b g => ⟨m_right_below, fun cdv A outer s H E f B => d_right_below bl (h_sure_pair D bl |>.up (by omega)) (h_lower_in D bl |>.up (by omega)) cdv A outer s H E f B, by
    revert g
    try dsimp only
    split
    · next c => exact fun _ => e_right_below a.1 a.2 b c
    · exact fun g => absurd rfl g⟩
theorem h_right_above (D : Df K mg) (bl : Blt mg) : Has P w K mg base "right_above" 2 65 F_right_above :=
  has_enc (k := 64) D.right_above sc_right_above rfl (fun a a' h => mm_inj h) fun a b g => ⟨m_right_above, fun cdv A outer s H E f B => d_right_above bl (h_sure_pair D bl |>.up (by omega)) (h_leaves_in D bl |>.up (by omega)) (h_flipped D bl |>.up (by omega)) (h_lower_in D bl |>.up (by omega)) cdv A outer s H E f B, by
    revert g
    try dsimp only
    split
    · next c => exact fun _ => e_right_above a.1 a.2 b c
    · exact fun g => absurd rfl g⟩
theorem h__law_box (D : Df K mg) (bl : Blt mg) : HasB P w K mg base "_law_box" 2 1 B__law_box :=
  hasB_of (k := 0) D._law_box sc__law_box rfl fun ds b hl hb => by
    have : ∃ i, ds = [.lst [.int i], .int 0] ∧ b = boxOf i := by
      unfold B__law_box at hb
      split at hb
      · next i => exact ⟨i, rfl, (Option.some.inj hb).symm⟩
      · cases hb
    obtain ⟨i, rfl, rfl⟩ := this
    exact ⟨_, fun cdv A outer s H E f B => d__law_box bl cdv A outer s H E f B, e_box i⟩
theorem h__law_take (D : Df K mg) (bl : Blt mg) : Has P w K mg base "_law_take" 2 1 F__law_take :=
  has_enc (k := 0) D._law_take sc__law_take rfl (fun a a' h => by have h1 := (List.cons.inj (List.cons.inj h).2).1; injection h1) fun a b g => ⟨m__law_take, fun cdv A outer s H E f B => d__law_take bl  cdv A outer s H E f B, by
    revert g
    try dsimp only
    split
    · next c => exact fun _ => e_take a b c.1 c.2.1 c.2.2
    · exact fun g => absurd rfl g⟩
theorem h__law_cells (D : Df K mg) (bl : Blt mg) : Has P w K mg base "_law_cells" 2 1 F__law_cells :=
  has_enc (k := 0) D._law_cells sc__law_cells rfl (fun a a' h => by have h1 := (List.cons.inj h).1; injection h1) fun a b g => ⟨m__law_cells, fun cdv A outer s H E f B => d__law_cells bl  cdv A outer s H E f B, by
    revert g
    try dsimp only
    split
    · next c => exact fun _ => e_cells a b c
    · exact fun g => absurd rfl g⟩
theorem h__law_of (D : Df K mg) (bl : Blt mg) : Has P w K mg base "_law_of" 2 2 F__law_of :=
  has_enc (k := 1) D._law_of sc__law_of rfl (fun a a' h => by
    have h1 := (List.cons.inj (List.cons.inj h).2).1
    injection h1 with h1
    exact List.map_inj_right (fun x y e => by injection e) |>.mp h1) fun a b g => ⟨m__law_of, fun cdv A outer s H E f B => d__law_of bl (h__law_take D bl |>.up (by omega)) cdv A outer s H E f B, by
    revert g
    try dsimp only
    split
    · next c => exact fun _ => e_law_of a b c.1 c.2.1 c.2.2
    · exact fun g => absurd rfl g⟩
theorem hr__law_mixed (D : Df K mg) (bl : Blt mg) : ∀ n, Has P w K mg base "_law_mixed" 2 (n + 2) (mixF n)
  | 0 => has_enc (k := 1) D._law_mixed sc__law_mixed rfl (fun a a' h => Tr.d_inj (List.cons.inj (List.cons.inj h).2).1) fun a b g => by
    try dsimp only at g
    split at g
    · next c => exact (show False from absurd c.1 (by have p := Tr.sz_pos a; omega)).elim
    · exact absurd rfl g
  | n + 1 => (has_enc (k := n + 2) D._law_mixed sc__law_mixed rfl (fun a a' h => Tr.d_inj (List.cons.inj (List.cons.inj h).2).1) fun a b g => ⟨m__law_mixed (mixF n), fun cdv A outer s H E f B => d__law_mixed bl (hr__law_mixed D bl n) (h__law_take D bl |>.up (by omega)) cdv A outer s H E f B, by
    revert g
    try dsimp only
    split
    · next c => exact fun _ => e_mixed n a b c.1 c.2.1 c.2.2
    · exact fun g => absurd rfl g⟩).up (by omega)
theorem h__law_mixed (D : Df K mg) (bl : Blt mg) : Has P w K mg base "_law_mixed" 2 62 F__law_mixed := hr__law_mixed D bl 60
theorem hr__law_same (D : Df K mg) (bl : Blt mg) : ∀ n, Has P w K mg base "_law_same" 2 (n + 1) (sameF n)
  | 0 => has_enc (k := 0) D._law_same sc__law_same rfl (fun a a' h => (List.cons.inj h).1) fun a b g => by
    try dsimp only at g
    split at g
    · next c => exact (show False from Nat.not_lt_zero _ c.2).elim
    · exact absurd rfl g
  | n + 1 => (has_enc (k := n + 1) D._law_same sc__law_same rfl (fun a a' h => (List.cons.inj h).1) fun a b g => ⟨m__law_same (sameF n), fun cdv A outer s H E f B => d__law_same bl (hr__law_same D bl n) cdv A outer s H E f B, by
    revert g
    try dsimp only
    split
    · next c => exact fun _ => e_same n a b c.1 c.2
    · exact fun g => absurd rfl g⟩).up (by omega)
theorem h__law_same (D : Df K mg) (bl : Blt mg) : Has P w K mg base "_law_same" 2 66 F__law_same := hr__law_same D bl 65
theorem hr__law_tree (D : Df K mg) (bl : Blt mg) : ∀ n, Has P w K mg base "_law_tree" 3 (n + 2) (treeF n)
  | 0 => has_enc (k := 1) D._law_tree sc__law_tree rfl (fun a a' h => Prod.ext (natD_inj (List.cons.inj (List.cons.inj h).2).1) (natD_inj (List.cons.inj (List.cons.inj (List.cons.inj h).2).2).1)) fun a b g => by
    try dsimp only at g
    split at g
    · next c => exact (show False from absurd c.2.1 (by have := c.1; omega)).elim
    · exact absurd rfl g
  | n + 1 => (has_enc (k := n + 2) D._law_tree sc__law_tree rfl (fun a a' h => Prod.ext (natD_inj (List.cons.inj (List.cons.inj h).2).1) (natD_inj (List.cons.inj (List.cons.inj (List.cons.inj h).2).2).1)) fun a b g => ⟨m__law_tree (treeF n), fun cdv A outer s H E f B => d__law_tree bl (h__law_take D bl |>.up (by omega)) (hr__law_tree D bl n) cdv A outer s H E f B, by
    revert g
    try dsimp only
    split
    · next c => exact fun _ => e_tree n a.1 a.2 b c.1 c.2.1 c.2.2.1 c.2.2.2
    · exact fun g => absurd rfl g⟩).up (by omega)
theorem h__law_tree (D : Df K mg) (bl : Blt mg) : Has P w K mg base "_law_tree" 3 62 F__law_tree := hr__law_tree D bl 60
theorem hr__law_all_trees (D : Df K mg) (bl : Blt mg) : ∀ n, Has P w K mg base "_law_all_trees" 2 (n + 1) (allF n)
  | 0 => has_enc (k := 0) D._law_all_trees sc__law_all_trees rfl (fun a a' h => Prod.ext (natD_inj (List.cons.inj h).1) (natD_inj (List.cons.inj (List.cons.inj h).2).1)) fun a b g => by
    try dsimp only at g
    split at g
    · next c => exact (show False from absurd c.2.1 (by have := c.1; omega)).elim
    · exact absurd rfl g
  | n + 1 => (has_enc (k := n + 1) D._law_all_trees sc__law_all_trees rfl (fun a a' h => Prod.ext (natD_inj (List.cons.inj h).1) (natD_inj (List.cons.inj (List.cons.inj h).2).1)) fun a b g => ⟨m__law_all_trees (allF n), fun cdv A outer s H E f B => d__law_all_trees bl (hr__law_all_trees D bl n) cdv A outer s H E f B, by
    revert g
    try dsimp only
    split
    · next c => exact fun _ => e_all n a.1 a.2 b c.1 c.2.1 c.2.2
    · exact fun g => absurd rfl g⟩).up (by omega)
theorem h__law_all_trees (D : Df K mg) (bl : Blt mg) : Has P w K mg base "_law_all_trees" 2 7 F__law_all_trees := hr__law_all_trees D bl 6
theorem hr__law_leaves (D : Df K mg) (bl : Blt mg) : ∀ n, Has P w K mg base "_law_leaves" 1 (n + 1) (lvF n)
  | 0 => has_enc (k := 0) D._law_leaves sc__law_leaves rfl (fun a a' h => Tr.d_inj (List.cons.inj h).1) fun a b g => by
    try dsimp only at g
    split at g
    · next c => exact (show False from absurd c.1 (by have p := Tr.sz_pos a; omega)).elim
    · exact absurd rfl g
  | n + 1 => (has_enc (k := n + 1) D._law_leaves sc__law_leaves rfl (fun a a' h => Tr.d_inj (List.cons.inj h).1) fun a b g => ⟨m__law_leaves (lvF n), fun cdv A outer s H E f B => d__law_leaves bl (hr__law_leaves D bl n) cdv A outer s H E f B, by
    revert g
    try dsimp only
    split
    · next c => exact fun _ => e_law_leaves n a b c.1 c.2
    · exact fun g => absurd rfl g⟩).up (by omega)
theorem h__law_leaves (D : Df K mg) (bl : Blt mg) : Has P w K mg base "_law_leaves" 1 61 F__law_leaves := hr__law_leaves D bl 60
theorem h__law_reach (D : Df K mg) (bl : Blt mg) : Has P w K mg base "_law_reach" 1 62 F__law_reach :=
  has_enc (k := 61) D._law_reach sc__law_reach rfl (fun a a' h => Tr.d_inj (List.cons.inj h).1) fun a b g => ⟨m__law_reach, fun cdv A outer s H E f B => d__law_reach bl (h__law_leaves D bl |>.up (by omega)) cdv A outer s H E f B, by
    revert g
    try dsimp only
    split
    · next c => exact fun _ => e_law_reach a b c
    · exact fun g => absurd rfl g⟩
theorem h__law_right (D : Df K mg) (bl : Blt mg) : Has P w K mg base "_law_right" 1 67 F__law_right :=
  has_enc (k := 66) D._law_right sc__law_right rfl (fun _ _ _ => rfl) fun a b g => ⟨m__law_right, fun cdv A outer s H E f B => d__law_right bl (h__law_take D bl |>.up (by omega)) (h__law_of D bl |>.up (by omega)) (h__law_tree D bl |>.up (by omega)) (h_right_above D bl |>.up (by omega)) (h__law_mixed D bl |>.up (by omega)) (h_right_below D bl |>.up (by omega)) (h__law_reach D bl |>.up (by omega)) (h_turned_tree D bl |>.up (by omega)) (h_tree_of_reaches D bl |>.up (by omega)) (h_reaches D bl |>.up (by omega)) (h__law_same D bl |>.up (by omega)) (h_goes_right D bl |>.up (by omega)) (h__law_all_trees D bl |>.up (by omega)) cdv A outer s H E f B, by
    revert g
    try dsimp only
    split
    · next c => exact fun _ => e_law_right b c
    · exact fun g => absurd rfl g⟩
end
end K76
end S76r_

section S76s_
set_option Elab.async false
set_option linter.all false
set_option maxRecDepth 100000
set_option maxHeartbeats 4000000
namespace K76
open PySem PySem.Spec PyProof.Rows L2 Pv
open Classical
section
variable {P : Program} {w : World} {K : PySem.W.Frag} {mg : Str → Option Value} {base : Heap}
def spLaw (K : PySem.W.Frag) : Sp := fun vs H Q _ => ∃ (a : Addr) (ns : List Int), vs = [.ref a] ∧ SqL K H a (ns.map V.int) ∧ ns.length ≤ 63 ∧ ∀ H', Q (.bl true) H'
theorem ok_law (D : Df K mg) (bl : Blt mg) {f : Addr} {fd : FuncData} (F : L2.Fun K "law" "law" st_law f fd) : FnOk P w K mg base (L2.CX P w) 68 f fd ["script"] (spLaw K) := by
  refine F.okX sc_law (fun vs H Q E ⟨a, ns, e, _⟩ => by rw [e]; rfl) fun cdv A outer s H vs Q E hr ⟨a, ns, e, hS, hl, q⟩ => ?_
  subst e
  obtain ⟨s1, m2⟩ := e_law ns (0, 0, 0) hl
  have hb : HasB P w K mg base "_law_box" 2 67 B__law_box := by
    obtain ⟨f, fd, ps, h1, h2⟩ := (h__law_box (P := P) (w := w) (base := base) D bl).ex
    exact ⟨f, fd, ps, h1.mono (by omega), h2⟩
  refine ⟨_, d_law bl ((h__law_cells D bl).up (by omega)) ((h_right_above D bl).up (by omega)) ((h_right_below D bl).up (by omega)) ((h__law_same D bl).up (by omega)) ((h__law_right D bl).up (by omega)) hb cdv A outer s H E f ⟨takes_of rfl rfl rfl rfl, passes_of rfl, hr⟩, ⟨H, H, none, true⟩, ⟨H, none⟩, s0 ["script", "tin", "got", "even", "bent", "lap"] [.scr ns] (0, 0, 0), st0 (w := ⟨H, none⟩) _ (Same.refl H) (show RepAll K ⟨H, none⟩ [.scr ns] [.ref a] from ⟨_, _, rfl, ⟨a, rfl, hS⟩, rfl⟩) (fun p z => nomatch (show (none : Option Addr) = some p from z)), rfl, rfl, ?_⟩
  rw [m2]
  intro w' σ' H' v x1 st r
  have hv : v = .bl true := r
  subst hv
  exact q H'
end
end K76
end S76s_

section S76t_
set_option Elab.async false
set_option linter.all false
set_option maxRecDepth 100000
set_option maxHeartbeats 4000000
namespace K76
open PySem PySem.Spec PyProof.Rows L2 Pv
theorem all_mk {l : PySem.W.OpenLaw} {w : World} {K : PySem.W.Frag} {h : Heap} {mg : Str → Option Value} {fa f0 f1 f2 f3 f4 f5 f6 f7 f8 f9 f10 f11 f12 f13 f14 f15 f16 f17 f18 f19 f20 f21 f22 f23 f24 f25 f26 f27 f28 f29 f30 f31 f32 f33 f34 : Addr} (X : K.In h) (G : h.Ns mainGlobals mg) (hfa : mg "law" = some (.ref fa))
    {od0 an0 od1 an1 od2 an2 od3 an3 od4 an4 od5 an5 od6 an6 od7 an7 od8 an8 od9 an9 od10 an10 od11 an11 od12 an12 od13 an13 od14 an14 od15 an15 od16 an16 od17 an17 od18 an18 od19 an19 od20 an20 od21 an21 od22 an22 od23 an23 od24 an24 od25 an25 od26 an26 od27 an27 od28 an28 od29 an29 od30 an30 od31 an31 od32 an32 od33 an33 od34 an34 : Option Addr} {sl0 sl1 sl2 sl3 sl4 sl5 sl6 sl7 sl8 sl9 sl10 sl11 sl12 sl13 sl14 sl15 sl16 sl17 sl18 sl19 sl20 sl21 sl22 sl23 sl24 sl25 sl26 sl27 sl28 sl29 sl30 sl31 sl32 sl33 sl34 : Array (Option Value)} {oc0 kV0 dc0 pm0 cd0 ct0 oc1 kV1 dc1 pm1 cd1 ct1 oc2 kV2 dc2 pm2 cd2 ct2 oc3 kV3 dc3 pm3 cd3 ct3 oc4 kV4 dc4 pm4 cd4 ct4 oc5 kV5 dc5 pm5 cd5 ct5 oc6 kV6 dc6 pm6 cd6 ct6 oc7 kV7 dc7 pm7 cd7 ct7 oc8 kV8 dc8 pm8 cd8 ct8 oc9 kV9 dc9 pm9 cd9 ct9 oc10 kV10 dc10 pm10 cd10 ct10 oc11 kV11 dc11 pm11 cd11 ct11 oc12 kV12 dc12 pm12 cd12 ct12 oc13 kV13 dc13 pm13 cd13 ct13 oc14 kV14 dc14 pm14 cd14 ct14 oc15 kV15 dc15 pm15 cd15 ct15 oc16 kV16 dc16 pm16 cd16 ct16 oc17 kV17 dc17 pm17 cd17 ct17 oc18 kV18 dc18 pm18 cd18 ct18 oc19 kV19 dc19 pm19 cd19 ct19 oc20 kV20 dc20 pm20 cd20 ct20 oc21 kV21 dc21 pm21 cd21 ct21 oc22 kV22 dc22 pm22 cd22 ct22 oc23 kV23 dc23 pm23 cd23 ct23 oc24 kV24 dc24 pm24 cd24 ct24 oc25 kV25 dc25 pm25 cd25 ct25 oc26 kV26 dc26 pm26 cd26 ct26 oc27 kV27 dc27 pm27 cd27 ct27 oc28 kV28 dc28 pm28 cd28 ct28 oc29 kV29 dc29 pm29 cd29 ct29 oc30 kV30 dc30 pm30 cd30 ct30 oc31 kV31 dc31 pm31 cd31 ct31 oc32 kV32 dc32 pm32 cd32 ct32 oc33 kV33 dc33 pm33 cd33 ct33 oc34 kV34 dc34 pm34 cd34 ct34 : Value} {t0 t1 : Tok}
    (a0 : PySem.W.nsIn K mainGlobals "is_number" = some (some (.ref f0))) (l0 : K.lookup f0 = some ⟨oc0, od0, .func (PySem.W.fnOf "is_number" "is_number" (defArgs st_is_number) (defBody st_is_number) (defScope st_is_number) .none kV0 dc0 pm0 an0 cd0 ct0), sl0⟩) (c0 : PySem.W.codeIn K cd0 "is_number" = true) (k0 : PySem.W.keepIn K (.ref f0) = true)
    (a1 : PySem.W.nsIn K mainGlobals "are_numbers" = some (some (.ref f1))) (l1 : K.lookup f1 = some ⟨oc1, od1, .func (PySem.W.fnOf "are_numbers" "are_numbers" (defArgs st_are_numbers) (defBody st_are_numbers) (defScope st_are_numbers) .none kV1 dc1 pm1 an1 cd1 ct1), sl1⟩) (c1 : PySem.W.codeIn K cd1 "are_numbers" = true) (k1 : PySem.W.keepIn K (.ref f1) = true)
    (a2 : PySem.W.nsIn K mainGlobals "tupled" = some (some (.ref f2))) (l2 : K.lookup f2 = some ⟨oc2, od2, .func (PySem.W.fnOf "tupled" "tupled" (defArgs st_tupled) (defBody st_tupled) (defScope st_tupled) .none kV2 dc2 pm2 an2 cd2 ct2), sl2⟩) (c2 : PySem.W.codeIn K cd2 "tupled" = true) (k2 : PySem.W.keepIn K (.ref f2) = true)
    (a3 : PySem.W.nsIn K mainGlobals "leaves_in" = some (some (.ref f3))) (l3 : K.lookup f3 = some ⟨oc3, od3, .func (PySem.W.fnOf "leaves_in" "leaves_in" (defArgs st_leaves_in) (defBody st_leaves_in) (defScope st_leaves_in) .none kV3 dc3 pm3 an3 cd3 ct3), sl3⟩) (c3 : PySem.W.codeIn K cd3 "leaves_in" = true) (k3 : PySem.W.keepIn K (.ref f3) = true)
    (a4 : PySem.W.nsIn K mainGlobals "sure_tree" = some (some (.ref f4))) (l4 : K.lookup f4 = some ⟨oc4, od4, .func (PySem.W.fnOf "sure_tree" "sure_tree" (defArgs st_sure_tree) (defBody st_sure_tree) (defScope st_sure_tree) .none kV4 dc4 pm4 an4 cd4 ct4), sl4⟩) (c4 : PySem.W.codeIn K cd4 "sure_tree" = true) (k4 : PySem.W.keepIn K (.ref f4) = true)
    (a5 : PySem.W.nsIn K mainGlobals "words_in" = some (some (.ref f5))) (l5 : K.lookup f5 = some ⟨oc5, od5, .func (PySem.W.fnOf "words_in" "words_in" (defArgs st_words_in) (defBody st_words_in) (defScope st_words_in) .none kV5 dc5 pm5 an5 cd5 ct5), sl5⟩) (c5 : PySem.W.codeIn K cd5 "words_in" = true) (k5 : PySem.W.keepIn K (.ref f5) = true)
    (a6 : PySem.W.nsIn K mainGlobals "stacked" = some (some (.ref f6))) (l6 : K.lookup f6 = some ⟨oc6, od6, .func (PySem.W.fnOf "stacked" "stacked" (defArgs st_stacked) (defBody st_stacked) (defScope st_stacked) .none kV6 dc6 pm6 an6 cd6 ct6), sl6⟩) (c6 : PySem.W.codeIn K cd6 "stacked" = true) (k6 : PySem.W.keepIn K (.ref f6) = true)
    (a7 : PySem.W.nsIn K mainGlobals "tree_in" = some (some (.ref f7))) (l7 : K.lookup f7 = some ⟨oc7, od7, .func (PySem.W.fnOf "tree_in" "tree_in" (defArgs st_tree_in) (defBody st_tree_in) (defScope st_tree_in) .none kV7 dc7 pm7 an7 cd7 ct7), sl7⟩) (c7 : PySem.W.codeIn K cd7 "tree_in" = true) (k7 : PySem.W.keepIn K (.ref f7) = true)
    (a8 : PySem.W.nsIn K mainGlobals "turned_tree" = some (some (.ref f8))) (l8 : K.lookup f8 = some ⟨oc8, od8, .func (PySem.W.fnOf "turned_tree" "turned_tree" (defArgs st_turned_tree) (defBody st_turned_tree) (defScope st_turned_tree) .none kV8 dc8 pm8 an8 cd8 ct8), sl8⟩) (c8 : PySem.W.codeIn K cd8 "turned_tree" = true) (k8 : PySem.W.keepIn K (.ref f8) = true)
    (a9 : PySem.W.nsIn K mainGlobals "piece_at" = some (some (.ref f9))) (l9 : K.lookup f9 = some ⟨oc9, od9, .func (PySem.W.fnOf "piece_at" "piece_at" (defArgs st_piece_at) (defBody st_piece_at) (defScope st_piece_at) .none kV9 dc9 pm9 an9 cd9 ct9), sl9⟩) (c9 : PySem.W.codeIn K cd9 "piece_at" = true) (k9 : PySem.W.keepIn K (.ref f9) = true)
    (a10 : PySem.W.nsIn K mainGlobals "pair_words" = some (some (.ref f10))) (l10 : K.lookup f10 = some ⟨oc10, od10, .func (PySem.W.fnOf "pair_words" "pair_words" (defArgs st_pair_words) (defBody st_pair_words) (defScope st_pair_words) .none kV10 dc10 pm10 an10 cd10 ct10), sl10⟩) (c10 : PySem.W.codeIn K cd10 "pair_words" = true) (k10 : PySem.W.keepIn K (.ref f10) = true)
    (a11 : PySem.W.nsIn K mainGlobals "reach_in" = some (some (.ref f11))) (l11 : K.lookup f11 = some ⟨oc11, od11, .func (PySem.W.fnOf "reach_in" "reach_in" (defArgs st_reach_in) (defBody st_reach_in) (defScope st_reach_in) .none kV11 dc11 pm11 an11 cd11 ct11), sl11⟩) (c11 : PySem.W.codeIn K cd11 "reach_in" = true) (k11 : PySem.W.keepIn K (.ref f11) = true)
    (a12 : PySem.W.nsIn K mainGlobals "is_reach_in" = some (some (.ref f12))) (l12 : K.lookup f12 = some ⟨oc12, od12, .func (PySem.W.fnOf "is_reach_in" "is_reach_in" (defArgs st_is_reach_in) (defBody st_is_reach_in) (defScope st_is_reach_in) .none kV12 dc12 pm12 an12 cd12 ct12), sl12⟩) (c12 : PySem.W.codeIn K cd12 "is_reach_in" = true) (k12 : PySem.W.keepIn K (.ref f12) = true)
    (a13 : PySem.W.nsIn K mainGlobals "tree_of_row" = some (some (.ref f13))) (l13 : K.lookup f13 = some ⟨oc13, od13, .func (PySem.W.fnOf "tree_of_row" "tree_of_row" (defArgs st_tree_of_row) (defBody st_tree_of_row) (defScope st_tree_of_row) .none kV13 dc13 pm13 an13 cd13 ct13), sl13⟩) (c13 : PySem.W.codeIn K cd13 "tree_of_row" = true) (k13 : PySem.W.keepIn K (.ref f13) = true)
    (a14 : PySem.W.nsIn K mainGlobals "is_below" = some (some (.ref f14))) (l14 : K.lookup f14 = some ⟨oc14, od14, .func (PySem.W.fnOf "is_below" "is_below" (defArgs st_is_below) (defBody st_is_below) (defScope st_is_below) .none kV14 dc14 pm14 an14 cd14 ct14), sl14⟩) (c14 : PySem.W.codeIn K cd14 "is_below" = true) (k14 : PySem.W.keepIn K (.ref f14) = true)
    (a15 : PySem.W.nsIn K mainGlobals "lower_in" = some (some (.ref f15))) (l15 : K.lookup f15 = some ⟨oc15, od15, .func (PySem.W.fnOf "lower_in" "lower_in" (defArgs st_lower_in) (defBody st_lower_in) (defScope st_lower_in) .none kV15 dc15 pm15 an15 cd15 ct15), sl15⟩) (c15 : PySem.W.codeIn K cd15 "lower_in" = true) (k15 : PySem.W.keepIn K (.ref f15) = true)
    (a16 : PySem.W.nsIn K mainGlobals "flipped" = some (some (.ref f16))) (l16 : K.lookup f16 = some ⟨oc16, od16, .func (PySem.W.fnOf "flipped" "flipped" (defArgs st_flipped) (defBody st_flipped) (defScope st_flipped) .none kV16 dc16 pm16 an16 cd16 ct16), sl16⟩) (c16 : PySem.W.codeIn K cd16 "flipped" = true) (k16 : PySem.W.keepIn K (.ref f16) = true)
    (a17 : PySem.W.nsIn K mainGlobals "sure_pair" = some (some (.ref f17))) (l17 : K.lookup f17 = some ⟨oc17, od17, .func (PySem.W.fnOf "sure_pair" "sure_pair" (defArgs st_sure_pair) (defBody st_sure_pair) (defScope st_sure_pair) .none kV17 dc17 pm17 an17 cd17 ct17), sl17⟩) (c17 : PySem.W.codeIn K cd17 "sure_pair" = true) (k17 : PySem.W.keepIn K (.ref f17) = true)
    (a18 : PySem.W.nsIn K mainGlobals "reaches" = some (some (.ref f18))) (l18 : K.lookup f18 = some ⟨oc18, od18, .func (PySem.W.fnOf "reaches" "reaches" (defArgs st_reaches) (defBody st_reaches) (defScope st_reaches) .none kV18 dc18 pm18 an18 cd18 ct18), sl18⟩) (c18 : PySem.W.codeIn K cd18 "reaches" = true) (k18 : PySem.W.keepIn K (.ref f18) = true)
    (a19 : PySem.W.nsIn K mainGlobals "tree_of_reaches" = some (some (.ref f19))) (l19 : K.lookup f19 = some ⟨oc19, od19, .func (PySem.W.fnOf "tree_of_reaches" "tree_of_reaches" (defArgs st_tree_of_reaches) (defBody st_tree_of_reaches) (defScope st_tree_of_reaches) .none kV19 dc19 pm19 an19 cd19 ct19), sl19⟩) (c19 : PySem.W.codeIn K cd19 "tree_of_reaches" = true) (k19 : PySem.W.keepIn K (.ref f19) = true)
    (a20 : PySem.W.nsIn K mainGlobals "goes_right" = some (some (.ref f20))) (l20 : K.lookup f20 = some ⟨oc20, od20, .func (PySem.W.fnOf "goes_right" "goes_right" (defArgs st_goes_right) (defBody st_goes_right) (defScope st_goes_right) .none kV20 dc20 pm20 an20 cd20 ct20), sl20⟩) (c20 : PySem.W.codeIn K cd20 "goes_right" = true) (k20 : PySem.W.keepIn K (.ref f20) = true)
    (a21 : PySem.W.nsIn K mainGlobals "right_below" = some (some (.ref f21))) (l21 : K.lookup f21 = some ⟨oc21, od21, .func (PySem.W.fnOf "right_below" "right_below" (defArgs st_right_below) (defBody st_right_below) (defScope st_right_below) .none kV21 dc21 pm21 an21 cd21 ct21), sl21⟩) (c21 : PySem.W.codeIn K cd21 "right_below" = true) (k21 : PySem.W.keepIn K (.ref f21) = true)
    (a22 : PySem.W.nsIn K mainGlobals "right_above" = some (some (.ref f22))) (l22 : K.lookup f22 = some ⟨oc22, od22, .func (PySem.W.fnOf "right_above" "right_above" (defArgs st_right_above) (defBody st_right_above) (defScope st_right_above) .none kV22 dc22 pm22 an22 cd22 ct22), sl22⟩) (c22 : PySem.W.codeIn K cd22 "right_above" = true) (k22 : PySem.W.keepIn K (.ref f22) = true)
    (a23 : PySem.W.nsIn K mainGlobals "_law_box" = some (some (.ref f23))) (l23 : K.lookup f23 = some ⟨oc23, od23, .func (PySem.W.fnOf "_law_box" "_law_box" (defArgs st__law_box) (defBody st__law_box) (defScope st__law_box) .none kV23 dc23 pm23 an23 cd23 ct23), sl23⟩) (c23 : PySem.W.codeIn K cd23 "_law_box" = true) (k23 : PySem.W.keepIn K (.ref f23) = true)
    (a24 : PySem.W.nsIn K mainGlobals "_law_take" = some (some (.ref f24))) (l24 : K.lookup f24 = some ⟨oc24, od24, .func (PySem.W.fnOf "_law_take" "_law_take" (defArgs st__law_take) (defBody st__law_take) (defScope st__law_take) .none kV24 dc24 pm24 an24 cd24 ct24), sl24⟩) (c24 : PySem.W.codeIn K cd24 "_law_take" = true) (k24 : PySem.W.keepIn K (.ref f24) = true)
    (a25 : PySem.W.nsIn K mainGlobals "_law_cells" = some (some (.ref f25))) (l25 : K.lookup f25 = some ⟨oc25, od25, .func (PySem.W.fnOf "_law_cells" "_law_cells" (defArgs st__law_cells) (defBody st__law_cells) (defScope st__law_cells) .none kV25 dc25 pm25 an25 cd25 ct25), sl25⟩) (c25 : PySem.W.codeIn K cd25 "_law_cells" = true) (k25 : PySem.W.keepIn K (.ref f25) = true)
    (a26 : PySem.W.nsIn K mainGlobals "_law_of" = some (some (.ref f26))) (l26 : K.lookup f26 = some ⟨oc26, od26, .func (PySem.W.fnOf "_law_of" "_law_of" (defArgs st__law_of) (defBody st__law_of) (defScope st__law_of) .none kV26 dc26 pm26 an26 cd26 ct26), sl26⟩) (c26 : PySem.W.codeIn K cd26 "_law_of" = true) (k26 : PySem.W.keepIn K (.ref f26) = true)
    (a27 : PySem.W.nsIn K mainGlobals "_law_mixed" = some (some (.ref f27))) (l27 : K.lookup f27 = some ⟨oc27, od27, .func (PySem.W.fnOf "_law_mixed" "_law_mixed" (defArgs st__law_mixed) (defBody st__law_mixed) (defScope st__law_mixed) .none kV27 dc27 pm27 an27 cd27 ct27), sl27⟩) (c27 : PySem.W.codeIn K cd27 "_law_mixed" = true) (k27 : PySem.W.keepIn K (.ref f27) = true)
    (a28 : PySem.W.nsIn K mainGlobals "_law_same" = some (some (.ref f28))) (l28 : K.lookup f28 = some ⟨oc28, od28, .func (PySem.W.fnOf "_law_same" "_law_same" (defArgs st__law_same) (defBody st__law_same) (defScope st__law_same) .none kV28 dc28 pm28 an28 cd28 ct28), sl28⟩) (c28 : PySem.W.codeIn K cd28 "_law_same" = true) (k28 : PySem.W.keepIn K (.ref f28) = true)
    (a29 : PySem.W.nsIn K mainGlobals "_law_tree" = some (some (.ref f29))) (l29 : K.lookup f29 = some ⟨oc29, od29, .func (PySem.W.fnOf "_law_tree" "_law_tree" (defArgs st__law_tree) (defBody st__law_tree) (defScope st__law_tree) .none kV29 dc29 pm29 an29 cd29 ct29), sl29⟩) (c29 : PySem.W.codeIn K cd29 "_law_tree" = true) (k29 : PySem.W.keepIn K (.ref f29) = true)
    (a30 : PySem.W.nsIn K mainGlobals "_law_all_trees" = some (some (.ref f30))) (l30 : K.lookup f30 = some ⟨oc30, od30, .func (PySem.W.fnOf "_law_all_trees" "_law_all_trees" (defArgs st__law_all_trees) (defBody st__law_all_trees) (defScope st__law_all_trees) .none kV30 dc30 pm30 an30 cd30 ct30), sl30⟩) (c30 : PySem.W.codeIn K cd30 "_law_all_trees" = true) (k30 : PySem.W.keepIn K (.ref f30) = true)
    (a31 : PySem.W.nsIn K mainGlobals "_law_leaves" = some (some (.ref f31))) (l31 : K.lookup f31 = some ⟨oc31, od31, .func (PySem.W.fnOf "_law_leaves" "_law_leaves" (defArgs st__law_leaves) (defBody st__law_leaves) (defScope st__law_leaves) .none kV31 dc31 pm31 an31 cd31 ct31), sl31⟩) (c31 : PySem.W.codeIn K cd31 "_law_leaves" = true) (k31 : PySem.W.keepIn K (.ref f31) = true)
    (a32 : PySem.W.nsIn K mainGlobals "_law_reach" = some (some (.ref f32))) (l32 : K.lookup f32 = some ⟨oc32, od32, .func (PySem.W.fnOf "_law_reach" "_law_reach" (defArgs st__law_reach) (defBody st__law_reach) (defScope st__law_reach) .none kV32 dc32 pm32 an32 cd32 ct32), sl32⟩) (c32 : PySem.W.codeIn K cd32 "_law_reach" = true) (k32 : PySem.W.keepIn K (.ref f32) = true)
    (a33 : PySem.W.nsIn K mainGlobals "_law_right" = some (some (.ref f33))) (l33 : K.lookup f33 = some ⟨oc33, od33, .func (PySem.W.fnOf "_law_right" "_law_right" (defArgs st__law_right) (defBody st__law_right) (defScope st__law_right) .none kV33 dc33 pm33 an33 cd33 ct33), sl33⟩) (c33 : PySem.W.codeIn K cd33 "_law_right" = true) (k33 : PySem.W.keepIn K (.ref f33) = true)
    (a34 : PySem.W.nsIn K mainGlobals "law" = some (some (.ref f34))) (l34 : K.lookup f34 = some ⟨oc34, od34, .func (PySem.W.fnOf "law" "law" (defArgs st_law) (defBody st_law) (defScope st_law) .none kV34 dc34 pm34 an34 cd34 ct34), sl34⟩) (c34 : PySem.W.codeIn K cd34 "law" = true) (k34 : PySem.W.keepIn K (.ref f34) = true)
    (z0 : PySem.W.nsIn K mainGlobals "abs" = some none) (z1 : PySem.W.nsIn K mainGlobals "all" = some none) (z2 : PySem.W.nsIn K mainGlobals "any" = some none) (z3 : PySem.W.nsIn K mainGlobals "bool" = some none) (z4 : PySem.W.nsIn K mainGlobals "enumerate" = some none) (z5 : PySem.W.nsIn K mainGlobals "int" = some none) (z6 : PySem.W.nsIn K mainGlobals "isinstance" = some none) (z7 : PySem.W.nsIn K mainGlobals "len" = some none) (z8 : PySem.W.nsIn K mainGlobals "list" = some none) (z9 : PySem.W.nsIn K mainGlobals "max" = some none) (z10 : PySem.W.nsIn K mainGlobals "min" = some none) (z11 : PySem.W.nsIn K mainGlobals "range" = some none) (z12 : PySem.W.nsIn K mainGlobals "sorted" = some none) (z13 : PySem.W.nsIn K mainGlobals "str" = some none) (z14 : PySem.W.nsIn K mainGlobals "sum" = some none) (z15 : PySem.W.nsIn K mainGlobals "tuple" = some none) (z16 : PySem.W.nsIn K mainGlobals "zip" = some none)
    (g0 : PySem.W.nsIn K mainGlobals "MOST_LETTERS" = some (some (.int 60 t0))) (g1 : PySem.W.nsIn K mainGlobals "MOST_LEAVES" = some (some (.int 60 t1))) :
    ∃ fd : FuncData, (∀ (s : Shared) (v : Value), BindsTo s fd ⟨[v], []⟩ [("script", v)]) ∧ ∀ base : Heap, K.In base → base.Ns mainGlobals mg → FnOk l.prog w K mg base (L2.CX l.prog w) 68 fa fd ["script"] (spLaw K) := by
  have e := hfa.symm.trans (PySem.W.mg_of X G a34)
  cases e
  have F0 := fun_mk (st := st_is_number) l0 c0 k0
  have F1 := fun_mk (st := st_are_numbers) l1 c1 k1
  have F2 := fun_mk (st := st_tupled) l2 c2 k2
  have F3 := fun_mk (st := st_leaves_in) l3 c3 k3
  have F4 := fun_mk (st := st_sure_tree) l4 c4 k4
  have F5 := fun_mk (st := st_words_in) l5 c5 k5
  have F6 := fun_mk (st := st_stacked) l6 c6 k6
  have F7 := fun_mk (st := st_tree_in) l7 c7 k7
  have F8 := fun_mk (st := st_turned_tree) l8 c8 k8
  have F9 := fun_mk (st := st_piece_at) l9 c9 k9
  have F10 := fun_mk (st := st_pair_words) l10 c10 k10
  have F11 := fun_mk (st := st_reach_in) l11 c11 k11
  have F12 := fun_mk (st := st_is_reach_in) l12 c12 k12
  have F13 := fun_mk (st := st_tree_of_row) l13 c13 k13
  have F14 := fun_mk (st := st_is_below) l14 c14 k14
  have F15 := fun_mk (st := st_lower_in) l15 c15 k15
  have F16 := fun_mk (st := st_flipped) l16 c16 k16
  have F17 := fun_mk (st := st_sure_pair) l17 c17 k17
  have F18 := fun_mk (st := st_reaches) l18 c18 k18
  have F19 := fun_mk (st := st_tree_of_reaches) l19 c19 k19
  have F20 := fun_mk (st := st_goes_right) l20 c20 k20
  have F21 := fun_mk (st := st_right_below) l21 c21 k21
  have F22 := fun_mk (st := st_right_above) l22 c22 k22
  have F23 := fun_mk (st := st__law_box) l23 c23 k23
  have F24 := fun_mk (st := st__law_take) l24 c24 k24
  have F25 := fun_mk (st := st__law_cells) l25 c25 k25
  have F26 := fun_mk (st := st__law_of) l26 c26 k26
  have F27 := fun_mk (st := st__law_mixed) l27 c27 k27
  have F28 := fun_mk (st := st__law_same) l28 c28 k28
  have F29 := fun_mk (st := st__law_tree) l29 c29 k29
  have F30 := fun_mk (st := st__law_all_trees) l30 c30 k30
  have F31 := fun_mk (st := st__law_leaves) l31 c31 k31
  have F32 := fun_mk (st := st__law_reach) l32 c32 k32
  have F33 := fun_mk (st := st__law_right) l33 c33 k33
  have F34 := fun_mk (st := st_law) l34 c34 k34
  have bl : Blt mg := ⟨PySem.W.mg_none_of X G z0, PySem.W.mg_none_of X G z1, PySem.W.mg_none_of X G z2, PySem.W.mg_none_of X G z3, PySem.W.mg_none_of X G z4, PySem.W.mg_none_of X G z5, PySem.W.mg_none_of X G z6, PySem.W.mg_none_of X G z7, PySem.W.mg_none_of X G z8, PySem.W.mg_none_of X G z9, PySem.W.mg_none_of X G z10, PySem.W.mg_none_of X G z11, PySem.W.mg_none_of X G z12, PySem.W.mg_none_of X G z13, PySem.W.mg_none_of X G z14, PySem.W.mg_none_of X G z15, PySem.W.mg_none_of X G z16, ⟨_, PySem.W.mg_of X G g0⟩, ⟨_, PySem.W.mg_of X G g1⟩⟩
  have D0 : DefAt K mg "is_number" st_is_number ["thing"] := ⟨_, _, F0, PySem.W.mg_of X G a0, F0.binds (ps := ["thing"]) fun _ _ _ _ _ _ us hl => match us, hl with | [_], _ => rfl⟩
  have D1 : DefAt K mg "are_numbers" st_are_numbers ["thing"] := ⟨_, _, F1, PySem.W.mg_of X G a1, F1.binds (ps := ["thing"]) fun _ _ _ _ _ _ us hl => match us, hl with | [_], _ => rfl⟩
  have D2 : DefAt K mg "tupled" st_tupled ["value"] := ⟨_, _, F2, PySem.W.mg_of X G a2, F2.binds (ps := ["value"]) fun _ _ _ _ _ _ us hl => match us, hl with | [_], _ => rfl⟩
  have D3 : DefAt K mg "leaves_in" st_leaves_in ["tree"] := ⟨_, _, F3, PySem.W.mg_of X G a3, F3.binds (ps := ["tree"]) fun _ _ _ _ _ _ us hl => match us, hl with | [_], _ => rfl⟩
  have D4 : DefAt K mg "sure_tree" st_sure_tree ["value"] := ⟨_, _, F4, PySem.W.mg_of X G a4, F4.binds (ps := ["value"]) fun _ _ _ _ _ _ us hl => match us, hl with | [_], _ => rfl⟩
  have D5 : DefAt K mg "words_in" st_words_in ["tree"] := ⟨_, _, F5, PySem.W.mg_of X G a5, F5.binds (ps := ["tree"]) fun _ _ _ _ _ _ us hl => match us, hl with | [_], _ => rfl⟩
  have D6 : DefAt K mg "stacked" st_stacked ["lengths"] := ⟨_, _, F6, PySem.W.mg_of X G a6, F6.binds (ps := ["lengths"]) fun _ _ _ _ _ _ us hl => match us, hl with | [_], _ => rfl⟩
  have D7 : DefAt K mg "tree_in" st_tree_in ["lengths"] := ⟨_, _, F7, PySem.W.mg_of X G a7, F7.binds (ps := ["lengths"]) fun _ _ _ _ _ _ us hl => match us, hl with | [_], _ => rfl⟩
  have D8 : DefAt K mg "turned_tree" st_turned_tree ["tree"] := ⟨_, _, F8, PySem.W.mg_of X G a8, F8.binds (ps := ["tree"]) fun _ _ _ _ _ _ us hl => match us, hl with | [_], _ => rfl⟩
  have D9 : DefAt K mg "piece_at" st_piece_at ["tree", "word"] := ⟨_, _, F9, PySem.W.mg_of X G a9, F9.binds (ps := ["tree", "word"]) fun _ _ _ _ _ _ us hl => match us, hl with | [_, _], _ => rfl⟩
  have D10 : DefAt K mg "pair_words" st_pair_words ["tree"] := ⟨_, _, F10, PySem.W.mg_of X G a10, F10.binds (ps := ["tree"]) fun _ _ _ _ _ _ us hl => match us, hl with | [_], _ => rfl⟩
  have D11 : DefAt K mg "reach_in" st_reach_in ["tree"] := ⟨_, _, F11, PySem.W.mg_of X G a11, F11.binds (ps := ["tree"]) fun _ _ _ _ _ _ us hl => match us, hl with | [_], _ => rfl⟩
  have D12 : DefAt K mg "is_reach_in" st_is_reach_in ["row"] := ⟨_, _, F12, PySem.W.mg_of X G a12, F12.binds (ps := ["row"]) fun _ _ _ _ _ _ us hl => match us, hl with | [_], _ => rfl⟩
  have D13 : DefAt K mg "tree_of_row" st_tree_of_row ["row", "first", "last"] := ⟨_, _, F13, PySem.W.mg_of X G a13, F13.binds (ps := ["row", "first", "last"]) fun _ _ _ _ _ _ us hl => match us, hl with | [_, _, _], _ => rfl⟩
  have D14 : DefAt K mg "is_below" st_is_below ["one", "other"] := ⟨_, _, F14, PySem.W.mg_of X G a14, F14.binds (ps := ["one", "other"]) fun _ _ _ _ _ _ us hl => match us, hl with | [_, _], _ => rfl⟩
  have D15 : DefAt K mg "lower_in" st_lower_in ["one", "other"] := ⟨_, _, F15, PySem.W.mg_of X G a15, F15.binds (ps := ["one", "other"]) fun _ _ _ _ _ _ us hl => match us, hl with | [_, _], _ => rfl⟩
  have D16 : DefAt K mg "flipped" st_flipped ["tree", "many"] := ⟨_, _, F16, PySem.W.mg_of X G a16, F16.binds (ps := ["tree", "many"]) fun _ _ _ _ _ _ us hl => match us, hl with | [_, _], _ => rfl⟩
  have D17 : DefAt K mg "sure_pair" st_sure_pair ["one", "other"] := ⟨_, _, F17, PySem.W.mg_of X G a17, F17.binds (ps := ["one", "other"]) fun _ _ _ _ _ _ us hl => match us, hl with | [_, _], _ => rfl⟩
  have D18 : DefAt K mg "reaches" st_reaches ["tree"] := ⟨_, _, F18, PySem.W.mg_of X G a18, F18.binds (ps := ["tree"]) fun _ _ _ _ _ _ us hl => match us, hl with | [_], _ => rfl⟩
  have D19 : DefAt K mg "tree_of_reaches" st_tree_of_reaches ["row"] := ⟨_, _, F19, PySem.W.mg_of X G a19, F19.binds (ps := ["row"]) fun _ _ _ _ _ _ us hl => match us, hl with | [_], _ => rfl⟩
  have D20 : DefAt K mg "goes_right" st_goes_right ["one", "other"] := ⟨_, _, F20, PySem.W.mg_of X G a20, F20.binds (ps := ["one", "other"]) fun _ _ _ _ _ _ us hl => match us, hl with | [_, _], _ => rfl⟩
  have D21 : DefAt K mg "right_below" st_right_below ["one", "other"] := ⟨_, _, F21, PySem.W.mg_of X G a21, F21.binds (ps := ["one", "other"]) fun _ _ _ _ _ _ us hl => match us, hl with | [_, _], _ => rfl⟩
  have D22 : DefAt K mg "right_above" st_right_above ["one", "other"] := ⟨_, _, F22, PySem.W.mg_of X G a22, F22.binds (ps := ["one", "other"]) fun _ _ _ _ _ _ us hl => match us, hl with | [_, _], _ => rfl⟩
  have D23 : DefAt K mg "_law_box" st__law_box ["script", "k"] := ⟨_, _, F23, PySem.W.mg_of X G a23, F23.binds (ps := ["script", "k"]) fun _ _ _ _ _ _ us hl => match us, hl with | [_, _], _ => rfl⟩
  have D24 : DefAt K mg "_law_take" st__law_take ["tin", "below_so"] := ⟨_, _, F24, PySem.W.mg_of X G a24, F24.binds (ps := ["tin", "below_so"]) fun _ _ _ _ _ _ us hl => match us, hl with | [_, _], _ => rfl⟩
  have D25 : DefAt K mg "_law_cells" st__law_cells ["script", "most_so"] := ⟨_, _, F25, PySem.W.mg_of X G a25, F25.binds (ps := ["script", "most_so"]) fun _ _ _ _ _ _ us hl => match us, hl with | [_, _], _ => rfl⟩
  have D26 : DefAt K mg "_law_of" st__law_of ["tin", "goods_so"] := ⟨_, _, F26, PySem.W.mg_of X G a26, F26.binds (ps := ["tin", "goods_so"]) fun _ _ _ _ _ _ us hl => match us, hl with | [_, _], _ => rfl⟩
  have D27 : DefAt K mg "_law_mixed" st__law_mixed ["tin", "matter"] := ⟨_, _, F27, PySem.W.mg_of X G a27, F27.binds (ps := ["tin", "matter"]) fun _ _ _ _ _ _ us hl => match us, hl with | [_, _], _ => rfl⟩
  have D28 : DefAt K mg "_law_same" st__law_same ["got", "due"] := ⟨_, _, F28, PySem.W.mg_of X G a28, F28.binds (ps := ["got", "due"]) fun _ _ _ _ _ _ us hl => match us, hl with | [_, _], _ => rfl⟩
  have D29 : DefAt K mg "_law_tree" st__law_tree ["tin", "first_so", "many_so"] := ⟨_, _, F29, PySem.W.mg_of X G a29, F29.binds (ps := ["tin", "first_so", "many_so"]) fun _ _ _ _ _ _ us hl => match us, hl with | [_, _, _], _ => rfl⟩
  have D30 : DefAt K mg "_law_all_trees" st__law_all_trees ["first_so", "many_so"] := ⟨_, _, F30, PySem.W.mg_of X G a30, F30.binds (ps := ["first_so", "many_so"]) fun _ _ _ _ _ _ us hl => match us, hl with | [_, _], _ => rfl⟩
  have D31 : DefAt K mg "_law_leaves" st__law_leaves ["tree_so"] := ⟨_, _, F31, PySem.W.mg_of X G a31, F31.binds (ps := ["tree_so"]) fun _ _ _ _ _ _ us hl => match us, hl with | [_], _ => rfl⟩
  have D32 : DefAt K mg "_law_reach" st__law_reach ["tree_so"] := ⟨_, _, F32, PySem.W.mg_of X G a32, F32.binds (ps := ["tree_so"]) fun _ _ _ _ _ _ us hl => match us, hl with | [_], _ => rfl⟩
  have D33 : DefAt K mg "_law_right" st__law_right ["tin"] := ⟨_, _, F33, PySem.W.mg_of X G a33, F33.binds (ps := ["tin"]) fun _ _ _ _ _ _ us hl => match us, hl with | [_], _ => rfl⟩
  have D34 : DefAt K mg "law" st_law ["script"] := ⟨_, _, F34, PySem.W.mg_of X G a34, F34.binds (ps := ["script"]) fun _ _ _ _ _ _ us hl => match us, hl with | [_], _ => rfl⟩
  have D : Df K mg := ⟨D0, D1, D2, D3, D4, D5, D6, D7, D8, D9, D10, D11, D12, D13, D14, D15, D16, D17, D18, D19, D20, D21, D22, D23, D24, D25, D26, D27, D28, D29, D30, D31, D32, D33, D34⟩
  exact ⟨PySem.W.fnOf "law" "law" (defArgs st_law) (defBody st_law) (defScope st_law) .none kV34 dc34 pm34 an34 cd34 ct34, fun s v => .of_eq rfl, fun base _ _ => ok_law D bl F34⟩
end K76
open PySem PySem.W PyProof.Rows
set_option maxHeartbeats 0 in
theorem PySem.Challenge.cw_orderedcodes_k76_main_nearest_trees_belo_holds : PySem.Challenge.rw_orderedcodes_k76_main_nearest_trees_belo.Holds := by
  w_on; o_law; k_head; (case hw => w_witness2)
  k_fill
  refine L2.walk_of (l := PySem.Challenge.rw_orderedcodes_k76_main_nearest_trees_belo) (n := 63) (k := 68) (x := "script") (CX := fun w => L2.CX PySem.Challenge.rw_orderedcodes_k76_main_nearest_trees_belo.prog w) (sp := fun w => K76.spLaw _) rfl (by decide) rfl ⟨rfl, by decide, by decide⟩ (fun w h Y => PySem.W.kIn_of Y) ?F (fun _ _ a ns hl _ hS => ⟨a, ns, rfl, hS, hl, fun _ => rfl⟩) (fun _ _ _ _ _ ⟨_, _, _, _, _, _, _, _, _, _, _, _, h⟩ => h)
  case F =>
    intro w mg fa h KX G hmg
    refine' K76.all_mk KX G hmg ?a0 ?l0 ?c0 ?k0 ?a1 ?l1 ?c1 ?k1 ?a2 ?l2 ?c2 ?k2 ?a3 ?l3 ?c3 ?k3 ?a4 ?l4 ?c4 ?k4 ?a5 ?l5 ?c5 ?k5 ?a6 ?l6 ?c6 ?k6 ?a7 ?l7 ?c7 ?k7 ?a8 ?l8 ?c8 ?k8 ?a9 ?l9 ?c9 ?k9 ?a10 ?l10 ?c10 ?k10 ?a11 ?l11 ?c11 ?k11 ?a12 ?l12 ?c12 ?k12 ?a13 ?l13 ?c13 ?k13 ?a14 ?l14 ?c14 ?k14 ?a15 ?l15 ?c15 ?k15 ?a16 ?l16 ?c16 ?k16 ?a17 ?l17 ?c17 ?k17 ?a18 ?l18 ?c18 ?k18 ?a19 ?l19 ?c19 ?k19 ?a20 ?l20 ?c20 ?k20 ?a21 ?l21 ?c21 ?k21 ?a22 ?l22 ?c22 ?k22 ?a23 ?l23 ?c23 ?k23 ?a24 ?l24 ?c24 ?k24 ?a25 ?l25 ?c25 ?k25 ?a26 ?l26 ?c26 ?k26 ?a27 ?l27 ?c27 ?k27 ?a28 ?l28 ?c28 ?k28 ?a29 ?l29 ?c29 ?k29 ?a30 ?l30 ?c30 ?k30 ?a31 ?l31 ?c31 ?k31 ?a32 ?l32 ?c32 ?k32 ?a33 ?l33 ?c33 ?k33 ?a34 ?l34 ?c34 ?k34 ?z0 ?z1 ?z2 ?z3 ?z4 ?z5 ?z6 ?z7 ?z8 ?z9 ?z10 ?z11 ?z12 ?z13 ?z14 ?z15 ?z16 ?gg0 ?gg1
    (case a0 => k_is); (case l0 => k_is); (case c0 => k_is); (case k0 => k_is); (case a1 => k_is); (case l1 => k_is); (case c1 => k_is); (case k1 => k_is); (case a2 => k_is); (case l2 => k_is); (case c2 => k_is); (case k2 => k_is); (case a3 => k_is); (case l3 => k_is); (case c3 => k_is); (case k3 => k_is); (case a4 => k_is); (case l4 => k_is); (case c4 => k_is); (case k4 => k_is); (case a5 => k_is); (case l5 => k_is); (case c5 => k_is); (case k5 => k_is); (case a6 => k_is); (case l6 => k_is); (case c6 => k_is); (case k6 => k_is); (case a7 => k_is); (case l7 => k_is); (case c7 => k_is); (case k7 => k_is); (case a8 => k_is); (case l8 => k_is); (case c8 => k_is); (case k8 => k_is); (case a9 => k_is); (case l9 => k_is); (case c9 => k_is); (case k9 => k_is); (case a10 => k_is); (case l10 => k_is); (case c10 => k_is); (case k10 => k_is); (case a11 => k_is); (case l11 => k_is); (case c11 => k_is); (case k11 => k_is); (case a12 => k_is); (case l12 => k_is); (case c12 => k_is); (case k12 => k_is); (case a13 => k_is); (case l13 => k_is); (case c13 => k_is); (case k13 => k_is); (case a14 => k_is); (case l14 => k_is); (case c14 => k_is); (case k14 => k_is); (case a15 => k_is); (case l15 => k_is); (case c15 => k_is); (case k15 => k_is); (case a16 => k_is); (case l16 => k_is); (case c16 => k_is); (case k16 => k_is); (case a17 => k_is); (case l17 => k_is); (case c17 => k_is); (case k17 => k_is); (case a18 => k_is); (case l18 => k_is); (case c18 => k_is); (case k18 => k_is); (case a19 => k_is); (case l19 => k_is); (case c19 => k_is); (case k19 => k_is); (case a20 => k_is); (case l20 => k_is); (case c20 => k_is); (case k20 => k_is); (case a21 => k_is); (case l21 => k_is); (case c21 => k_is); (case k21 => k_is); (case a22 => k_is); (case l22 => k_is); (case c22 => k_is); (case k22 => k_is); (case a23 => k_is); (case l23 => k_is); (case c23 => k_is); (case k23 => k_is); (case a24 => k_is); (case l24 => k_is); (case c24 => k_is); (case k24 => k_is); (case a25 => k_is); (case l25 => k_is); (case c25 => k_is); (case k25 => k_is); (case a26 => k_is); (case l26 => k_is); (case c26 => k_is); (case k26 => k_is); (case a27 => k_is); (case l27 => k_is); (case c27 => k_is); (case k27 => k_is); (case a28 => k_is); (case l28 => k_is); (case c28 => k_is); (case k28 => k_is); (case a29 => k_is); (case l29 => k_is); (case c29 => k_is); (case k29 => k_is); (case a30 => k_is); (case l30 => k_is); (case c30 => k_is); (case k30 => k_is); (case a31 => k_is); (case l31 => k_is); (case c31 => k_is); (case k31 => k_is); (case a32 => k_is); (case l32 => k_is); (case c32 => k_is); (case k32 => k_is); (case a33 => k_is); (case l33 => k_is); (case c33 => k_is); (case k33 => k_is); (case a34 => k_is); (case l34 => k_is); (case c34 => k_is); (case k34 => k_is); (case z0 => k_is); (case z1 => k_is); (case z2 => k_is); (case z3 => k_is); (case z4 => k_is); (case z5 => k_is); (case z6 => k_is); (case z7 => k_is); (case z8 => k_is); (case z9 => k_is); (case z10 => k_is); (case z11 => k_is); (case z12 => k_is); (case z13 => k_is); (case z14 => k_is); (case z15 => k_is); (case z16 => k_is); (case gg0 => k_is); (case gg1 => k_is)
end S76t_
