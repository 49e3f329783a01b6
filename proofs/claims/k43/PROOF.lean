import PyProof.Rows.All
import Wide.All
import OpenK.AllK
import Wide.FinOn
import HandS.ForMost
import HandS.TupAny
import HandS.Wide
import HandS.IsInst
import HandS.Codes
import HandS.Conv
import HandS.DictComp
import HandS.Flow
import HandS.More
import HandS.Dict
import HandS.Zip
import HandS.Deep
import HandS.Text
import PyProof.SumAnyB
import PyProof.Draws
import HandS.SortKw
import KE.SortKeyHeap
import KE.SortData
import KE.DataMinKey
import HandS.TupSets
import HandS.Style
import PySem.Challenge.RW_mendwide_k43_whole_outs_puts_and_runs
set_option Elab.async false
set_option linter.all false
set_option maxRecDepth 100000
/-! A layer of data above the layer of heaps: what a piece of Python computes is told by a plain function over data (D) and slots (Sl); the heap stands in the rules' proofs alone. -/
namespace DL
open PySem L2

/-! ### data -/
/-- a text by its signs -/
abbrev Tx := List Nat
def S (l : Tx) : Str := ⟨l.toArray⟩
theorem S_of (x : Str) : S x.cps.toList = x := by
  unfold S
  cases x
  simp
theorem S_inj {l m : Tx} (h : S l = S m) : l = m := by
  unfold S at h
  have := congrArg (fun x : Str => x.cps.toList) h
  simpa using this
abbrev KD := Sum Int Tx
def toKey : KD → Key
  | .inl i => .inl i
  | .inr l => .inr (S l)
theorem toKey_inj {a b : KD} (h : toKey a = toKey b) : a = b := by
  cases a <;> cases b <;> unfold toKey at h
  · cases h; rfl
  · cases h
  · cases h
  · rw [S_inj (Sum.inr.inj h)]
inductive D where
  | non | bl (b : Bool) | int (i : Int) | str (s : Tx) | tup (l : List D) | lst (l : List D) | scr (l : List Int) | dk (l : List (KD × D)) | dt (l : List (List KD × D))

mutual
/-- the value v stands for d, as far as the part G of the heap tells -/
def Rp (K : PySem.W.Frag) (G : Hp) : V → D → Prop
  | v, .non => v = .non
  | v, .bl b => v = .bl b
  | v, .int i => v = .int i
  | v, .str s => v = .str (S s)
  | v, .tup l => ∃ a vs, v = .ref a ∧ SqT K G a vs ∧ RpL K G vs l
  | v, .lst l => ∃ a vs, v = .ref a ∧ G a = some (.lst vs) ∧ RpL K G vs l
  | v, .scr l => ∃ a, v = .ref a ∧ SqL K G a (l.map V.int)
  | v, .dk l => ∃ a kvs, v = .ref a ∧ Rd G a (.dK kvs) ∧ RpK K G kvs l
  | v, .dt l => ∃ a kvs, v = .ref a ∧ Rd G a (.dT kvs) ∧ RpT K G kvs l
def RpL (K : PySem.W.Frag) (G : Hp) : List V → List D → Prop
  | [], [] => True
  | v :: vs, d :: ds => Rp K G v d ∧ RpL K G vs ds
  | _, _ => False
def RpK (K : PySem.W.Frag) (G : Hp) : List (Key × V) → List (KD × D) → Prop
  | [], [] => True
  | (k, v) :: vs, (j, d) :: ds => k = toKey j ∧ Rp K G v d ∧ RpK K G vs ds
  | _, _ => False
def RpT (K : PySem.W.Frag) (G : Hp) : List (List Key × V) → List (List KD × D) → Prop
  | [], [] => True
  | (k, v) :: vs, (j, d) :: ds => k = j.map toKey ∧ Rp K G v d ∧ RpT K G vs ds
  | _, _ => False
end

theorem Rd.mono {G G' : Hp} {a : Addr} {u : HO} (s : Same G G') (r : Rd G a u) : Rd G' a u := by
  rcases r with r | ⟨o, r⟩
  · exact .inl (s _ _ r)
  · exact .inr ⟨o, s _ _ r⟩
theorem SqT.mono {K : PySem.W.Frag} {G G' : Hp} {a : Addr} {xs : List V} (s : Same G G') (h : SqT K G a xs) : SqT K G' a xs := by
  rcases h with h | h
  · exact .inl (Rd.mono s h)
  · exact .inr h
theorem SqL.mono {K : PySem.W.Frag} {G G' : Hp} {a : Addr} {xs : List V} (s : Same G G') (h : SqL K G a xs) : SqL K G' a xs := by
  rcases h with h | h
  · exact .inl (Rd.mono s h)
  · exact .inr h

mutual
theorem Rp.mono {K : PySem.W.Frag} {G G' : Hp} (s : Same G G') : ∀ {d : D} {v : V}, Rp K G v d → Rp K G' v d
  | .non, v, h => by unfold Rp at h ⊢; exact h
  | .bl b, v, h => by unfold Rp at h ⊢; exact h
  | .int b, v, h => by unfold Rp at h ⊢; exact h
  | .str b, v, h => by unfold Rp at h ⊢; exact h
  | .tup l, v, h => by
    unfold Rp at h ⊢
    obtain ⟨a, vs, e, q, r⟩ := h
    exact ⟨a, vs, e, SqT.mono s q, RpL.mono s r⟩
  | .lst l, v, h => by
    unfold Rp at h ⊢
    obtain ⟨a, vs, e, q, r⟩ := h
    exact ⟨a, vs, e, s _ _ q, RpL.mono s r⟩
  | .scr l, v, h => by
    unfold Rp at h ⊢
    obtain ⟨a, e, q⟩ := h
    exact ⟨a, e, SqL.mono s q⟩
  | .dk l, v, h => by
    unfold Rp at h ⊢
    obtain ⟨a, vs, e, q, r⟩ := h
    exact ⟨a, vs, e, Rd.mono s q, RpK.mono s r⟩
  | .dt l, v, h => by
    unfold Rp at h ⊢
    obtain ⟨a, vs, e, q, r⟩ := h
    exact ⟨a, vs, e, Rd.mono s q, RpT.mono s r⟩
theorem RpL.mono {K : PySem.W.Frag} {G G' : Hp} (s : Same G G') : ∀ {ds : List D} {vs : List V}, RpL K G vs ds → RpL K G' vs ds
  | [], [], h => trivial
  | [], _ :: _, h => by unfold RpL at h; exact h.elim
  | _ :: _, [], h => by unfold RpL at h; exact h.elim
  | d :: ds, v :: vs, h => by
    unfold RpL at h ⊢
    exact ⟨Rp.mono s h.1, RpL.mono s h.2⟩
theorem RpK.mono {K : PySem.W.Frag} {G G' : Hp} (s : Same G G') : ∀ {ds : List (KD × D)} {vs : List (Key × V)}, RpK K G vs ds → RpK K G' vs ds
  | [], [], h => trivial
  | [], _ :: _, h => by unfold RpK at h; exact h.elim
  | _ :: _, [], h => by unfold RpK at h; exact h.elim
  | (_, d) :: ds, (_, v) :: vs, h => by
    unfold RpK at h ⊢
    exact ⟨h.1, Rp.mono s h.2.1, RpK.mono s h.2.2⟩
theorem RpT.mono {K : PySem.W.Frag} {G G' : Hp} (s : Same G G') : ∀ {ds : List (List KD × D)} {vs : List (List Key × V)}, RpT K G vs ds → RpT K G' vs ds
  | [], [], h => trivial
  | [], _ :: _, h => by unfold RpT at h; exact h.elim
  | _ :: _, [], h => by unfold RpT at h; exact h.elim
  | (_, d) :: ds, (_, v) :: vs, h => by
    unfold RpT at h ⊢
    exact ⟨h.1, Rp.mono s h.2.1, RpT.mono s h.2.2⟩
end
end DL

namespace DL
open PySem L2
section
variable {K : PySem.W.Frag} {G G' H H' : Hp}

/-- what the object of its own at a holds (its items stand in G) -/
def Own (K : PySem.W.Frag) (G H : Hp) (a : Addr) : D → Prop
  | .lst l => ∃ vs, H a = some (.lst vs) ∧ RpL K G vs l
  | .dk l => ∃ kvs, H a = some (.dK kvs) ∧ RpK K G kvs l
  | .dt l => ∃ kvs, H a = some (.dT kvs) ∧ RpT K G kvs l
  | _ => False
theorem Own.mono (s : Same G G') {a : Addr} {d : D} (e : H' a = H a) (h : Own K G H a d) : Own K G' H' a d := by
  cases d <;> unfold Own at h ⊢ <;> first
    | exact h
    | (obtain ⟨vs, q, r⟩ := h; exact ⟨vs, e.trans q, RpL.mono s r⟩)
    | (obtain ⟨vs, q, r⟩ := h; exact ⟨vs, e.trans q, RpK.mono s r⟩)
    | (obtain ⟨vs, q, r⟩ := h; exact ⟨vs, e.trans q, RpT.mono s r⟩)
theorem Own.there {a : Addr} {d : D} (h : Own K G H a d) : ∃ o, H a = some o := by
  cases d <;> unfold Own at h <;> first
    | exact h.elim
    | (obtain ⟨vs, q, r⟩ := h; exact ⟨_, q⟩)
/-- an object of its own is given to the standing part -/
theorem Own.frozen {a : Addr} {d : D} (h : Own K G H a d) (s : Same G G') (e : G' a = H a) : Rp K G' (.ref a) d := by
  cases d <;> unfold Own at h <;> first
    | exact h.elim
    | (obtain ⟨vs, q, r⟩ := h; unfold Rp; exact ⟨a, vs, rfl, e.trans q, RpL.mono s r⟩)
    | (obtain ⟨vs, q, r⟩ := h; unfold Rp; exact ⟨a, vs, rfl, .inl (e.trans q), RpK.mono s r⟩)
    | (obtain ⟨vs, q, r⟩ := h; unfold Rp; exact ⟨a, vs, rfl, .inl (e.trans q), RpT.mono s r⟩)

end
/-- the written part, and the address of the argument that a def may change -/
structure Kx where
  K : PySem.W.Frag
  pn : Addr
instance : Coe Kx PySem.W.Frag := ⟨Kx.K⟩
section
variable {K : Kx} {G G' H H' : Hp}
/-- what is known of a slot: nothing; data; an object of its own that may still be changed (t: it is the argument that the def may change) -/
inductive Sl where
  | no | sh (d : D) | ow (t : Bool) (d : D)
abbrev Rho := List Sl
def St1 (K : Kx) (G H : Hp) (o : Option V) : Sl → Prop
  | .no => True
  | .sh d => ∃ v, o = some v ∧ Rp K G v d
  | .ow t d => ∃ a, o = some (.ref a) ∧ (t = true → a = K.pn) ∧ G a = none ∧ Own K G H a d
def Ows (σ : St) (ρ : Rho) (i : Nat) (a : Addr) : Prop := ∃ t d, ρ[i]? = some (.ow t d) ∧ σ[i]? = some (some (.ref a))
def OwA (σ : St) (ρ : Rho) (a : Addr) : Prop := ∃ i, Ows σ ρ i a
structure Sx (K : Kx) (G : Hp) (σ : St) (H : Hp) (ρ : Rho) : Prop where
  sub : Same G H
  len : σ.length = ρ.length
  at_ : ∀ (i : Nat) (s : Sl), ρ[i]? = some s → ∃ o, σ[i]? = some o ∧ St1 K G H o s
  apart : ∀ (i j : Nat) (a : Addr), Ows σ ρ i a → Ows σ ρ j a → i = j

/-- from one state to a later one: O, O' the objects of their own -/
structure Go (G H : Hp) (O : Addr → Prop) (G' H' : Hp) (O' : Addr → Prop) : Prop where
  gg : Same G G'
  hh : ∀ b o, H b = some o → ¬ O b → H' b = some o
  nw : ∀ b o, H b = some o → G b = none → ¬ O b → G' b = none
  ow : ∀ b, O' b → O b ∨ H b = none
  dm : ∀ b o, H b = some o → ∃ u, H' b = some u
theorem Go.refl (O : Addr → Prop) : Go G H O G H O := ⟨Same.refl _, fun _ _ h _ => h, fun _ _ _ h _ => h, fun _ h => .inl h, fun _ o h => ⟨o, h⟩⟩
theorem Go.fresh {O O' : Addr → Prop} (a : Go G H O G' H' O') {b : Addr} (h : H' b = none) : H b = none := by
  cases e : H b with
  | none => rfl
  | some o =>
    obtain ⟨u, q⟩ := a.dm b o e
    rw [h] at q; cases q
theorem Go.trans {G1 H1 G2 H2 : Hp} {O O1 O2 : Addr → Prop} (a : Go G H O G1 H1 O1) (b : Go G1 H1 O1 G2 H2 O2) : Go G H O G2 H2 O2 := by
  have no1 : ∀ c o, H c = some o → ¬ O c → ¬ O1 c := fun c o h n q => by
    rcases a.ow c q with r | r
    · exact n r
    · rw [h] at r; cases r
  refine ⟨a.gg.trans b.gg, fun c o h n => b.hh c o (a.hh c o h n) (no1 c o h n), fun c o h g n => b.nw c o (a.hh c o h n) (a.nw c o h g n) (no1 c o h n), fun c q => ?_, fun c o h => by
    obtain ⟨u, h1⟩ := a.dm c o h
    exact b.dm c u h1⟩
  rcases b.ow c q with r | r
  · exact a.ow c r
  · cases e : H c with
    | none => exact .inr rfl
    | some o =>
      by_cases n : O c
      · exact .inl n
      · rw [a.hh c o e n] at r; cases r
theorem Go.less {O O' O2 : Addr → Prop} (a : Go G H O G' H' O') (h : ∀ b, O2 b → O' b) : Go G H O G' H' O2 := ⟨a.gg, a.hh, a.nw, fun b q => a.ow b (h b q), a.dm⟩

theorem Sx.ne_own (S : Sx K G σ H ρ) {i : Nat} {a : Addr} (h : Ows σ ρ i a) : G a = none ∧ ∃ o, H a = some o := by
  obtain ⟨t, d, e, f⟩ := h
  obtain ⟨o, e1, b, e2, e3, e4, e5⟩ := S.at_ i _ e
  rw [f] at e1; cases e1; cases e2
  exact ⟨e4, e5.there⟩
theorem Sx.own_none (S : Sx K G σ H ρ) {a : Addr} (h : OwA σ ρ a) : G a = none := by
  obtain ⟨i, h⟩ := h
  exact (S.ne_own h).1

/-- a new object that is frozen at once -/
theorem Go.new {O : Addr → Prop} {p : Addr} {o : HO} (s : Same G H) (hp : H p = none) (sO : ∀ b, O b → ∃ u, H b = some u) : Go G H O (upd G p o) (upd H p o) O := by
  have gp : G p = none := s.free hp
  refine ⟨fun b u e => ?_, fun b u e _ => ?_, fun b u e g _ => ?_, fun b q => .inl q, fun b u e => ⟨u, ?_⟩⟩
  · rw [upd_ne (ne_of_none e gp)]; exact e
  · rw [upd_ne (ne_of_none e hp)]; exact e
  · rw [upd_ne (ne_of_none e hp)]; exact g
  · rw [upd_ne (ne_of_none e hp)]; exact e
theorem Sx.new {σ : St} {ρ : Rho} {p : Addr} {o : HO} (S : Sx K G σ H ρ) (hp : H p = none) : Sx K (upd G p o) σ (upd H p o) ρ := by
  have gp : G p = none := S.sub.free hp
  have gg : Same G (upd G p o) := fun b u e => by rw [upd_ne (ne_of_none e gp)]; exact e
  refine ⟨fun b u e => ?_, S.len, fun i s e => ?_, S.apart⟩
  · unfold upd at e ⊢
    split at e
    · rename_i q; rw [if_pos q]; exact e
    · rename_i q; rw [if_neg q]; exact S.sub b u e
  · obtain ⟨v, e1, h⟩ := S.at_ i s e
    refine ⟨v, e1, ?_⟩
    cases s with
    | no => trivial
    | sh d =>
      obtain ⟨v, e2, r⟩ := h
      exact ⟨v, e2, r.mono gg⟩
    | ow t d =>
      obtain ⟨a, e2, e3, e4, e5⟩ := h
      have nap : a ≠ p := by
        obtain ⟨u, q⟩ := e5.there
        exact ne_of_none q hp
      exact ⟨a, e2, e3, by rw [upd_ne nap]; exact e4, e5.mono gg (upd_ne nap)⟩
theorem Sx.ow_there {σ : St} {ρ : Rho} (S : Sx K G σ H ρ) : ∀ b, OwA σ ρ b → ∃ u, H b = some u := fun b ⟨i, h⟩ => (S.ne_own h).2
/-- a new object of its own, nowhere kept yet -/
theorem Go.newO {O : Addr → Prop} {p : Addr} {o : HO} (hp : H p = none) : Go G H O G (upd H p o) O := by
  refine ⟨Same.refl _, fun b u e _ => ?_, fun b u e g _ => g, fun b q => .inl q, fun b u e => ⟨u, ?_⟩⟩
  · rw [upd_ne (ne_of_none e hp)]; exact e
  · rw [upd_ne (ne_of_none e hp)]; exact e
theorem Sx.newO {σ : St} {ρ : Rho} {p : Addr} {o : HO} (S : Sx K G σ H ρ) (hp : H p = none) : Sx K G σ (upd H p o) ρ := by
  refine ⟨fun b u e => ?_, S.len, fun i s e => ?_, S.apart⟩
  · have := S.sub b u e
    rw [upd_ne (ne_of_none this hp)]; exact this
  · obtain ⟨v, e1, h⟩ := S.at_ i s e
    refine ⟨v, e1, ?_⟩
    cases s with
    | no => trivial
    | sh d => exact h
    | ow t d =>
      obtain ⟨a, e2, e3, e4, e5⟩ := h
      have nap : a ≠ p := by
        obtain ⟨u, q⟩ := e5.there
        exact ne_of_none q hp
      exact ⟨a, e2, e3, e4, e5.mono (Same.refl _) (upd_ne nap)⟩
end

/-! ### what a reading tells over data -/
abbrev Den := Rho → Option (D × Rho)
abbrev DenT := Rho → Option (Bool × Rho)
abbrev DenL := Rho → Option (List D × Rho)
inductive Out where
  | nx (ρ : Rho) | rt (d : D) (ρ : Rho) | bk (ρ : Rho) | ct (ρ : Rho) | ro (d : D) (ρ : Rho)
abbrev DenS := Rho → Option Out

/-- an expression's reading: its value stands for d -/
def Ev (K : Kx) (t : TE) (φ : Den) : Prop := ∀ ρ d ρ', φ ρ = some (d, ρ') → ∀ (G : Hp) (σ : St) (H : Hp) (Q : VK), Sx K G σ H ρ →
  (∀ v G' H', Go G H (OwA σ ρ) G' H' (OwA σ ρ') → Sx K G' σ H' ρ' → Rp K G' v d → Q v H') → t σ H Q
/-- .. an object of its own, new -/
def EvO (K : Kx) (t : TE) (φ : Den) : Prop := ∀ ρ d ρ', φ ρ = some (d, ρ') → ∀ (G : Hp) (σ : St) (H : Hp) (Q : VK), Sx K G σ H ρ →
  (∀ a G' H', Go G H (OwA σ ρ) G' H' (OwA σ ρ') → Sx K G' σ H' ρ' → H a = none → G' a = none → Own K G' H' a d → ¬ OwA σ ρ' a → Q (.ref a) H') → t σ H Q
def EvT (K : Kx) (t : TT) (φ : DenT) : Prop := ∀ ρ d ρ', φ ρ = some (d, ρ') → ∀ (G : Hp) (σ : St) (H : Hp) (Q : Bool → Hp → Prop), Sx K G σ H ρ →
  (∀ G' H', Go G H (OwA σ ρ) G' H' (OwA σ ρ') → Sx K G' σ H' ρ' → Q d H') → t σ H Q
def EvA (K : Kx) (t : TA) (φ : DenL) : Prop := ∀ ρ d ρ', φ ρ = some (d, ρ') → ∀ (G : Hp) (σ : St) (H : Hp) (Q : List V → Hp → Prop), Sx K G σ H ρ →
  (∀ vs G' H', Go G H (OwA σ ρ) G' H' (OwA σ ρ') → Sx K G' σ H' ρ' → RpL K G' vs d → Q vs H') → t σ H Q
/-- what follows a statement -/
def Aft (K : Kx) (E : Ends) (G : Hp) (σ : St) (H : Hp) (ρ : Rho) : Out → Prop
  | .nx ρ' => ∀ σ' G' H', Go G H (OwA σ ρ) G' H' (OwA σ' ρ') → Sx K G' σ' H' ρ' → E.nx σ' H'
  | .bk ρ' => ∀ σ' G' H', Go G H (OwA σ ρ) G' H' (OwA σ' ρ') → Sx K G' σ' H' ρ' → E.bk σ' H'
  | .ct ρ' => ∀ σ' G' H', Go G H (OwA σ ρ) G' H' (OwA σ' ρ') → Sx K G' σ' H' ρ' → E.ct σ' H'
  | .rt d ρ' => ∀ v σ' G' H', Go G H (OwA σ ρ) G' H' (OwA σ' ρ') → Sx K G' σ' H' ρ' → Rp K G' v d → E.rt v H'
  | .ro d ρ' => ∀ a σ' G' H', Go G H (OwA σ ρ) G' H' (OwA σ' ρ') → Sx K G' σ' H' ρ' → H a = none → G' a = none → Own K G' H' a d → ¬ OwA σ' ρ' a → E.rt (.ref a) H'
def EvS (K : Kx) (t : TS) (φ : DenS) : Prop := ∀ ρ o, φ ρ = some o → ∀ (G : Hp) (σ : St) (H : Hp) (E : Ends), Sx K G σ H ρ → Aft K E G σ H ρ o → t E σ H

/-- contexts that one reading serves: a def's body, or a comprehension's block in it -/
structure Fm (ι : Type) where
  X : ι → Cx
  K : Kx
  N : List Str
  P : Program
  w : World
  mg : Str → Option Value
  base : Heap
  k : Nat
  hK : ∀ i, (X i).K = K.K
  hN : ∀ i, (X i).N = N
  hP : ∀ i, (X i).prog = P
  hw : ∀ i, (X i).w = w
  hmg : ∀ i, (X i).mg = mg
  hb : ∀ i, (X i).base = base
  nd : N.Nodup
  calm : ∀ i, (X i).calm = true
  room : ∀ i, Room k (X i).A
  pass : ∀ i, PassesOwn (model (X i).prog (X i).w) (X i).A (X i).env (X i).xe

structure DE {ι : Type} (F : Fm ι) (e : Expr) (φ : Den) : Prop where
  ex : ∃ t, (∀ i, PE (F.X i) e t) ∧ Ev F.K t φ
structure DO {ι : Type} (F : Fm ι) (e : Expr) (φ : Den) : Prop where
  ex : ∃ t, (∀ i, PE (F.X i) e t) ∧ EvO F.K t φ
structure DT {ι : Type} (F : Fm ι) (e : Expr) (φ : DenT) : Prop where
  ex : ∃ t, (∀ i, PT (F.X i) e t) ∧ EvT F.K t φ
structure DA {ι : Type} (F : Fm ι) (es : List Expr) (φ : DenL) : Prop where
  ex : ∃ t, (∀ i, PA (F.X i) es t) ∧ EvA F.K t φ
structure DS {ι : Type} (F : Fm ι) (s : Stmt) (φ : DenS) : Prop where
  ex : ∃ t, (∀ i, PS (F.X i) s t) ∧ EvS F.K t φ
structure DSs {ι : Type} (F : Fm ι) (s : List Stmt) (φ : DenS) : Prop where
  ex : ∃ t, (∀ i, PSs (F.X i) s t) ∧ EvS F.K t φ

section
variable {ι : Type} {F : Fm ι} {K : Kx}
/-- an object of its own is frozen where it is used as a value -/
theorem EvO.ev {t : TE} {φ : Den} (h : EvO K t φ) : Ev K t φ := by
  intro ρ d ρ' e G σ H Q S q
  refine h ρ d ρ' e G σ H Q S fun a G' H' g S' ha ga ho na => ?_
  obtain ⟨o, hao⟩ := ho.there
  have gg : Same G' (upd G' a o) := fun b u e => by rw [upd_ne (ne_of_none e ga)]; exact e
  refine q (.ref a) (upd G' a o) H' ⟨g.gg.trans gg, g.hh, fun b u hb g1 n => ?_, g.ow, g.dm⟩ ⟨fun b u e => ?_, S'.len, fun i s e => ?_, S'.apart⟩ (ho.frozen gg (by rw [upd_same, hao]))
  · rw [upd_ne (ne_of_none hb ha)]; exact g.nw b u hb g1 n
  · by_cases q : b = a
    · subst q; rw [upd_same] at e; cases e; exact hao
    · rw [upd_ne q] at e; exact S'.sub b u e
  · obtain ⟨v, e1, h1⟩ := S'.at_ i s e
    refine ⟨v, e1, ?_⟩
    cases s with
    | no => trivial
    | sh d =>
      obtain ⟨v, e2, r⟩ := h1
      exact ⟨v, e2, r.mono gg⟩
    | ow t d' =>
      obtain ⟨b, e2, e3, e4, e5⟩ := h1
      have nba : b ≠ a := fun z => na ⟨i, t, d', e, by rw [e1, e2, z]⟩
      exact ⟨b, e2, e3, by rw [upd_ne nba]; exact e4, e5.mono gg rfl⟩
end
end DL

/-! Expressions over data. -/
namespace DL
open PySem L2

section
variable {K : PySem.W.Frag} {G : Hp} {v : V}
theorem rp_non : Rp K G v .non ↔ v = .non := by unfold Rp; exact Iff.rfl
theorem rp_bl {b : Bool} : Rp K G v (.bl b) ↔ v = .bl b := by unfold Rp; exact Iff.rfl
theorem rp_int {i : Int} : Rp K G v (.int i) ↔ v = .int i := by unfold Rp; exact Iff.rfl
theorem rp_str {s : Tx} : Rp K G v (.str s) ↔ v = .str (S s) := by unfold Rp; exact Iff.rfl
theorem rp_tup {l : List D} : Rp K G v (.tup l) ↔ ∃ a vs, v = .ref a ∧ SqT K G a vs ∧ RpL K G vs l := by unfold Rp; exact Iff.rfl
theorem rp_lst {l : List D} : Rp K G v (.lst l) ↔ ∃ a vs, v = .ref a ∧ G a = some (.lst vs) ∧ RpL K G vs l := by unfold Rp; exact Iff.rfl
theorem rp_scr {l : List Int} : Rp K G v (.scr l) ↔ ∃ a, v = .ref a ∧ SqL K G a (l.map V.int) := by unfold Rp; exact Iff.rfl
theorem rp_dk {l : List (KD × D)} : Rp K G v (.dk l) ↔ ∃ a kvs, v = .ref a ∧ Rd G a (.dK kvs) ∧ RpK K G kvs l := by unfold Rp; exact Iff.rfl
theorem rp_dt {l : List (List KD × D)} : Rp K G v (.dt l) ↔ ∃ a kvs, v = .ref a ∧ Rd G a (.dT kvs) ∧ RpT K G kvs l := by unfold Rp; exact Iff.rfl
theorem rpl_nil {vs : List V} : RpL K G vs [] ↔ vs = [] := by
  cases vs with
  | nil => unfold RpL; exact ⟨fun _ => rfl, fun _ => trivial⟩
  | cons _ _ => unfold RpL; exact ⟨fun h => h.elim, fun h => by cases h⟩
theorem rpl_cons {vs : List V} {d : D} {ds : List D} : RpL K G vs (d :: ds) ↔ ∃ v r, vs = v :: r ∧ Rp K G v d ∧ RpL K G r ds := by
  cases vs with
  | nil => unfold RpL; exact ⟨fun h => h.elim, fun ⟨_, _, e, _⟩ => by cases e⟩
  | cons x r => rw [RpL]; exact ⟨fun h => ⟨x, r, rfl, h⟩, fun ⟨_, _, e, h⟩ => by cases e; exact h⟩
theorem rpl_len : ∀ {ds : List D} {vs : List V}, RpL K G vs ds → vs.length = ds.length
  | [], vs, h => by rw [rpl_nil.mp h]; rfl
  | d :: ds, vs, h => by
    obtain ⟨v, r, rfl, _, h2⟩ := rpl_cons.mp h
    rw [List.length_cons, List.length_cons, rpl_len h2]
theorem rpl_app : ∀ {ds es : List D} {vs us : List V}, RpL K G vs ds → RpL K G us es → RpL K G (vs ++ us) (ds ++ es)
  | [], _, vs, _, h, h' => by rw [rpl_nil.mp h]; exact h'
  | d :: ds, _, vs, _, h, h' => by
    obtain ⟨v, r, rfl, h1, h2⟩ := rpl_cons.mp h
    exact rpl_cons.mpr ⟨v, _, rfl, h1, rpl_app h2 h'⟩
theorem rpl_get : ∀ {ds : List D} {vs : List V} {i : Nat} {d : D}, RpL K G vs ds → ds[i]? = some d → ∃ v, vs[i]? = some v ∧ Rp K G v d
  | [], _, _, _, _, e => by simp at e
  | d :: ds, vs, 0, _, h, e => by
    obtain ⟨v, r, rfl, h1, h2⟩ := rpl_cons.mp h
    simp at e; subst e
    exact ⟨v, rfl, h1⟩
  | d :: ds, vs, i + 1, _, h, e => by
    obtain ⟨v, r, rfl, h1, h2⟩ := rpl_cons.mp h
    obtain ⟨w, e1, e2⟩ := rpl_get (i := i) h2 (by simpa using e)
    exact ⟨w, by simpa using e1, e2⟩
theorem rpl_one {d : D} (h : Rp K G v d) : RpL K G [v] [d] := rpl_cons.mpr ⟨v, [], rfl, h, rpl_nil.mpr rfl⟩
theorem rpl_drop : ∀ {ds : List D} {vs : List V} (n : Nat), RpL K G vs ds → RpL K G (vs.drop n) (ds.drop n)
  | _, _, 0, h => h
  | [], vs, n + 1, h => by rw [rpl_nil.mp h]; exact rpl_nil.mpr rfl
  | d :: ds, vs, n + 1, h => by
    obtain ⟨v, r, rfl, h1, h2⟩ := rpl_cons.mp h
    exact rpl_drop n h2
theorem rpl_take : ∀ {ds : List D} {vs : List V} (n : Nat), RpL K G vs ds → RpL K G (vs.take n) (ds.take n)
  | _, _, 0, h => rpl_nil.mpr (by simp)
  | [], vs, n + 1, h => by rw [rpl_nil.mp h]; exact rpl_nil.mpr rfl
  | d :: ds, vs, n + 1, h => by
    obtain ⟨v, r, rfl, h1, h2⟩ := rpl_cons.mp h
    exact rpl_cons.mpr ⟨v, _, rfl, h1, rpl_take n h2⟩
/-- lists of ints, texts, truths -/
theorem rpl_ints : ∀ {is : List Int} {vs : List V}, RpL K G vs (is.map D.int) ↔ vs = is.map V.int
  | [], vs => rpl_nil
  | i :: is, vs => by
    rw [List.map_cons, List.map_cons, rpl_cons]
    constructor
    · rintro ⟨v, r, rfl, h1, h2⟩
      rw [rp_int.mp h1, rpl_ints.mp h2]
    · rintro rfl
      exact ⟨_, _, rfl, rp_int.mpr rfl, rpl_ints.mpr rfl⟩
theorem rpl_strs : ∀ {is : List Tx} {vs : List V}, RpL K G vs (is.map D.str) ↔ vs = is.map fun s => V.str (S s)
  | [], vs => rpl_nil
  | i :: is, vs => by
    rw [List.map_cons, List.map_cons, rpl_cons]
    constructor
    · rintro ⟨v, r, rfl, h1, h2⟩
      rw [rp_str.mp h1, rpl_strs.mp h2]
    · rintro rfl
      exact ⟨_, _, rfl, rp_str.mpr rfl, rpl_strs.mpr rfl⟩
theorem rpl_bls : ∀ {is : List Bool} {vs : List V}, RpL K G vs (is.map D.bl) ↔ vs = is.map V.bl
  | [], vs => rpl_nil
  | i :: is, vs => by
    rw [List.map_cons, List.map_cons, rpl_cons]
    constructor
    · rintro ⟨v, r, rfl, h1, h2⟩
      rw [rp_bl.mp h1, rpl_bls.mp h2]
    · rintro rfl
      exact ⟨_, _, rfl, rp_bl.mpr rfl, rpl_bls.mpr rfl⟩
end

/-! ### combinators -/
def d0 (d : D) : Den := fun ρ => some (d, ρ)
/-- the name at slot i; an object of its own is frozen -/
def dV (i : Nat) : Den := fun ρ => match ρ[i]? with
  | some (.sh d) => some (d, ρ)
  | some (.ow false d) => some (d, ρ.set i (.sh d))
  | _ => none
def d1 (f : D → Option D) (φ : Den) : Den := fun ρ => match φ ρ with
  | some (x, ρ1) => (match f x with | some z => some (z, ρ1) | none => none)
  | none => none
def d2 (f : D → D → Option D) (φ ψ : Den) : Den := fun ρ => match φ ρ with
  | some (x, ρ1) => (match ψ ρ1 with
    | some (y, ρ2) => (match f x y with | some z => some (z, ρ2) | none => none)
    | none => none)
  | none => none
def dBl (φ : Den) : DenT := fun ρ => match φ ρ with
  | some (.bl b, ρ1) => some (b, ρ1)
  | _ => none
def tDen (φ : DenT) : Den := fun ρ => match φ ρ with
  | some (b, ρ1) => some (.bl b, ρ1)
  | none => none
def dAndT (φ ψ : DenT) : DenT := fun ρ => match φ ρ with
  | some (true, ρ1) => ψ ρ1
  | some (false, ρ1) => some (false, ρ1)
  | none => none
def dOrT (φ ψ : DenT) : DenT := fun ρ => match φ ρ with
  | some (true, ρ1) => some (true, ρ1)
  | some (false, ρ1) => ψ ρ1
  | none => none
def dNotT (φ : DenT) : DenT := fun ρ => match φ ρ with
  | some (b, ρ1) => some (!b, ρ1)
  | none => none
def dIf (c : DenT) (φ ψ : Den) : Den := fun ρ => match c ρ with
  | some (true, ρ1) => φ ρ1
  | some (false, ρ1) => ψ ρ1
  | none => none
def dNil : DenL := fun ρ => some ([], ρ)
def dCons (φ : Den) (ψ : DenL) : DenL := fun ρ => match φ ρ with
  | some (x, ρ1) => (match ψ ρ1 with | some (xs, ρ2) => some (x :: xs, ρ2) | none => none)
  | none => none
def dC (f : List D → Option D) (φ : DenL) : Den := fun ρ => match φ ρ with
  | some (xs, ρ1) => (match f xs with | some z => some (z, ρ1) | none => none)
  | none => none

/-! ### rules by values -/
def EvR (K : Kx) (r : R2) (f : D → D → Option D) : Prop := ∀ x y dx dy d, f dx dy = some d → ∀ (G : Hp) (σ : St) (H : Hp) (ρ : Rho) (Q : VK), Sx K G σ H ρ → Rp K G x dx → Rp K G y dy →
  (∀ v G' H', Go G H (OwA σ ρ) G' H' (OwA σ ρ) → Sx K G' σ H' ρ → Rp K G' v d → Q v H') → r x y H Q
def EvRO (K : Kx) (r : R2) (f : D → D → Option D) : Prop := ∀ x y dx dy d, f dx dy = some d → ∀ (G : Hp) (σ : St) (H : Hp) (ρ : Rho) (Q : VK), Sx K G σ H ρ → Rp K G x dx → Rp K G y dy →
  (∀ a G' H', Go G H (OwA σ ρ) G' H' (OwA σ ρ) → Sx K G' σ H' ρ → H a = none → G' a = none → Own K G' H' a d → ¬ OwA σ ρ a → Q (.ref a) H') → r x y H Q
def EvU (K : Kx) (r : V → Hp → VK → Prop) (f : D → Option D) : Prop := ∀ x dx d, f dx = some d → ∀ (G : Hp) (σ : St) (H : Hp) (ρ : Rho) (Q : VK), Sx K G σ H ρ → Rp K G x dx →
  (∀ v G' H', Go G H (OwA σ ρ) G' H' (OwA σ ρ) → Sx K G' σ H' ρ → Rp K G' v d → Q v H') → r x H Q
def EvC (K : Kx) (r : List V → Hp → VK → Prop) (f : List D → Option D) : Prop := ∀ xs ds d, f ds = some d → ∀ (G : Hp) (σ : St) (H : Hp) (ρ : Rho) (Q : VK), Sx K G σ H ρ → RpL K G xs ds →
  (∀ v G' H', Go G H (OwA σ ρ) G' H' (OwA σ ρ) → Sx K G' σ H' ρ → Rp K G' v d → Q v H') → r xs H Q
def EvCO (K : Kx) (r : List V → Hp → VK → Prop) (f : List D → Option D) : Prop := ∀ xs ds d, f ds = some d → ∀ (G : Hp) (σ : St) (H : Hp) (ρ : Rho) (Q : VK), Sx K G σ H ρ → RpL K G xs ds →
  (∀ a G' H', Go G H (OwA σ ρ) G' H' (OwA σ ρ) → Sx K G' σ H' ρ → H a = none → G' a = none → Own K G' H' a d → ¬ OwA σ ρ a → Q (.ref a) H') → r xs H Q

section
variable {ι : Type} {F : Fm ι} {K : Kx}
theorem DO.de {e : Expr} {φ : Den} (h : DO F e φ) : DE F e φ := by
  obtain ⟨t, h1, h2⟩ := h.ex
  exact ⟨t, h1, h2.ev⟩
theorem Sx.same (S : Sx K G σ H ρ) {G' H' : Hp} : Sx K G σ H ρ := S

theorem ev_c {v : V} {d : D} (h : ∀ G, Rp K G v d) : Ev K (tC v) (d0 d) := by
  intro ρ d' ρ' e G σ H Q S q
  cases e
  exact q v G H (Go.refl _) S (h G)
theorem de_int {n : Int} {j pos} : DE F (.Constant (.int n) j pos) (d0 (.int n)) := ⟨_, fun _ => pe_int, ev_c fun _ => rp_int.mpr rfl⟩
theorem de_bl {b : Bool} {j pos} : DE F (.Constant (.bool b) j pos) (d0 (.bl b)) := ⟨_, fun _ => pe_bl, ev_c fun _ => rp_bl.mpr rfl⟩
theorem de_non {j pos} : DE F (.Constant .none j pos) (d0 .non) := ⟨_, fun _ => pe_non, ev_c fun _ => rp_non.mpr rfl⟩
theorem de_str {x : Str} {j pos} : DE F (.Constant (.str x) j pos) (d0 (.str x.cps.toList)) := ⟨_, fun _ => pe_str, ev_c fun _ => rp_str.mpr (by rw [S_of])⟩
/-- a module's constant -/
theorem de_gint {x : Str} {n : Int} {t : Tok} {pos : Pos} (hg : ∀ i, Gl (F.X i) x) (hm : F.mg x = some (.int n t)) (hd : (x == ("__debug__" : Str)) = false := by decide) : DE F (.Name x pos) (d0 (.int n)) :=
  ⟨_, fun i => pe_glob (hg i) (by rw [F.hmg i]; exact hm) (show RelV (.int n) (.int n t) from ⟨t, rfl⟩) hd, ev_c fun _ => rp_int.mpr rfl⟩
theorem de_gstr {x y : Str} {t : Tok} {pos : Pos} (hg : ∀ i, Gl (F.X i) x) (hm : F.mg x = some (.str y t)) (hd : (x == ("__debug__" : Str)) = false := by decide) : DE F (.Name x pos) (d0 (.str y.cps.toList)) :=
  ⟨_, fun i => pe_glob (hg i) (by rw [F.hmg i]; exact hm) (show RelV (.str y) (.str y t) from ⟨t, rfl⟩) hd, ev_c fun _ => rp_str.mpr (by rw [S_of])⟩

/-- a frozen own object -/
theorem Sx.freeze {G H : Hp} {σ : St} {ρ : Rho} {i : Nat} {d : D} (S : Sx K G σ H ρ) (e : ρ[i]? = some (.ow false d)) :
    ∃ v G', σ[i]? = some (some v) ∧ Go G H (OwA σ ρ) G' H (OwA σ (ρ.set i (.sh d))) ∧ Sx K G' σ H (ρ.set i (.sh d)) ∧ Rp K G' v d := by
  obtain ⟨o, e1, a, e2, e3, e4, e5⟩ := S.at_ i _ e
  subst e2
  obtain ⟨u, hau⟩ := e5.there
  have gg : Same G (upd G a u) := fun b w q => by rw [upd_ne (ne_of_none q e4)]; exact q
  have hi : i < ρ.length := (List.getElem?_eq_some_iff.mp e).1
  have oa : OwA σ ρ a := ⟨i, false, d, e, e1⟩
  have less : ∀ (j : Nat) (b : Addr), Ows σ (ρ.set i (.sh d)) j b → Ows σ ρ j b ∧ j ≠ i := by
    rintro j b ⟨t, d', h1, h2⟩
    by_cases hj : j = i
    · subst hj
      rw [List.getElem?_set_self hi] at h1; cases h1
    · rw [List.getElem?_set_ne (Ne.symm hj)] at h1
      exact ⟨⟨t, d', h1, h2⟩, hj⟩
  refine ⟨.ref a, upd G a u, e1, ⟨gg, fun _ _ h _ => h, fun b w hb g n => ?_, fun b ⟨j, hj⟩ => .inl ⟨j, (less j b hj).1⟩, fun _ o h => ⟨o, h⟩⟩, ⟨fun b w q => ?_, by rw [S.len, List.length_set], fun j s q => ?_, fun j k b h1 h2 => S.apart j k b (less j b h1).1 (less k b h2).1⟩, e5.frozen gg (by rw [upd_same, hau])⟩
  · have : b ≠ a := fun z => n (z ▸ oa)
    rw [upd_ne this]; exact g
  · by_cases z : b = a
    · subst z; rw [upd_same] at q; cases q; exact hau
    · rw [upd_ne z] at q; exact S.sub b w q
  · by_cases hj : j = i
    · subst hj
      rw [List.getElem?_set_self hi] at q; cases q
      exact ⟨_, e1, .ref a, rfl, e5.frozen gg (by rw [upd_same, hau])⟩
    · rw [List.getElem?_set_ne (Ne.symm hj)] at q
      obtain ⟨o, f1, f2⟩ := S.at_ j s q
      refine ⟨o, f1, ?_⟩
      cases s with
      | no => trivial
      | sh d' =>
        obtain ⟨v, f3, f4⟩ := f2
        exact ⟨v, f3, f4.mono gg⟩
      | ow t d' =>
        obtain ⟨b, f3, f4, f5, f6⟩ := f2
        have nba : b ≠ a := fun z => hj (S.apart j i a ⟨t, d', q, by rw [f1, f3, z]⟩ ⟨false, d, e, e1⟩)
        exact ⟨b, f3, f4, by rw [upd_ne nba]; exact f5, f6.mono gg rfl⟩
theorem ev_var (i : Nat) : Ev K (tVar i) (dV i) := by
  intro ρ d ρ' e G σ H Q S q
  unfold dV at e
  split at e
  · rename_i d' h
    cases e
    obtain ⟨o, e1, v, rfl, r⟩ := S.at_ i _ h
    exact ⟨v, e1, q v G H (Go.refl _) S r⟩
  · rename_i d' h
    cases e
    obtain ⟨v, G', h1, h2, h3, h4⟩ := S.freeze h
    exact ⟨v, h1, q v G' H h2 h3 h4⟩
  · cases e
theorem de_var (i : Nat) {x : Str} {pos : Pos} (hN : F.N[i]? = some x) (hv : ∀ j, Vis (F.X j).env.scope x) (hd : (x == ("__debug__" : Str)) = false := by decide) (hcd : (x == ("__classdict__" : Str)) = false := by decide) :
    DE F (.Name x pos) (dV i) := ⟨_, fun j => pe_var (by rw [F.hN j]; exact hN) (hv j) hd hcd, ev_var i⟩

/-! ### operators -/
theorem ev_op {r : R2} {f : D → D → Option D} {ta tb : TE} {φ ψ : Den} (er : EvR K r f) (ha : Ev K ta φ) (hb : Ev K tb ψ) : Ev K (tOp r ta tb) (d2 f φ ψ) := by
  intro ρ d ρ' e G σ H Q S q
  unfold d2 at e
  split at e
  · rename_i x ρ1 h1
    split at e
    · rename_i y ρ2 h2
      split at e
      · rename_i z h3
        cases e
        refine ha ρ x ρ1 h1 G σ H _ S fun v G1 H1 g1 S1 r1 => ?_
        refine hb ρ1 y ρ' h2 G1 σ H1 _ S1 fun u G2 H2 g2 S2 r2 => ?_
        refine er v u x y d h3 G2 σ H2 ρ' _ S2 (r1.mono g2.gg) r2 fun w G3 H3 g3 S3 r3 => ?_
        exact q w G3 H3 ((g1.trans g2).trans g3) S3 r3
      · cases e
    · cases e
  · cases e
theorem ev_opO {r : R2} {f : D → D → Option D} {ta tb : TE} {φ ψ : Den} (er : EvRO K r f) (ha : Ev K ta φ) (hb : Ev K tb ψ) : EvO K (tOp r ta tb) (d2 f φ ψ) := by
  intro ρ d ρ' e G σ H Q S q
  unfold d2 at e
  split at e
  · rename_i x ρ1 h1
    split at e
    · rename_i y ρ2 h2
      split at e
      · rename_i z h3
        cases e
        refine ha ρ x ρ1 h1 G σ H _ S fun v G1 H1 g1 S1 r1 => ?_
        refine hb ρ1 y ρ' h2 G1 σ H1 _ S1 fun u G2 H2 g2 S2 r2 => ?_
        refine er v u x y d h3 G2 σ H2 ρ' _ S2 (r1.mono g2.gg) r2 fun a G3 H3 g3 S3 n1 n2 o no => ?_
        exact q a G3 H3 ((g1.trans g2).trans g3) S3 ((g1.trans g2).fresh n1) n2 o no
      · cases e
    · cases e
  · cases e
end
end DL

/-! Tests, calls, displays over data. -/
namespace DL
open PySem L2

section
variable {ι : Type} {F : Fm ι} {K : Kx}

theorem ev_un {r : V → Hp → VK → Prop} {f : D → Option D} {ta : TE} {φ : Den} (er : EvU K r f) (ha : Ev K ta φ) : Ev K (tUn r ta) (d1 f φ) := by
  intro ρ d ρ' e G σ H Q S q
  unfold d1 at e
  split at e
  · rename_i x ρ1 h1
    split at e
    · rename_i z h3
      cases e
      refine ha ρ x ρ' h1 G σ H _ S fun v G1 H1 g1 S1 r1 => ?_
      exact er v x d h3 G1 σ H1 ρ' _ S1 r1 fun w G3 H3 g3 S3 r3 => q w G3 H3 (g1.trans g3) S3 r3
    · cases e
  · cases e

theorem de_op {op : Operator} {r : R2} {f : D → D → Option D} {a b : Expr} {φ ψ : Den} {pos : Pos} (ho : ∀ i, OpR (F.X i) (binaryOp op) r) (er : EvR F.K r f) (ha : DE F a φ) (hb : DE F b ψ) : DE F (.BinOp a op b pos) (d2 f φ ψ) := by
  obtain ⟨ta, a1, a2⟩ := ha.ex
  obtain ⟨tb, b1, b2⟩ := hb.ex
  exact ⟨_, fun i => pe_op (ho i) (a1 i) (b1 i), ev_op er a2 b2⟩
theorem do_op {op : Operator} {r : R2} {f : D → D → Option D} {a b : Expr} {φ ψ : Den} {pos : Pos} (ho : ∀ i, OpR (F.X i) (binaryOp op) r) (er : EvRO F.K r f) (ha : DE F a φ) (hb : DE F b ψ) : DO F (.BinOp a op b pos) (d2 f φ ψ) := by
  obtain ⟨ta, a1, a2⟩ := ha.ex
  obtain ⟨tb, b1, b2⟩ := hb.ex
  exact ⟨_, fun i => pe_op (ho i) (a1 i) (b1 i), ev_opO er a2 b2⟩
theorem de_un {op : UnaryOp} {r : V → Hp → VK → Prop} {f : D → Option D} {a : Expr} {φ : Den} {pos : Pos} (ho : ∀ i, UnR (F.X i) (unaryOp op) r) (er : EvU F.K r f) (ha : DE F a φ) : DE F (.UnaryOp op a pos) (d1 f φ) := by
  obtain ⟨ta, a1, a2⟩ := ha.ex
  exact ⟨_, fun i => pe_un (ho i) (a1 i), ev_un er a2⟩
theorem de_ix {r : R2} {f : D → D → Option D} {a b : Expr} {φ ψ : Den} {pos : Pos} (ho : ∀ i, IxR (F.X i) r) (er : EvR F.K r f) (ha : DE F a φ) (hb : DE F b ψ) (hs : PlainIx b := by exact fun _ _ => rfl) : DE F (.Subscript a b pos) (d2 f φ ψ) := by
  obtain ⟨ta, a1, a2⟩ := ha.ex
  obtain ⟨tb, b1, b2⟩ := hb.ex
  exact ⟨_, fun i => pe_ix (ho i) (a1 i) (b1 i) hs, ev_op er a2 b2⟩
theorem de_cmp {op : CmpOp} {r : R2} {f : D → D → Option D} {a b : Expr} {φ ψ : Den} {pos : Pos} (ho : ∀ i, OpR (F.X i) (compareOp op) r) (er : EvR F.K r f) (ha : DE F a φ) (hb : DE F b ψ) (hm : behindInMarks op b = false := by first | exact nomark _ | rfl) : DE F (.Compare a [op] [b] pos) (d2 f φ ψ) := by
  obtain ⟨ta, a1, a2⟩ := ha.ex
  obtain ⟨tb, b1, b2⟩ := hb.ex
  exact ⟨_, fun i => pe_cmpR (ho i) (a1 i) (b1 i) hm, ev_op er a2 b2⟩

/-! ### tests -/
theorem ev_test {t : TE} {φ : Den} (h : Ev K t φ) : EvT K (tTest t) (dBl φ) := by
  intro ρ d ρ' e G σ H Q S q
  unfold dBl at e
  split at e
  · rename_i b ρ1 h1
    cases e
    exact h ρ _ ρ' h1 G σ H _ S fun v G1 H1 g1 S1 r1 => ⟨d, rp_bl.mp r1, q G1 H1 g1 S1⟩
  · cases e
theorem ev_tB {t : TE} {φ : Den} (h : Ev K t φ) : EvT K (tB t) (dBl φ) := ev_test h
theorem dt_cmp {op : CmpOp} {r : R2} {f : D → D → Option D} {a b : Expr} {φ ψ : Den} {pos : Pos} (ho : ∀ i, OpR (F.X i) (compareOp op) r) (er : EvR F.K r f) (ha : DE F a φ) (hb : DE F b ψ) (hm : behindInMarks op b = false := by first | exact nomark _ | rfl) : DT F (.Compare a [op] [b] pos) (dBl (d2 f φ ψ)) := by
  obtain ⟨ta, a1, a2⟩ := ha.ex
  obtain ⟨tb, b1, b2⟩ := hb.ex
  exact ⟨_, fun i => pt_cmpR (ho i) (a1 i) (b1 i) hm, ev_test (ev_op er a2 b2)⟩
theorem dt_val {e : Expr} {φ : Den} (h : DE F e φ) (he : ∀ i whole, isTrue e (F.X i).env whole = (do let v ← whole; standAt e.pos; holding [v] (truthy v)) := by intro _ _; rfl) : DT F e (dBl φ) := by
  obtain ⟨t, h1, h2⟩ := h.ex
  exact ⟨_, fun i => pt_val (h1 i) (he i), ev_tB h2⟩
structure DW {ι : Type} (F : Fm ι) (e : Expr) (φ : DenT) : Prop where
  ex : ∃ t, (∀ i, PW (F.X i) e t) ∧ EvT F.K t φ
theorem DW.dt {e : Expr} {φ : DenT} (h : DW F e φ) : DT F e φ := by
  obtain ⟨t, h1, h2⟩ := h.ex
  exact ⟨t, fun i => (h1 i).pt, h2⟩
theorem ev_and {t u : TT} {φ ψ : DenT} (h : EvT K t φ) (h' : EvT K u ψ) : EvT K (tAnd t u) (dAndT φ ψ) := by
  intro ρ d ρ' e G σ H Q S q
  unfold dAndT at e
  split at e
  · rename_i ρ1 h1
    refine h ρ _ ρ1 h1 G σ H _ S fun G1 H1 g1 S1 => ?_
    rw [if_pos rfl]
    exact h' ρ1 d ρ' e G1 σ H1 _ S1 fun G2 H2 g2 S2 => q G2 H2 (g1.trans g2) S2
  · rename_i ρ1 h1
    cases e
    refine h ρ _ ρ' h1 G σ H _ S fun G1 H1 g1 S1 => ?_
    rw [if_neg (by decide)]
    exact q G1 H1 g1 S1
  · cases e
theorem ev_or {t u : TT} {φ ψ : DenT} (h : EvT K t φ) (h' : EvT K u ψ) : EvT K (tOr t u) (dOrT φ ψ) := by
  intro ρ d ρ' e G σ H Q S q
  unfold dOrT at e
  split at e
  · rename_i ρ1 h1
    cases e
    refine h ρ _ ρ' h1 G σ H _ S fun G1 H1 g1 S1 => ?_
    rw [if_pos rfl]
    exact q G1 H1 g1 S1
  · rename_i ρ1 h1
    refine h ρ _ ρ1 h1 G σ H _ S fun G1 H1 g1 S1 => ?_
    rw [if_neg (by decide)]
    exact h' ρ1 d ρ' e G1 σ H1 _ S1 fun G2 H2 g2 S2 => q G2 H2 (g1.trans g2) S2
  · cases e
theorem ev_not {t : TT} {φ : DenT} (h : EvT K t φ) : EvT K (tNot t) (dNotT φ) := by
  intro ρ d ρ' e G σ H Q S q
  unfold dNotT at e
  split at e
  · rename_i b ρ1 h1
    cases e
    exact h ρ _ ρ' h1 G σ H _ S fun G1 H1 g1 S1 => q G1 H1 g1 S1
  · cases e
theorem dw_and1 {a : Expr} {φ : DenT} {pos : Pos} (h : DT F a φ) : DW F (.BoolOp .And [a] pos) φ := by
  obtain ⟨t, h1, h2⟩ := h.ex
  exact ⟨t, fun i => pw_and1 (h1 i), h2⟩
theorem dw_or1 {a : Expr} {φ : DenT} {pos : Pos} (h : DT F a φ) : DW F (.BoolOp .Or [a] pos) φ := by
  obtain ⟨t, h1, h2⟩ := h.ex
  exact ⟨t, fun i => pw_or1 (h1 i), h2⟩
theorem dw_and {a b : Expr} {rest : List Expr} {φ ψ : DenT} {pos : Pos} (h : DT F a φ) (h' : DW F (.BoolOp .And (b :: rest) pos) ψ) : DW F (.BoolOp .And (a :: b :: rest) pos) (dAndT φ ψ) := by
  obtain ⟨t, h1, h2⟩ := h.ex
  obtain ⟨u, k1, k2⟩ := h'.ex
  exact ⟨_, fun i => pw_and (h1 i) (k1 i), ev_and h2 k2⟩
theorem dw_or {a b : Expr} {rest : List Expr} {φ ψ : DenT} {pos : Pos} (h : DT F a φ) (h' : DW F (.BoolOp .Or (b :: rest) pos) ψ) : DW F (.BoolOp .Or (a :: b :: rest) pos) (dOrT φ ψ) := by
  obtain ⟨t, h1, h2⟩ := h.ex
  obtain ⟨u, k1, k2⟩ := h'.ex
  exact ⟨_, fun i => pw_or (h1 i) (k1 i), ev_or h2 k2⟩
theorem dt_not {a : Expr} {φ : DenT} {pos : Pos} (h : DT F a φ) : DT F (.UnaryOp .Not a pos) (dNotT φ) := by
  obtain ⟨t, h1, h2⟩ := h.ex
  exact ⟨_, fun i => pt_not (h1 i), ev_not h2⟩
/-- and, or, not as values: all but the last are truths -/
def dAndV (φ ψ : Den) : Den := fun ρ => match φ ρ with
  | some (.bl true, ρ1) => ψ ρ1
  | some (.bl false, ρ1) => some (.bl false, ρ1)
  | _ => none
def dOrV (φ ψ : Den) : Den := fun ρ => match φ ρ with
  | some (.bl true, ρ1) => some (.bl true, ρ1)
  | some (.bl false, ρ1) => ψ ρ1
  | _ => none
def notD : D → Option D
  | .bl b => some (.bl (!b))
  | _ => none
theorem ev_andV {ta tb : TE} {φ ψ : Den} (h : Ev K ta φ) (h' : Ev K tb ψ) : Ev K (tAndV ta tb) (dAndV φ ψ) := by
  intro ρ d ρ' e G σ H Q S q
  unfold dAndV at e
  split at e
  · rename_i ρ1 h1
    refine h ρ _ ρ1 h1 G σ H _ S fun v G1 H1 g1 S1 r1 => ⟨true, rp_bl.mp r1, ?_⟩
    rw [if_pos rfl]
    exact h' ρ1 d ρ' e G1 σ H1 _ S1 fun v G2 H2 g2 S2 r2 => q v G2 H2 (g1.trans g2) S2 r2
  · rename_i ρ1 h1
    cases e
    refine h ρ _ ρ' h1 G σ H _ S fun v G1 H1 g1 S1 r1 => ⟨false, rp_bl.mp r1, ?_⟩
    rw [if_neg (by decide)]
    exact q _ G1 H1 g1 S1 (rp_bl.mpr rfl)
  · cases e
theorem ev_orV {ta tb : TE} {φ ψ : Den} (h : Ev K ta φ) (h' : Ev K tb ψ) : Ev K (tOrV ta tb) (dOrV φ ψ) := by
  intro ρ d ρ' e G σ H Q S q
  unfold dOrV at e
  split at e
  · rename_i ρ1 h1
    cases e
    refine h ρ _ ρ' h1 G σ H _ S fun v G1 H1 g1 S1 r1 => ⟨true, rp_bl.mp r1, ?_⟩
    rw [if_pos rfl]
    exact q _ G1 H1 g1 S1 (rp_bl.mpr rfl)
  · rename_i ρ1 h1
    refine h ρ _ ρ1 h1 G σ H _ S fun v G1 H1 g1 S1 r1 => ⟨false, rp_bl.mp r1, ?_⟩
    rw [if_neg (by decide)]
    exact h' ρ1 d ρ' e G1 σ H1 _ S1 fun v G2 H2 g2 S2 r2 => q v G2 H2 (g1.trans g2) S2 r2
  · cases e
theorem ev_notV {ta : TE} {φ : Den} (h : Ev K ta φ) : Ev K (tNotV ta) (d1 notD φ) := by
  intro ρ d ρ' e G σ H Q S q
  unfold d1 at e
  split at e
  · rename_i x ρ1 h1
    split at e
    · rename_i z h3
      cases e
      cases x <;> simp only [notD, reduceCtorEq] at h3
      rename_i b
      refine h ρ _ ρ' h1 G σ H _ S fun v G1 H1 g1 S1 r1 => ⟨b, rp_bl.mp r1, ?_⟩
      cases h3
      exact q _ G1 H1 g1 S1 (rp_bl.mpr rfl)
    · cases e
  · cases e
theorem de_one {op} {a : Expr} {φ : Den} {pos : Pos} (h : DE F a φ) : DE F (.BoolOp op [a] pos) φ := by
  obtain ⟨t, h1, h2⟩ := h.ex
  exact ⟨t, fun i => pe_one (h1 i), h2⟩
theorem de_and {a b : Expr} {rest : List Expr} {φ ψ : Den} {pos : Pos} (h : DE F a φ) (h' : DE F (.BoolOp .And (b :: rest) pos) ψ) : DE F (.BoolOp .And (a :: b :: rest) pos) (dAndV φ ψ) := by
  obtain ⟨t, h1, h2⟩ := h.ex
  obtain ⟨u, k1, k2⟩ := h'.ex
  exact ⟨_, fun i => pe_and (h1 i) (k1 i), ev_andV h2 k2⟩
theorem de_or {a b : Expr} {rest : List Expr} {φ ψ : Den} {pos : Pos} (h : DE F a φ) (h' : DE F (.BoolOp .Or (b :: rest) pos) ψ) : DE F (.BoolOp .Or (a :: b :: rest) pos) (dOrV φ ψ) := by
  obtain ⟨t, h1, h2⟩ := h.ex
  obtain ⟨u, k1, k2⟩ := h'.ex
  exact ⟨_, fun i => pe_or (h1 i) (k1 i), ev_orV h2 k2⟩
theorem de_not {a : Expr} {φ : Den} {pos : Pos} (h : DE F a φ) : DE F (.UnaryOp .Not a pos) (d1 notD φ) := by
  obtain ⟨t, h1, h2⟩ := h.ex
  exact ⟨_, fun i => pe_not (h1 i), ev_notV h2⟩
theorem de_ifExp {c a b : Expr} {χ : DenT} {φ ψ : Den} {pos : Pos} (hc : DT F c χ) (ha : DE F a φ) (hb : DE F b ψ) : DE F (.IfExp c a b pos) (dIf χ φ ψ) := by
  obtain ⟨t, h1, h2⟩ := hc.ex
  obtain ⟨ta, a1, a2⟩ := ha.ex
  obtain ⟨tb, b1, b2⟩ := hb.ex
  refine ⟨_, fun i => pe_ifExp (h1 i) (a1 i) (b1 i), ?_⟩
  intro ρ d ρ' e G σ H Q S q
  unfold dIf at e
  split at e
  · rename_i ρ1 k1
    refine h2 ρ _ ρ1 k1 G σ H _ S fun G1 H1 g1 S1 => ?_
    rw [if_pos rfl]
    exact a2 ρ1 d ρ' e G1 σ H1 _ S1 fun v G2 H2 g2 S2 r2 => q v G2 H2 (g1.trans g2) S2 r2
  · rename_i ρ1 k1
    refine h2 ρ _ ρ1 k1 G σ H _ S fun G1 H1 g1 S1 => ?_
    rw [if_neg (by decide)]
    exact b2 ρ1 d ρ' e G1 σ H1 _ S1 fun v G2 H2 g2 S2 r2 => q v G2 H2 (g1.trans g2) S2 r2
  · cases e
/-- a < b < c -/
def dChain (f f' : D → D → Option D) (φ ψ χ : Den) : Den := fun ρ => match φ ρ with
  | some (x, ρ1) => (match ψ ρ1 with
    | some (y, ρ2) => (match f x y with
      | some (.bl true) => (match χ ρ2 with
        | some (z, ρ3) => (match f' y z with | some u => some (u, ρ3) | none => none)
        | none => none)
      | some (.bl false) => some (.bl false, ρ2)
      | _ => none)
    | none => none)
  | none => none
theorem ev_chain {r r' : R2} {f f' : D → D → Option D} {ta tb tc : TE} {φ ψ χ : Den} (er : EvR K r f) (er' : EvR K r' f') (ha : Ev K ta φ) (hb : Ev K tb ψ) (hc : Ev K tc χ) : Ev K (tChain r r' ta tb tc) (dChain f f' φ ψ χ) := by
  intro ρ d ρ' e G σ H Q S q
  unfold dChain at e
  split at e
  · rename_i x ρ1 h1
    split at e
    · rename_i y ρ2 h2
      refine ha ρ x ρ1 h1 G σ H _ S fun v G1 H1 g1 S1 r1 => ?_
      refine hb ρ1 y ρ2 h2 G1 σ H1 _ S1 fun u G2 H2 g2 S2 r2 => ?_
      split at e
      · rename_i h3
        refine er v u x y _ h3 G2 σ H2 ρ2 _ S2 (r1.mono g2.gg) r2 fun w G3 H3 g3 S3 r3 => ⟨true, rp_bl.mp r3, ?_⟩
        rw [if_pos rfl]
        split at e
        · rename_i z ρ3 h4
          split at e
          · rename_i u' h5
            cases e
            refine hc ρ2 z ρ' h4 G3 σ H3 _ S3 fun w' G4 H4 g4 S4 r4 => ?_
            exact er' u w' y z d h5 G4 σ H4 ρ' _ S4 ((r2.mono g3.gg).mono g4.gg) r4 fun w5 G5 H5 g5 S5 r5 => q w5 G5 H5 ((((g1.trans g2).trans g3).trans g4).trans g5) S5 r5
          · cases e
        · cases e
      · rename_i h3
        cases e
        refine er v u x y _ h3 G2 σ H2 ρ' _ S2 (r1.mono g2.gg) r2 fun w G3 H3 g3 S3 r3 => ⟨false, rp_bl.mp r3, ?_⟩
        rw [if_neg (by decide)]
        exact q _ G3 H3 ((g1.trans g2).trans g3) S3 (rp_bl.mpr rfl)
      · cases e
    · cases e
  · cases e
theorem de_chain {op op' : CmpOp} {r r' : R2} {f f' : D → D → Option D} {a b c : Expr} {φ ψ χ : Den} {pos : Pos} (ho : ∀ i, OpR (F.X i) (compareOp op) r) (er : EvR F.K r f) (ho' : ∀ i, OpR (F.X i) (compareOp op') r') (er' : EvR F.K r' f')
    (ha : DE F a φ) (hb : DE F b ψ) (hc : DE F c χ) (hm : lastMarks [op, op'] [b, c] = false := by rfl) : DE F (.Compare a [op, op'] [b, c] pos) (dChain f f' φ ψ χ) := by
  obtain ⟨ta, a1, a2⟩ := ha.ex
  obtain ⟨tb, b1, b2⟩ := hb.ex
  obtain ⟨tc, c1, c2⟩ := hc.ex
  exact ⟨_, fun i => pe_chain (ho i) (ho' i) (a1 i) (b1 i) (c1 i) hm, ev_chain er er' a2 b2 c2⟩
theorem dt_chain {op op' : CmpOp} {r r' : R2} {f f' : D → D → Option D} {a b c : Expr} {φ ψ χ : Den} {pos : Pos} (ho : ∀ i, OpR (F.X i) (compareOp op) r) (er : EvR F.K r f) (ho' : ∀ i, OpR (F.X i) (compareOp op') r') (er' : EvR F.K r' f')
    (ha : DE F a φ) (hb : DE F b ψ) (hc : DE F c χ) (hm : lastMarks [op, op'] [b, c] = false := by rfl) : DT F (.Compare a [op, op'] [b, c] pos) (dBl (dChain f f' φ ψ χ)) := by
  obtain ⟨ta, a1, a2⟩ := ha.ex
  obtain ⟨tb, b1, b2⟩ := hb.ex
  obtain ⟨tc, c1, c2⟩ := hc.ex
  exact ⟨_, fun i => pt_chain (ho i) (ho' i) (a1 i) (b1 i) (c1 i) hm, ev_test (ev_chain er er' a2 b2 c2)⟩

/-! ### arguments, calls, displays -/
theorem da_nil : DA F [] dNil := ⟨_, fun _ => pa_nil, by
  intro ρ d ρ' e G σ H Q S q
  cases e
  exact q [] G H (Go.refl _) S (rpl_nil.mpr rfl)⟩
theorem ev_cons {te : TE} {t : TA} {φ : Den} {ψ : DenL} (h : Ev K te φ) (h' : EvA K t ψ) : EvA K (tCons te t) (dCons φ ψ) := by
  intro ρ d ρ' e G σ H Q S q
  unfold dCons at e
  split at e
  · rename_i x ρ1 h1
    split at e
    · rename_i xs ρ2 h2
      cases e
      refine h ρ x ρ1 h1 G σ H _ S fun v G1 H1 g1 S1 r1 => ?_
      exact h' ρ1 xs ρ' h2 G1 σ H1 _ S1 fun vs G2 H2 g2 S2 r2 => q _ G2 H2 (g1.trans g2) S2 (rpl_cons.mpr ⟨v, vs, rfl, r1.mono g2.gg, r2⟩)
    · cases e
  · cases e
theorem da_cons {e : Expr} {es : List Expr} {φ : Den} {ψ : DenL} (h : DE F e φ) (h' : DA F es ψ) (hs : ∀ i, starEach (e :: es) (F.X i).env = (false, eval e (F.X i).env) :: starEach es (F.X i).env := by intro _; rfl) : DA F (e :: es) (dCons φ ψ) := by
  obtain ⟨t, h1, h2⟩ := h.ex
  obtain ⟨u, k1, k2⟩ := h'.ex
  exact ⟨_, fun i => pa_cons (h1 i) (k1 i) (hs i), ev_cons h2 k2⟩
theorem ev_call {r : List V → Hp → VK → Prop} {f : List D → Option D} {t : TA} {φ : DenL} (er : EvC K r f) (h : EvA K t φ) : Ev K (tCB r t) (dC f φ) := by
  intro ρ d ρ' e G σ H Q S q
  unfold dC at e
  split at e
  · rename_i xs ρ1 h1
    split at e
    · rename_i z h3
      cases e
      refine h ρ xs ρ' h1 G σ H _ S fun vs G1 H1 g1 S1 r1 => ?_
      exact er vs xs d h3 G1 σ H1 ρ' _ S1 r1 fun w G3 H3 g3 S3 r3 => q w G3 H3 (g1.trans g3) S3 r3
    · cases e
  · cases e
theorem ev_callO {r : List V → Hp → VK → Prop} {f : List D → Option D} {t : TA} {φ : DenL} (er : EvCO K r f) (h : EvA K t φ) : EvO K (tCB r t) (dC f φ) := by
  intro ρ d ρ' e G σ H Q S q
  unfold dC at e
  split at e
  · rename_i xs ρ1 h1
    split at e
    · rename_i z h3
      cases e
      refine h ρ xs ρ' h1 G σ H _ S fun vs G1 H1 g1 S1 r1 => ?_
      exact er vs xs d h3 G1 σ H1 ρ' _ S1 r1 fun a G3 H3 g3 S3 n1 n2 o no => q a G3 H3 (g1.trans g3) S3 (g1.fresh n1) n2 o no
    · cases e
  · cases e
theorem de_callB {x : Str} {id : String} {e : Expr} {es : List Expr} {p pos : Pos} {r : List V → Hp → VK → Prop} {f : List D → Option D} {φ : DenL} (hc : ∀ i, CallR (F.X i) (.builtin id) r) (er : EvC F.K r f) (hg : ∀ i, Gl (F.X i) x) (hm : F.mg x = none) (hv : bootBuiltins x = some (.builtin id)) (ha : DA F (e :: es) φ)
    (hn : x ≠ "__name__" := by decide) (hdb : (x == ("__debug__" : Str)) = false := by decide)
    (he : ∀ i, starEach (e :: es) (F.X i).env = (false, eval e (F.X i).env) :: starEach es (F.X i).env := by intro _; rfl) (hpl : ∀ i, (backTo pos (starEach es (F.X i).env)).any (·.1) = false := by intro _; rfl) : DE F (.Call (.Name x p) (e :: es) [] pos) (dC f φ) := by
  obtain ⟨t, h1, h2⟩ := ha.ex
  exact ⟨_, fun i => pe_callB (hc i) (hg i) (by rw [F.hmg i]; exact hm) hv (h1 i) hn hdb (he i) (hpl i), ev_call er h2⟩
theorem do_callB {x : Str} {id : String} {e : Expr} {es : List Expr} {p pos : Pos} {r : List V → Hp → VK → Prop} {f : List D → Option D} {φ : DenL} (hc : ∀ i, CallR (F.X i) (.builtin id) r) (er : EvCO F.K r f) (hg : ∀ i, Gl (F.X i) x) (hm : F.mg x = none) (hv : bootBuiltins x = some (.builtin id)) (ha : DA F (e :: es) φ)
    (hn : x ≠ "__name__" := by decide) (hdb : (x == ("__debug__" : Str)) = false := by decide)
    (he : ∀ i, starEach (e :: es) (F.X i).env = (false, eval e (F.X i).env) :: starEach es (F.X i).env := by intro _; rfl) (hpl : ∀ i, (backTo pos (starEach es (F.X i).env)).any (·.1) = false := by intro _; rfl) : DO F (.Call (.Name x p) (e :: es) [] pos) (dC f φ) := by
  obtain ⟨t, h1, h2⟩ := ha.ex
  exact ⟨_, fun i => pe_callB (hc i) (hg i) (by rw [F.hmg i]; exact hm) hv (h1 i) hn hdb (he i) (hpl i), ev_callO er h2⟩
theorem de_callTy {x : Str} {T : String} {e : Expr} {es : List Expr} {p pos : Pos} {r : List V → Hp → VK → Prop} {f : List D → Option D} {φ : DenL} (hc : ∀ i, CallR (F.X i) (.type T) r) (er : EvC F.K r f) (hg : ∀ i, Gl (F.X i) x) (hm : F.mg x = none) (hv : bootBuiltins x = some (.type T)) (ha : DA F (e :: es) φ)
    (hn : x ≠ "__name__" := by decide) (hdb : (x == ("__debug__" : Str)) = false := by decide)
    (he : ∀ i, starEach (e :: es) (F.X i).env = (false, eval e (F.X i).env) :: starEach es (F.X i).env := by intro _; rfl) (hpl : ∀ i, (backTo pos (starEach es (F.X i).env)).any (·.1) = false := by intro _; rfl) : DE F (.Call (.Name x p) (e :: es) [] pos) (dC f φ) := by
  obtain ⟨t, h1, h2⟩ := ha.ex
  exact ⟨_, fun i => pe_callTy (hc i) (hg i) (by rw [F.hmg i]; exact hm) hv (h1 i) hn hdb (he i) (hpl i), ev_call er h2⟩
theorem do_callTy {x : Str} {T : String} {e : Expr} {es : List Expr} {p pos : Pos} {r : List V → Hp → VK → Prop} {f : List D → Option D} {φ : DenL} (hc : ∀ i, CallR (F.X i) (.type T) r) (er : EvCO F.K r f) (hg : ∀ i, Gl (F.X i) x) (hm : F.mg x = none) (hv : bootBuiltins x = some (.type T)) (ha : DA F (e :: es) φ)
    (hn : x ≠ "__name__" := by decide) (hdb : (x == ("__debug__" : Str)) = false := by decide)
    (he : ∀ i, starEach (e :: es) (F.X i).env = (false, eval e (F.X i).env) :: starEach es (F.X i).env := by intro _; rfl) (hpl : ∀ i, (backTo pos (starEach es (F.X i).env)).any (·.1) = false := by intro _; rfl) : DO F (.Call (.Name x p) (e :: es) [] pos) (dC f φ) := by
  obtain ⟨t, h1, h2⟩ := ha.ex
  exact ⟨_, fun i => pe_callTy (hc i) (hg i) (by rw [F.hmg i]; exact hm) hv (h1 i) hn hdb (he i) (hpl i), ev_callO er h2⟩
/-- f(x) of a builtin's own kind with keywords: left to rules of their own -/
def mkLst (l : List D) : Option D := if l.length ≤ 16777216 then some (.lst l) else none
def mkTup (l : List D) : Option D := if l.length ≤ 16777216 then some (.tup l) else none
theorem line_le {n : Nat} (h : n ≤ 16777216) : n ≤ sizeLine := by rw [sizeLine_eq]; exact h
/-- a new own list at p -/
theorem newO_lst {G H : Hp} {σ : St} {ρ : Rho} {vs : List V} {ds : List D} {Q : Addr → Hp → Prop} (S : Sx K G σ H ρ) (r : RpL K G vs ds)
    (q : ∀ a G' H', Go G H (OwA σ ρ) G' H' (OwA σ ρ) → Sx K G' σ H' ρ → H a = none → G' a = none → Own K G' H' a (.lst ds) → ¬ OwA σ ρ a → Q a H') : ∀ p, H p = none → Q p (upd H p (.lst vs)) := by
  intro p hp
  refine q p G _ (Go.newO hp) (S.newO hp) hp (S.sub.free hp) ⟨vs, upd_same, r⟩ fun o => ?_
  obtain ⟨u, e⟩ := S.ow_there _ o
  rw [hp] at e; cases e
theorem newF_tup {G H : Hp} {σ : St} {ρ : Rho} {vs : List V} {ds : List D} {Q : VK} (S : Sx K G σ H ρ) (r : RpL K G vs ds)
    (q : ∀ v G' H', Go G H (OwA σ ρ) G' H' (OwA σ ρ) → Sx K G' σ H' ρ → Rp K G' v (.tup ds) → Q v H') : ∀ p, H p = none → Q (.ref p) (upd H p (.tup vs)) := by
  intro p hp
  have g := Go.new (o := .tup vs) S.sub hp S.ow_there
  exact q (.ref p) _ _ g (S.new hp) (rp_tup.mpr ⟨p, vs, rfl, .inl (.inl upd_same), r.mono g.gg⟩)
theorem do_lst {es : List Expr} {φ : DenL} {pos : Pos} (h : DA F es φ) : DO F (.List es pos) (dC mkLst φ) := by
  obtain ⟨t, h1, h2⟩ := h.ex
  refine ⟨_, fun i => pe_lst (h1 i), ?_⟩
  intro ρ d ρ' e G σ H Q S q
  unfold dC at e
  split at e
  · rename_i xs ρ1 k1
    split at e
    · rename_i z k2
      cases e
      unfold mkLst at k2
      split at k2
      · rename_i k3
        cases k2
        refine h2 ρ xs ρ' k1 G σ H _ S fun vs G1 H1 g1 S1 r1 => ⟨by rw [rpl_len r1]; exact line_le k3, ?_⟩
        exact newO_lst (Q := fun a H' => Q (.ref a) H') S1 r1 fun a G' H' g S' n1 n2 o no => q a G' H' (g1.trans g) S' (g1.fresh n1) n2 o no
      · cases k2
    · cases e
  · cases e
theorem de_tup {es : List Expr} {φ : DenL} {x1 : Nat} {pos : Pos} (h : DA F es φ) : DE F (.Tuple es x1 pos) (dC mkTup φ) := by
  obtain ⟨t, h1, h2⟩ := h.ex
  refine ⟨_, fun i => pe_tup (h1 i), ?_⟩
  intro ρ d ρ' e G σ H Q S q
  unfold dC at e
  split at e
  · rename_i xs ρ1 k1
    split at e
    · rename_i z k2
      cases e
      unfold mkTup at k2
      split at k2
      · rename_i k3
        cases k2
        refine h2 ρ xs ρ' k1 G σ H _ S fun vs G1 H1 g1 S1 r1 => ⟨by rw [rpl_len r1]; exact line_le k3, ?_⟩
        exact newF_tup S1 r1 fun v G' H' g S' r => q v G' H' (g1.trans g) S' r
      · cases k2
    · cases e
  · cases e
end
end DL

/-! Statements, walks, loops, comprehensions over data. -/
namespace DL
open PySem L2

section
variable {ι : Type} {F : Fm ι} {K : Kx}

/-! ### blocks -/
def sSeq (φ ψ : DenS) : DenS := fun ρ => match φ ρ with
  | some (.nx ρ1) => ψ ρ1
  | r => r
def sNil : DenS := fun ρ => some (.nx ρ)
theorem ds_nil : DSs F [] sNil := ⟨_, fun _ => pss_nil, by
  intro ρ o e G σ H E S q
  cases e
  exact q σ G H (Go.refl _) S⟩
theorem Aft.from {E : Ends} {G G1 H H1 : Hp} {σ σ1 : St} {ρ ρ1 : Rho} {o : Out} (g : Go G H (OwA σ ρ) G1 H1 (OwA σ1 ρ1)) (h : Aft K E G σ H ρ o) : Aft K E G1 σ1 H1 ρ1 o := by
  cases o with
  | nx ρ' => exact fun σ' G' H' g' S' => h σ' G' H' (g.trans g') S'
  | bk ρ' => exact fun σ' G' H' g' S' => h σ' G' H' (g.trans g') S'
  | ct ρ' => exact fun σ' G' H' g' S' => h σ' G' H' (g.trans g') S'
  | rt d ρ' => exact fun v σ' G' H' g' S' r => h v σ' G' H' (g.trans g') S' r
  | ro d ρ' => exact fun a σ' G' H' g' S' n1 n2 o no => h a σ' G' H' (g.trans g') S' (g.fresh n1) n2 o no
theorem ev_seq {t u : TS} {φ ψ : DenS} (h : EvS K t φ) (h' : EvS K u ψ) : EvS K (tSeq t u) (sSeq φ ψ) := by
  intro ρ o e G σ H E S q
  unfold sSeq at e
  show t { E with nx := u E } σ H
  split at e
  · rename_i ρ1 h1
    refine h ρ _ h1 G σ H _ S fun σ1 G1 H1 g1 S1 => ?_
    exact h' ρ1 o e G1 σ1 H1 E S1 (q.from g1)
  · rename_i hn
    refine h ρ o e G σ H _ S ?_
    cases o with
    | nx ρ' => exact absurd e (hn ρ')
    | bk ρ' => exact q
    | ct ρ' => exact q
    | rt d ρ' => exact q
    | ro d ρ' => exact q
theorem ds_cons {s : Stmt} {r : List Stmt} {φ ψ : DenS} (h : DS F s φ) (h' : DSs F r ψ) : DSs F (s :: r) (sSeq φ ψ) := by
  obtain ⟨t, h1, h2⟩ := h.ex
  obtain ⟨u, k1, k2⟩ := h'.ex
  exact ⟨_, fun i => pss_cons (h1 i) (k1 i), ev_seq h2 k2⟩
theorem ds_one {s : Stmt} {φ : DenS} (h : DS F s φ) : DSs F [s] φ := by
  obtain ⟨t, h1, h2⟩ := h.ex
  exact ⟨_, fun i => pss_one (h1 i), h2⟩
def sPass : DenS := fun ρ => some (.nx ρ)
theorem ds_pass {pos : Pos} : DS F (.Pass pos) sPass := ⟨_, fun _ => ps_pass, by
  intro ρ o e G σ H E S q
  cases e
  exact q σ G H (Go.refl _) S⟩
def sBad : DenS := fun _ => none
/-- a statement that is never come to -/
theorem ds_never {s : Stmt} : DS F s sBad := ⟨_, fun _ => ps_never, by
  intro ρ o e G σ H E S q
  cases e⟩
def sRet (φ : Den) : DenS := fun ρ => match φ ρ with
  | some (d, ρ1) => some (.rt d ρ1)
  | none => none
theorem ds_ret {e : Expr} {φ : Den} {pos : Pos} (h : DE F e φ) : DS F (.Return (some e) pos) (sRet φ) := by
  obtain ⟨t, h1, h2⟩ := h.ex
  refine ⟨_, fun i => ps_ret (h1 i), ?_⟩
  intro ρ o e G σ H E S q
  unfold sRet at e
  split at e
  · rename_i d ρ1 k
    cases e
    exact h2 ρ d ρ1 k G σ H _ S fun v G1 H1 g1 S1 r1 => q v σ G1 H1 g1 S1 r1
  · cases e
def sDrop (φ : Den) : DenS := fun ρ => match φ ρ with
  | some (d, ρ1) => some (.nx ρ1)
  | none => none
theorem ds_expr {e : Expr} {φ : Den} {pos : Pos} (h : DE F e φ) (hs : ∀ i, swapsWith e none pos.line (F.X i).env = pure false := by intro _; rfl) : DS F (.Expr e pos) (sDrop φ) := by
  obtain ⟨t, h1, h2⟩ := h.ex
  refine ⟨_, fun i => ps_expr (h1 i) (hs i), ?_⟩
  intro ρ o e G σ H E S q
  unfold sDrop at e
  split at e
  · rename_i d ρ1 k
    cases e
    exact h2 ρ d ρ1 k G σ H _ S fun v G1 H1 g1 S1 r1 => q σ G1 H1 g1 S1
  · cases e
def sIf (c : DenT) (φ ψ : DenS) : DenS := fun ρ => match c ρ with
  | some (true, ρ1) => φ ρ1
  | some (false, ρ1) => ψ ρ1
  | none => none
theorem ds_if {c : Expr} {a b : List Stmt} {χ : DenT} {φ ψ : DenS} {pos : Pos} (hc : DT F c χ) (ha : DSs F a φ) (hb : DSs F b ψ) : DS F (.If c a b pos) (sIf χ φ ψ) := by
  obtain ⟨t, h1, h2⟩ := hc.ex
  obtain ⟨ta, a1, a2⟩ := ha.ex
  obtain ⟨tb, b1, b2⟩ := hb.ex
  refine ⟨_, fun i => ps_if (h1 i) (a1 i) (b1 i), ?_⟩
  intro ρ o e G σ H E S q
  unfold sIf at e
  split at e
  · rename_i ρ1 k1
    refine h2 ρ _ ρ1 k1 G σ H _ S fun G1 H1 g1 S1 => ?_
    rw [if_pos rfl]
    exact a2 ρ1 o e G1 σ H1 E S1 (q.from g1)
  · rename_i ρ1 k1
    refine h2 ρ _ ρ1 k1 G σ H _ S fun G1 H1 g1 S1 => ?_
    rw [if_neg (by decide)]
    exact b2 ρ1 o e G1 σ H1 E S1 (q.from g1)
  · cases e

/-! ### stores -/
/-- slot i gets the frozen value v -/
theorem Sx.store {G H : Hp} {σ : St} {ρ : Rho} {i : Nat} {v : V} {d : D} (S : Sx K G σ H ρ) (hi : i < ρ.length) (r : Rp K G v d) :
    Go G H (OwA σ ρ) G H (OwA (σ.set i (some v)) (ρ.set i (.sh d))) ∧ Sx K G (σ.set i (some v)) H (ρ.set i (.sh d)) := by
  have less : ∀ (j : Nat) (b : Addr), Ows (σ.set i (some v)) (ρ.set i (.sh d)) j b → Ows σ ρ j b ∧ j ≠ i := by
    rintro j b ⟨t, d', h1, h2⟩
    by_cases hj : j = i
    · subst hj
      rw [List.getElem?_set_self hi] at h1; cases h1
    · rw [List.getElem?_set_ne (Ne.symm hj)] at h1 h2
      exact ⟨⟨t, d', h1, h2⟩, hj⟩
  refine ⟨⟨Same.refl _, fun _ _ h _ => h, fun _ _ _ h _ => h, fun b ⟨j, hj⟩ => .inl ⟨j, (less j b hj).1⟩, fun _ o h => ⟨o, h⟩⟩, ⟨S.sub, by rw [List.length_set, List.length_set, S.len], fun j s q => ?_, fun j k b h1 h2 => S.apart j k b (less j b h1).1 (less k b h2).1⟩⟩
  by_cases hj : j = i
  · subst hj
    rw [List.getElem?_set_self hi] at q; cases q
    exact ⟨some v, List.getElem?_set_self (by rw [S.len]; exact hi), v, rfl, r⟩
  · rw [List.getElem?_set_ne (Ne.symm hj)] at q
    rw [List.getElem?_set_ne (Ne.symm hj)]
    exact S.at_ j s q
/-- slot i gets the own object at a -/
theorem Sx.storeO {G H : Hp} {σ : St} {ρ : Rho} {i : Nat} {a : Addr} {d : D} (S : Sx K G σ H ρ) (hi : i < ρ.length) (ga : G a = none) (ho : Own K G H a d) (no : ¬ OwA σ ρ a) :
    Sx K G (σ.set i (some (.ref a))) H (ρ.set i (.ow false d)) ∧ ∀ b, OwA (σ.set i (some (.ref a))) (ρ.set i (.ow false d)) b → OwA σ ρ b ∨ b = a := by
  have less : ∀ (j : Nat) (b : Addr), Ows (σ.set i (some (.ref a))) (ρ.set i (.ow false d)) j b → (Ows σ ρ j b ∧ j ≠ i) ∨ (j = i ∧ b = a) := by
    rintro j b ⟨t, d', h1, h2⟩
    by_cases hj : j = i
    · subst hj
      rw [List.getElem?_set_self (by rw [S.len]; exact hi)] at h2; cases h2
      exact .inr ⟨rfl, rfl⟩
    · rw [List.getElem?_set_ne (Ne.symm hj)] at h1 h2
      exact .inl ⟨⟨t, d', h1, h2⟩, hj⟩
  refine ⟨⟨S.sub, by rw [List.length_set, List.length_set, S.len], fun j s q => ?_, fun j k b h1 h2 => ?_⟩, fun b ⟨j, hj⟩ => (less j b hj).elim (fun z => .inl ⟨j, z.1⟩) fun z => .inr z.2⟩
  · by_cases hj : j = i
    · subst hj
      rw [List.getElem?_set_self hi] at q; cases q
      exact ⟨some (.ref a), List.getElem?_set_self (by rw [S.len]; exact hi), a, rfl, fun z => (by cases z), ga, ho⟩
    · rw [List.getElem?_set_ne (Ne.symm hj)] at q
      rw [List.getElem?_set_ne (Ne.symm hj)]
      exact S.at_ j s q
  · rcases less j b h1 with ⟨p1, p2⟩ | ⟨p1, p2⟩
    · rcases less k b h2 with ⟨q1, q2⟩ | ⟨q1, q2⟩
      · exact S.apart j k b p1 q1
      · exact absurd ⟨j, q2 ▸ p1⟩ no
    · rcases less k b h2 with ⟨q1, q2⟩ | ⟨q1, q2⟩
      · exact absurd ⟨k, p2 ▸ q1⟩ no
      · rw [p1, q1]
def sSet (i : Nat) (φ : Den) : DenS := fun ρ => match φ ρ with
  | some (d, ρ1) => if i < ρ1.length then some (.nx (ρ1.set i (.sh d))) else none
  | none => none
def sSetO (i : Nat) (φ : Den) : DenS := fun ρ => match φ ρ with
  | some (d, ρ1) => if i < ρ1.length then some (.nx (ρ1.set i (.ow false d))) else none
  | none => none
theorem ev_set {i : Nat} {t : TE} {φ : Den} (h : Ev K t φ) : EvS K (tAsg t (gName i)) (sSet i φ) := by
  intro ρ o e G σ H E S q
  unfold sSet at e
  split at e
  · rename_i d ρ1 k
    split at e
    · rename_i hi
      cases e
      refine h ρ d ρ1 k G σ H _ S fun v G1 H1 g1 S1 r1 => ?_
      obtain ⟨g2, S2⟩ := S1.store hi r1
      exact q _ G1 H1 (g1.trans g2) S2
    · cases e
  · cases e
theorem ev_setO {i : Nat} {t : TE} {φ : Den} (h : EvO K t φ) : EvS K (tAsg t (gName i)) (sSetO i φ) := by
  intro ρ o e G σ H E S q
  unfold sSetO at e
  split at e
  · rename_i d ρ1 k
    split at e
    · rename_i hi
      cases e
      refine h ρ d ρ1 k G σ H _ S fun a G1 H1 g1 S1 n1 n2 ho no => ?_
      obtain ⟨S2, l2⟩ := S1.storeO hi n2 ho no
      refine q _ G1 H1 ⟨g1.gg, g1.hh, g1.nw, fun b hb => ?_, g1.dm⟩ S2
      rcases l2 b hb with z | z
      · exact g1.ow b z
      · rw [z]; exact .inr n1
    · cases e
  · cases e
/-- x = e -/
theorem ds_set (i : Nat) {x : Str} {e : Expr} {φ : Den} {p pos : Pos} (hi : F.N[i]? = some x) (hx : ∀ j, Loc (F.X j).env.scope x) (h : DE F e φ)
    (hf : ∀ j, (F.X j).fn x = true ∨ (F.X j).env.scope.names.lookup x = some .local := by first | exact fun _ => .inl rfl | exact fun _ => .inr rfl)
    (hs : ∀ j, swapsWithSole [.Name x p] e pos.line (F.X j).env = pure false := by intro _; rfl) (hw : ∀ j, swappedStores [.Name x p] e (F.X j).env = pure none := by intro _; rfl)
    (h1 : ∀ j, (assignEach [.Name x p] (F.X j).env).map (·.2) = [assign (.Name x p) (F.X j).env] := by intro _; rfl) : DS F (.Assign [.Name x p] e pos) (sSet i φ) := by
  obtain ⟨t, k1, k2⟩ := h.ex
  exact ⟨_, fun j => ps_asg (k1 j) (pg_name (by rw [F.hN j]; exact F.nd) (by rw [F.hN j]; exact hi) (hx j) (hf j)) (hs j) (hw j) (h1 j), ev_set k2⟩
/-- x = e, e a new object that may be changed later -/
theorem ds_setO (i : Nat) {x : Str} {e : Expr} {φ : Den} {p pos : Pos} (hi : F.N[i]? = some x) (hx : ∀ j, Loc (F.X j).env.scope x) (h : DO F e φ)
    (hf : ∀ j, (F.X j).fn x = true ∨ (F.X j).env.scope.names.lookup x = some .local := by first | exact fun _ => .inl rfl | exact fun _ => .inr rfl)
    (hs : ∀ j, swapsWithSole [.Name x p] e pos.line (F.X j).env = pure false := by intro _; rfl) (hw : ∀ j, swappedStores [.Name x p] e (F.X j).env = pure none := by intro _; rfl)
    (h1 : ∀ j, (assignEach [.Name x p] (F.X j).env).map (·.2) = [assign (.Name x p) (F.X j).env] := by intro _; rfl) : DS F (.Assign [.Name x p] e pos) (sSetO i φ) := by
  obtain ⟨t, k1, k2⟩ := h.ex
  exact ⟨_, fun j => ps_asg (k1 j) (pg_name (by rw [F.hN j]; exact F.nd) (by rw [F.hN j]; exact hi) (hx j) (hf j)) (hs j) (hw j) (h1 j), ev_setO k2⟩

/-! ### slots forgotten -/
theorem wipe_get (σ : St) : ∀ (vs : List Nat) (j : Nat), (wipe σ vs)[j]? = if j ∈ vs then (if j < σ.length then some none else none) else σ[j]?
  | [], j => by simp [wipe]
  | v :: vs, j => by
    unfold wipe
    by_cases hj : v = j
    · subst hj
      rw [if_pos List.mem_cons_self]
      by_cases hl : v < σ.length
      · rw [List.getElem?_set_self (by rw [wipe_length]; exact hl), if_pos hl]
      · rw [List.getElem?_eq_none (by rw [List.length_set, wipe_length]; omega), if_neg hl]
    · rw [List.getElem?_set_ne hj, wipe_get σ vs j]
      have : (j ∈ v :: vs) ↔ j ∈ vs := by simp [Ne.symm hj]
      simp only [this]
theorem wipe_set {σ : St} {vs : List Nat} {i : Nat} {o : Option V} (h : i ∈ vs) : wipe (σ.set i o) vs = wipe σ vs := by
  apply List.ext_getElem?
  intro j
  rw [wipe_get, wipe_get, List.length_set]
  by_cases hj : j ∈ vs
  · rw [if_pos hj, if_pos hj]
  · rw [if_neg hj, if_neg hj]
    exact List.getElem?_set_ne (by intro e; subst e; exact hj h)
theorem wipe_wipe (σ : St) (vs : List Nat) : wipe (wipe σ vs) vs = wipe σ vs := by
  apply List.ext_getElem?
  intro j
  rw [wipe_get, wipe_length, wipe_get]
  by_cases hj : j ∈ vs
  · rw [if_pos hj, if_pos hj]
  · rw [if_neg hj, if_neg hj]
def wipeR (ρ : Rho) : List Nat → Rho
  | [] => ρ
  | v :: vs => (wipeR ρ vs).set v .no
theorem wipeR_length (ρ : Rho) : ∀ vs : List Nat, (wipeR ρ vs).length = ρ.length
  | [] => rfl
  | v :: vs => by unfold wipeR; rw [List.length_set, wipeR_length ρ vs]
theorem wipeR_get (ρ : Rho) : ∀ (vs : List Nat) (j : Nat), (wipeR ρ vs)[j]? = if j ∈ vs then (if j < ρ.length then some .no else none) else ρ[j]?
  | [], j => by simp [wipeR]
  | v :: vs, j => by
    unfold wipeR
    by_cases hj : v = j
    · subst hj
      rw [if_pos List.mem_cons_self]
      by_cases hl : v < ρ.length
      · rw [List.getElem?_set_self (by rw [wipeR_length]; exact hl), if_pos hl]
      · rw [List.getElem?_eq_none (by rw [List.length_set, wipeR_length]; omega), if_neg hl]
    · rw [List.getElem?_set_ne hj, wipeR_get ρ vs j]
      have : (j ∈ v :: vs) ↔ j ∈ vs := by simp [Ne.symm hj]
      simp only [this]
/-- the slots of own as they were in ρ, the others as they are in ρ' -/
def back (ρ ρ' : Rho) : List Nat → Rho
  | [] => ρ'
  | v :: vs => (back ρ ρ' vs).set v (ρ.getD v .no)
theorem back_length (ρ ρ' : Rho) : ∀ vs : List Nat, (back ρ ρ' vs).length = ρ'.length
  | [] => rfl
  | v :: vs => by unfold back; rw [List.length_set, back_length ρ ρ' vs]
theorem back_get (ρ ρ' : Rho) (e : ρ'.length = ρ.length) : ∀ (vs : List Nat) (j : Nat), (back ρ ρ' vs)[j]? = if j ∈ vs then ρ[j]? else ρ'[j]?
  | [], j => by simp [back]
  | v :: vs, j => by
    unfold back
    by_cases hj : v = j
    · subst hj
      rw [if_pos List.mem_cons_self]
      by_cases hl : v < ρ.length
      · rw [List.getElem?_set_self (by rw [back_length]; omega), List.getD_eq_getElem?_getD, List.getElem?_eq_getElem hl]
        rfl
      · rw [List.getElem?_eq_none (by rw [List.length_set, back_length]; omega), List.getElem?_eq_none (by omega)]
    · rw [List.getElem?_set_ne hj, back_get ρ ρ' e vs j]
      have : (j ∈ v :: vs) ↔ j ∈ vs := by simp [Ne.symm hj]
      simp only [this]
def ownOk (ρ : Rho) (own : List Nat) : Bool := own.all fun i => match ρ[i]? with | some (.ow _ _) => false | _ => true
theorem ownOk_no {ρ : Rho} {own : List Nat} (h : ownOk ρ own = true) {i : Nat} (hi : i ∈ own) {t : Bool} {d : D} : ρ[i]? ≠ some (.ow t d) := by
  intro e
  have := List.all_eq_true.mp h i hi
  rw [e] at this
  cases this
theorem OwA.wipe {σ : St} {ρ : Rho} {own : List Nat} (ok : ownOk ρ own = true) (b : Addr) : OwA (wipe σ own) (wipeR ρ own) b ↔ OwA σ ρ b := by
  constructor
  · rintro ⟨i, t, d, h1, h2⟩
    rw [wipeR_get] at h1
    rw [wipe_get] at h2
    split at h1
    · split at h1 <;> cases h1
    · rename_i hi
      rw [if_neg hi] at h2
      exact ⟨i, t, d, h1, h2⟩
  · rintro ⟨i, t, d, h1, h2⟩
    have hi : i ∉ own := fun hi => ownOk_no ok hi h1
    exact ⟨i, t, d, by rw [wipeR_get, if_neg hi]; exact h1, by rw [wipe_get, if_neg hi]; exact h2⟩
theorem Sx.wipe {G H : Hp} {σ : St} {ρ : Rho} {own : List Nat} (S : Sx K G σ H ρ) : Sx K G (wipe σ own) H (wipeR ρ own) := by
  refine ⟨S.sub, by rw [wipe_length, wipeR_length, S.len], fun i s e => ?_, fun i j a h1 h2 => ?_⟩
  · rw [wipeR_get] at e
    rw [wipe_get]
    split at e
    · rename_i hi
      split at e
      · rename_i hl
        cases e
        rw [if_pos hi, if_pos (by rw [S.len]; exact hl)]
        exact ⟨_, rfl, trivial⟩
      · cases e
    · rename_i hi
      rw [if_neg hi]
      exact S.at_ i s e
  · have f : ∀ {i : Nat}, Ows (L2.wipe σ own) (wipeR ρ own) i a → Ows σ ρ i a := by
      rintro i ⟨t, d, h1, h2⟩
      rw [wipeR_get] at h1
      rw [wipe_get] at h2
      split at h1
      · split at h1 <;> cases h1
      · rename_i hi
        rw [if_neg hi] at h2
        exact ⟨t, d, h1, h2⟩
    exact S.apart i j a (f h1) (f h2)
/-- out of a comprehension's turn -/
theorem Sx.back {G H G' H' : Hp} {σ σ' : St} {ρ ρ' : Rho} {own : List Nat} (S : Sx K G σ H ρ) (ok : ownOk ρ own = true) (gg : Same G G') (S' : Sx K G' σ' H' ρ') (hw : L2.wipe σ' own = L2.wipe σ own) :
    Sx K G' σ H' (back ρ ρ' own) ∧ ∀ b, OwA σ (DL.back ρ ρ' own) b → OwA σ' ρ' b := by
  have le : σ'.length = σ.length := by rw [← wipe_length σ' own, hw, wipe_length]
  have lr : ρ'.length = ρ.length := by rw [← S'.len, le, S.len]
  have eq : ∀ j, j ∉ own → σ'[j]? = σ[j]? := fun j hj => by
    have := congrArg (fun l : St => l[j]?) hw
    simp only [wipe_get, if_neg hj] at this
    exact this
  have f : ∀ {i : Nat} {a : Addr}, Ows σ (DL.back ρ ρ' own) i a → Ows σ' ρ' i a := by
    rintro i a ⟨t, d, h1, h2⟩
    rw [back_get ρ ρ' lr] at h1
    split at h1
    · rename_i hi
      exact absurd h1 (ownOk_no ok hi)
    · rename_i hi
      exact ⟨t, d, h1, by rw [eq i hi]; exact h2⟩
  refine ⟨⟨S'.sub, by rw [back_length, ← S'.len, le], fun i s e => ?_, fun i j a h1 h2 => S'.apart i j a (f h1) (f h2)⟩, fun b ⟨i, h⟩ => ⟨i, f h⟩⟩
  rw [back_get ρ ρ' lr] at e
  split at e
  · rename_i hi
    obtain ⟨o, e1, h1⟩ := S.at_ i s e
    refine ⟨o, e1, ?_⟩
    cases s with
    | no => trivial
    | sh d =>
      obtain ⟨v, e2, r⟩ := h1
      exact ⟨v, e2, r.mono gg⟩
    | ow t d => exact absurd e (ownOk_no ok hi)
  · rename_i hi
    rw [← eq i hi]
    exact S'.at_ i s e

/-! ### targets -/
abbrev DenG := D → Rho → Option Rho
def EvG (K : Kx) (tgl : List Nat) (g : TG) (γ : DenG) : Prop := ∀ d ρ ρ', γ d ρ = some ρ' → ∀ (v : V) (G : Hp) (σ : St) (H : Hp) (Q : St → Hp → Prop), Sx K G σ H ρ → Rp K G v d →
  (∀ σ', Go G H (OwA σ ρ) G H (OwA σ' ρ') → Sx K G σ' H ρ' → (∀ vs : List Nat, (∀ i ∈ tgl, i ∈ vs) → wipe σ' vs = wipe σ vs) → Q σ' H) → g v σ H Q
abbrev DenGs := List D → Rho → Option Rho
def EvGs (K : Kx) (tgl : List Nat) (g : TGs) (γ : DenGs) : Prop := ∀ d ρ ρ', γ d ρ = some ρ' → ∀ (v : List V) (G : Hp) (σ : St) (H : Hp) (Q : St → Hp → Prop), Sx K G σ H ρ → RpL K G v d →
  (∀ σ', Go G H (OwA σ ρ) G H (OwA σ' ρ') → Sx K G σ' H ρ' → (∀ vs : List Nat, (∀ i ∈ tgl, i ∈ vs) → wipe σ' vs = wipe σ vs) → Q σ' H) → g v σ H Q
structure DG {ι : Type} (F : Fm ι) (e : Expr) (tgl : List Nat) (γ : DenG) : Prop where
  ex : ∃ g, (∀ i, PG (F.X i) e g) ∧ EvG F.K tgl g γ
structure DGs {ι : Type} (F : Fm ι) (es : List Expr) (tgl : List Nat) (γ : DenGs) : Prop where
  ex : ∃ g, (∀ i, PGs (F.X i) es g) ∧ EvGs F.K tgl g γ
def gN (i : Nat) : DenG := fun d ρ => if i < ρ.length then some (ρ.set i (.sh d)) else none
def gsNil : DenGs := fun ds ρ => match ds with | [] => some ρ | _ => none
def gsCons (γ : DenG) (δ : DenGs) : DenGs := fun ds ρ => match ds with
  | d :: ds => (match γ d ρ with | some ρ1 => δ ds ρ1 | none => none)
  | [] => none
def gT (δ : DenGs) : DenG := fun d ρ => match d with
  | .tup ds => δ ds ρ
  | _ => none
theorem ev_gN (i : Nat) : EvG K [i] (gName i) (gN i) := by
  intro d ρ ρ' e v G σ H Q S r q
  unfold gN at e
  split at e
  · rename_i hi
    cases e
    obtain ⟨g, S'⟩ := S.store hi r
    exact q _ g S' fun vs h => wipe_set (h i List.mem_cons_self)
  · cases e
theorem dg_name (i : Nat) {x : Str} {pos : Pos} (hi : F.N[i]? = some x) (hx : ∀ j, Loc (F.X j).env.scope x)
    (hf : ∀ j, (F.X j).fn x = true ∨ (F.X j).env.scope.names.lookup x = some .local := by first | exact fun _ => .inl rfl | exact fun _ => .inr rfl) : DG F (.Name x pos) [i] (gN i) :=
  ⟨_, fun j => pg_name (by rw [F.hN j]; exact F.nd) (by rw [F.hN j]; exact hi) (hx j) (hf j), ev_gN i⟩
theorem dgs_nil : DGs F [] [] gsNil := ⟨_, fun _ => pgs_nil, by
  intro ds ρ ρ' e vs G σ H Q S r q
  cases ds with
  | nil => cases e; exact ⟨rpl_nil.mp r, q σ (Go.refl _) S fun _ _ => rfl⟩
  | cons _ _ => cases e⟩
theorem dgs_cons {e : Expr} {es : List Expr} {l m : List Nat} {γ : DenG} {δ : DenGs} (h : DG F e l γ) (h' : DGs F es m δ)
    (hs : ∀ j, (assignEach (e :: es) (F.X j).env).map (·.2) = assign e (F.X j).env :: (assignEach es (F.X j).env).map (·.2) := by intro _; rfl) : DGs F (e :: es) (l ++ m) (gsCons γ δ) := by
  obtain ⟨g, h1, h2⟩ := h.ex
  obtain ⟨u, k1, k2⟩ := h'.ex
  refine ⟨_, fun i => pgs_cons (h1 i) (k1 i) (hs i), ?_⟩
  intro ds ρ ρ' e vs G σ H Q S r q
  cases ds with
  | nil => cases e
  | cons d ds =>
    obtain ⟨v, vr, rfl, r1, r2⟩ := rpl_cons.mp r
    unfold gsCons at e
    dsimp only at e
    split at e
    · rename_i ρ1 e1
      refine ⟨v, vr, rfl, h2 d ρ ρ1 e1 v G σ H _ S r1 fun σ1 g1 S1 w1 => ?_⟩
      exact k2 ds ρ1 ρ' e vr G σ1 H _ S1 r2 fun σ2 g2 S2 w2 => q σ2 (g1.trans g2) S2 fun vs h => (w2 vs fun i hi => h i (List.mem_append_right _ hi)).trans (w1 vs fun i hi => h i (List.mem_append_left _ hi))
    · cases e
theorem dg_tup {es : List Expr} {k : Nat} {pos : Pos} {n : Nat} {l : List Nat} {δ : DenGs} (h : DGs F es l δ) (hd : ∀ ds ρ ρ', δ ds ρ = some ρ' → ds.length = n)
    (hn : ∀ j, (assignEach es (F.X j).env).length = n := by intro _; rfl) (hst : ∀ j, (assignEach es (F.X j).env).findIdx? (·.1) = none := by intro _; rfl) : DG F (.Tuple es k pos) l (gT δ) := by
  obtain ⟨g, h1, h2⟩ := h.ex
  refine ⟨gTup F.K n g, fun i => ?_, ?_⟩
  · have := pg_tup (k := k) (pos := pos) (F.calm i) (h1 i) (hn i) (hst i)
    rw [F.hK i] at this
    exact this
  · intro d ρ ρ' e v G σ H Q S r q
    unfold gT at e
    split at e
    · rename_i ds
      obtain ⟨a, vs, rfl, hq, rl⟩ := rp_tup.mp r
      exact ⟨a, vs, rfl, SqT.mono S.sub hq, by rw [rpl_len rl]; exact hd ds ρ ρ' e, h2 ds ρ ρ' e vs G σ H Q S rl q⟩
    · cases e
theorem gs2 {γ δ : DenG} : ∀ ds ρ ρ', gsCons γ (gsCons δ gsNil) ds ρ = some ρ' → ds.length = 2
  | [], _, _, h => by cases h
  | [_], ρ, _, h => by
    simp only [gsCons] at h
    split at h <;> cases h
  | [_, _], _, _, _ => rfl
  | _ :: _ :: _ :: _, ρ, _, h => by
    simp only [gsCons, gsNil] at h
    split at h
    · split at h <;> cases h
    · cases h
theorem gs3 {γ δ ε : DenG} : ∀ ds ρ ρ', gsCons γ (gsCons δ (gsCons ε gsNil)) ds ρ = some ρ' → ds.length = 3
  | [], _, _, h => by cases h
  | _ :: ds, ρ, ρ', h => by
    simp only [gsCons] at h
    split at h
    · rename_i ρ1 _
      have := gs2 ds ρ1 ρ' h
      rw [List.length_cons, this]
    · cases h

/-! ### what is walked -/
def Wk (K : Kx) (J : It) (G0 : Hp) (ds : List D) : Prop := ∀ (G : Hp) (σ : St) (H : Hp) (ρ : Rho) (i : Nat), Same G0 G → Sx K G σ H ρ →
  (∀ d, ds[i]? = some d → J.go i H ∧ ∀ x H', J.yld i H x H' → ∃ G', Go G H (OwA σ ρ) G' H' (OwA σ ρ) ∧ Sx K G' σ H' ρ ∧ Rp K G' x d) ∧ (i = ds.length → J.stop i H)
def EvI (K : Kx) (wi : TI) (φ : DenL) : Prop := ∀ ρ ds ρ', φ ρ = some (ds, ρ') → ∀ (G : Hp) (σ : St) (H : Hp) (R : It → Hp → Prop), Sx K G σ H ρ →
  (∀ J G' H', Go G H (OwA σ ρ) G' H' (OwA σ ρ') → Sx K G' σ H' ρ' → Wk K J G' ds → R J H') → wi σ H R
structure DI {ι : Type} (F : Fm ι) (tg iter : Expr) (φ : DenL) : Prop where
  ex : ∃ wi, (∀ i, PI (F.X i) tg iter wi) ∧ EvI F.K wi φ
def lstD : D → Option (List D)
  | .lst l => some l
  | .scr l => some (l.map .int)
  | _ => none
def tupD : D → Option (List D)
  | .tup l => some l
  | _ => none
def strD : D → Option (List D)
  | .str s => some (s.map fun c => .str [c])
  | _ => none
def dL (f : D → Option (List D)) (φ : Den) : DenL := fun ρ => match φ ρ with
  | some (d, ρ1) => (match f d with | some ds => some (ds, ρ1) | none => none)
  | none => none
theorem wk_list {G0 : Hp} {a : Addr} {xs : List V} {ds : List D} (h : SqL K G0 a xs) (r : RpL K G0 xs ds) : Wk K (Itl K a) G0 ds := by
  intro G σ H ρ i s S
  have hH : SqL K H a xs := SqL.mono S.sub (SqL.mono s h)
  refine ⟨fun d e => ?_, fun e => ⟨xs, hH, by rw [e, rpl_len r]; exact Nat.le_refl _⟩⟩
  obtain ⟨v, e1, r1⟩ := rpl_get r e
  refine ⟨⟨xs, v, hH, e1⟩, fun x H' y => ?_⟩
  obtain ⟨rfl, y⟩ := y
  have := y xs hH
  rw [e1] at this; cases this
  exact ⟨G, Go.refl _, S, r1.mono s⟩
theorem wk_tup {G0 : Hp} {a : Addr} {xs : List V} {ds : List D} (h : SqT K G0 a xs) (r : RpL K G0 xs ds) : Wk K (Itt K a) G0 ds := by
  intro G σ H ρ i s S
  have hH : SqT K H a xs := SqT.mono S.sub (SqT.mono s h)
  refine ⟨fun d e => ?_, fun e => ⟨xs, hH, by rw [e, rpl_len r]; exact Nat.le_refl _⟩⟩
  obtain ⟨v, e1, r1⟩ := rpl_get r e
  refine ⟨⟨xs, v, hH, e1⟩, fun x H' y => ?_⟩
  obtain ⟨rfl, y⟩ := y
  have := y xs hH
  rw [e1] at this; cases this
  exact ⟨G, Go.refl _, S, r1.mono s⟩
theorem wk_str {G0 : Hp} {s : Tx} : Wk K (Its (S s)) G0 (s.map fun c => .str [c]) := by
  intro G σ H ρ i _ S'
  refine ⟨fun d e => ?_, fun e => ?_⟩
  · rw [List.getElem?_map] at e
    cases h : s[i]? with
    | none => rw [h] at e; cases e
    | some c =>
      rw [h] at e; cases e
      have hi := (List.getElem?_eq_some_iff.mp h).1
      refine ⟨by show i < (S s).cps.size; unfold S; simpa using hi, fun x H' y => ?_⟩
      obtain ⟨rfl, c', e1, rfl⟩ := y
      refine ⟨G, Go.refl _, S', rp_str.mpr ?_⟩
      have : (S s).cps[i]? = some c := by unfold S; simpa using h
      rw [this] at e1; cases e1
      rfl
  · show (S s).cps.size ≤ i
    rw [e, List.length_map]
    unfold S
    simp
theorem wk_range {G0 : Hp} {lo : Int} {n : Nat} : Wk K (Itr lo n) G0 ((List.range n).map fun k : Nat => D.int (lo + (k : Int))) := by
  intro G σ H ρ i _ S'
  refine ⟨fun d e => ?_, fun e => ?_⟩
  · rw [List.getElem?_map] at e
    by_cases hi : i < n
    · rw [List.getElem?_range hi] at e
      cases e
      refine ⟨hi, fun x H' y => ?_⟩
      obtain ⟨rfl, rfl⟩ := y
      exact ⟨G, Go.refl _, S', rp_int.mpr rfl⟩
    · rw [List.getElem?_eq_none (by rw [List.length_range]; omega)] at e
      cases e
  · show n ≤ i
    rw [e, List.length_map, List.length_range]
    exact Nat.le_refl _
theorem di_list {tg e : Expr} {φ : Den} (h : DE F e φ) : DI F tg e (dL lstD φ) := by
  obtain ⟨t, h1, h2⟩ := h.ex
  refine ⟨iList F.K t, fun i => by have := pi_list (tg := tg) (h1 i); rw [F.hK i] at this; exact this, ?_⟩
  intro ρ ds ρ' e G σ H R S q
  unfold dL at e
  split at e
  · rename_i d ρ1 k
    split at e
    · rename_i ds' k2
      cases e
      refine h2 ρ d ρ' k G σ H _ S fun v G1 H1 g1 S1 r1 => ?_
      cases d <;> unfold lstD at k2 <;> try cases k2
      · obtain ⟨a, vs, rfl, ha, rl⟩ := rp_lst.mp r1
        exact ⟨a, rfl, ⟨vs, SqL.mono S1.sub (.inl (.inl ha))⟩, q _ G1 H1 g1 S1 (wk_list (.inl (.inl ha)) rl)⟩
      · obtain ⟨a, rfl, ha⟩ := rp_scr.mp r1
        exact ⟨a, rfl, ⟨_, SqL.mono S1.sub ha⟩, q _ G1 H1 g1 S1 (wk_list ha (rpl_ints.mpr rfl))⟩
    · cases e
  · cases e
theorem di_tup {tg e : Expr} {φ : Den} (h : DE F e φ) : DI F tg e (dL tupD φ) := by
  obtain ⟨t, h1, h2⟩ := h.ex
  refine ⟨iTup F.K t, fun i => by have := pi_tup (tg := tg) (h1 i); rw [F.hK i] at this; exact this, ?_⟩
  intro ρ ds ρ' e G σ H R S q
  unfold dL at e
  split at e
  · rename_i d ρ1 k
    split at e
    · rename_i ds' k2
      cases e
      refine h2 ρ d ρ' k G σ H _ S fun v G1 H1 g1 S1 r1 => ?_
      cases d <;> unfold tupD at k2 <;> try cases k2
      obtain ⟨a, vs, rfl, ha, rl⟩ := rp_tup.mp r1
      exact ⟨a, rfl, ⟨vs, SqT.mono S1.sub ha⟩, q _ G1 H1 g1 S1 (wk_tup ha rl)⟩
    · cases e
  · cases e
theorem di_str {tg e : Expr} {φ : Den} (h : DE F e φ) : DI F tg e (dL strD φ) := by
  obtain ⟨t, h1, h2⟩ := h.ex
  refine ⟨iStr t, fun i => pi_str (h1 i), ?_⟩
  intro ρ ds ρ' e G σ H R S q
  unfold dL at e
  split at e
  · rename_i d ρ1 k
    split at e
    · rename_i ds' k2
      cases e
      refine h2 ρ d ρ' k G σ H _ S fun v G1 H1 g1 S1 r1 => ?_
      cases d <;> unfold strD at k2 <;> try cases k2
      exact ⟨_, rp_str.mp r1, q _ G1 H1 g1 S1 wk_str⟩
    · cases e
  · cases e
theorem wk_range0 {G0 : Hp} {n : Nat} : Wk K (Itr 0 n) G0 ((List.range n).map fun k : Nat => D.int (k : Int)) := by
  have h := wk_range (K := K) (G0 := G0) (lo := 0) (n := n)
  have e : (fun k : Nat => D.int (0 + (k : Int))) = fun k : Nat => D.int (k : Int) := funext fun k => by rw [Int.zero_add]
  rw [e] at h
  exact h
/-- range(n), range(m, n) -/
def range1L : List D → Option (List D)
  | [.int n] => if n < 2 ^ 62 ∧ -(2 ^ 62) ≤ n then some ((List.range n.toNat).map fun k : Nat => D.int (k : Int)) else none
  | _ => none
def range2L : List D → Option (List D)
  | [.int m, .int n] => if (n < 2 ^ 62 ∧ -(2 ^ 62) ≤ n) ∧ m < 2 ^ 62 ∧ -(2 ^ 62) ≤ m then some ((List.range (n - m).toNat).map fun k : Nat => D.int (m + (k : Int))) else none
  | _ => none
def dLL (f : List D → Option (List D)) (φ : DenL) : DenL := fun ρ => match φ ρ with
  | some (xs, ρ1) => (match f xs with | some ds => some (ds, ρ1) | none => none)
  | none => none
theorem di_range1 {tg a : Expr} {φ : DenL} {p pos : Pos} (hg : ∀ i, Gl (F.X i) "range") (hm : F.mg "range" = none) (ha : DA F [a] φ) (hs : ∀ i, starEach [a] (F.X i).env = [(false, eval a (F.X i).env)] := by intro _; rfl) : DI F tg (.Call (.Name "range" p) [a] [] pos) (dLL range1L φ) := by
  obtain ⟨t, h1, h2⟩ := ha.ex
  refine ⟨iRng1 t, fun i => pi_range1 (hg i) (by rw [F.hmg i]; exact hm) (h1 i) (hs i), ?_⟩
  intro ρ ds ρ' e G σ H R S q
  unfold dLL at e
  split at e
  · rename_i xs ρ1 k
    split at e
    · rename_i ds' k2
      cases e
      refine h2 ρ xs ρ' k G σ H _ S fun vs G1 H1 g1 S1 r1 => ?_
      unfold range1L at k2
      split at k2
      · rename_i n
        split at k2
        · rename_i hn
          cases k2
          obtain ⟨v, vr, rfl, r2, r3⟩ := rpl_cons.mp r1
          rw [rpl_nil.mp r3, rp_int.mp r2]
          exact ⟨n, rfl, hn.2, hn.1, q _ G1 H1 g1 S1 wk_range0⟩
        · cases k2
      · cases k2
    · cases e
  · cases e
theorem di_range2 {tg a b : Expr} {φ : DenL} {p pos : Pos} (hg : ∀ i, Gl (F.X i) "range") (hm : F.mg "range" = none) (ha : DA F [a, b] φ) (hs : ∀ i, starEach [a, b] (F.X i).env = [(false, eval a (F.X i).env), (false, eval b (F.X i).env)] := by intro _; rfl)
    (hs2 : ∀ i, starEach [b] (F.X i).env = [(false, eval b (F.X i).env)] := by intro _; rfl) : DI F tg (.Call (.Name "range" p) [a, b] [] pos) (dLL range2L φ) := by
  obtain ⟨t, h1, h2⟩ := ha.ex
  refine ⟨iRng2 t, fun i => pi_range2 (hg i) (by rw [F.hmg i]; exact hm) (h1 i) (hs i) (hs2 i), ?_⟩
  intro ρ ds ρ' e G σ H R S q
  unfold dLL at e
  split at e
  · rename_i xs ρ1 k
    split at e
    · rename_i ds' k2
      cases e
      refine h2 ρ xs ρ' k G σ H _ S fun vs G1 H1 g1 S1 r1 => ?_
      unfold range2L at k2
      split at k2
      · rename_i m n
        split at k2
        · rename_i hn
          cases k2
          obtain ⟨v, vr, rfl, r2, r3⟩ := rpl_cons.mp r1
          obtain ⟨v', vr', rfl, r4, r5⟩ := rpl_cons.mp r3
          rw [rpl_nil.mp r5, rp_int.mp r2, rp_int.mp r4]
          exact ⟨m, n, rfl, ⟨hn.2.2, hn.2.1, hn.1.2, hn.1.1⟩, q _ G1 H1 g1 S1 wk_range⟩
        · cases k2
      · cases k2
    · cases e
  · cases e

/-! ### for, while -/
def forD (γ : DenG) (body : DenS) : List D → Rho → Option Out
  | [], ρ => some (.nx ρ)
  | d :: ds, ρ => match γ d ρ with
    | none => none
    | some ρ1 => match body ρ1 with
      | some (.nx ρ2) => forD γ body ds ρ2
      | some (.ct ρ2) => forD γ body ds ρ2
      | some (.bk ρ2) => some (.nx ρ2)
      | some (.rt v ρ2) => some (.rt v ρ2)
      | some (.ro v ρ2) => some (.ro v ρ2)
      | none => none
def sFor (it : DenL) (γ : DenG) (body : DenS) : DenS := fun ρ => match it ρ with
  | some (ds, ρ1) => forD γ body ds ρ1
  | none => none
theorem ev_for {wi : TI} {g : TG} {tb : TS} {it : DenL} {l : List Nat} {γ : DenG} {body : DenS} (hi : EvI K wi it) (hg : EvG K l g γ) (hb : EvS K tb body) : EvS K (tFor wi g tb) (sFor it γ body) := by
  intro ρ o e G σ H E S q
  unfold sFor at e
  split at e
  · rename_i ds ρ1 k
    refine hi ρ ds ρ1 k G σ H _ S fun J G1 H1 g1 S1 W => ?_
    refine ⟨fun i m σ' H' => m = ds.length - i ∧ i ≤ ds.length ∧ ∃ G' ρ', Go G1 H1 (OwA σ ρ1) G' H' (OwA σ' ρ') ∧ Sx K G' σ' H' ρ' ∧ forD γ body (ds.drop i) ρ' = some o,
      ⟨ds.length, by simp, Nat.zero_le _, G1, ρ1, Go.refl _, S1, by simpa using e⟩, ?_⟩
    rintro i m σ' H' ⟨rfl, hi', G', ρ', g', S', e'⟩
    have w := W G' σ' H' ρ' i g'.gg S'
    by_cases hlt : i < ds.length
    · have hd : ds[i]? = some ds[i] := List.getElem?_eq_getElem hlt
      obtain ⟨go, yl⟩ := w.1 _ hd
      rw [List.drop_eq_getElem_cons hlt] at e'
      unfold forD at e'
      split at e'
      · cases e'
      · rename_i ρ2 eg
        refine .inr ⟨go, fun σ3 H3 => ∃ G3 ρ3, Go G1 H1 (OwA σ ρ1) G3 H3 (OwA σ3 ρ3) ∧ Sx K G3 σ3 H3 ρ3 ∧ forD γ body (ds.drop (i + 1)) ρ3 = some o, ?_, fun x H2 y => ?_⟩
        · rintro σ3 H3 ⟨G3, ρ3, a, b, c⟩
          exact ⟨ds.length - (i + 1), by omega, rfl, hlt, G3, ρ3, a, b, c⟩
        · obtain ⟨G2, g2, S2, r2⟩ := yl x H2 y
          refine hg _ ρ' ρ2 eg x G2 σ' H2 _ S2 r2 fun σ3 g3 S3 _ => ?_
          have gg := (g'.trans g2).trans g3
          split at e'
          · rename_i ρ4 eb
            exact hb ρ2 _ eb G2 σ3 H2 _ S3 fun σ4 G4 H4 g4 S4 => ⟨G4, ρ4, gg.trans g4, S4, e'⟩
          · rename_i ρ4 eb
            exact hb ρ2 _ eb G2 σ3 H2 _ S3 fun σ4 G4 H4 g4 S4 => ⟨G4, ρ4, gg.trans g4, S4, e'⟩
          · rename_i ρ4 eb
            cases e'
            exact hb ρ2 _ eb G2 σ3 H2 _ S3 fun σ4 G4 H4 g4 S4 => q σ4 G4 H4 ((g1.trans gg).trans g4) S4
          · rename_i v ρ4 eb
            cases e'
            exact hb ρ2 _ eb G2 σ3 H2 _ S3 fun v σ4 G4 H4 g4 S4 r4 => q v σ4 G4 H4 ((g1.trans gg).trans g4) S4 r4
          · rename_i v ρ4 eb
            cases e'
            exact hb ρ2 _ eb G2 σ3 H2 _ S3 fun a σ4 G4 H4 g4 S4 n1 n2 o no => q a σ4 G4 H4 ((g1.trans gg).trans g4) S4 ((g1.trans gg).fresh n1) n2 o no
          · cases e'
    · have he : i = ds.length := by omega
      rw [he, List.drop_length] at e'
      cases e'
      exact .inl ⟨w.2 he, q σ' G' H' (g1.trans g') S'⟩
  · cases e
theorem ds_for {tg iter : Expr} {b : List Stmt} {it : DenL} {l : List Nat} {γ : DenG} {body : DenS} {pos : Pos} (hi : DI F tg iter it) (hg : DG F tg l γ) (hb : DSs F b body)
    (hs : ∀ j x, foldedSetIterable iter (F.X j).env x = pure x := by intro _ _; rfl) : DS F (.For tg iter b [] pos) (sFor it γ body) := by
  obtain ⟨wi, a1, a2⟩ := hi.ex
  obtain ⟨g, b1, b2⟩ := hg.ex
  obtain ⟨t, c1, c2⟩ := hb.ex
  exact ⟨_, fun i => ps_for (F.pass i) (F.calm i) (a1 i) (b1 i) (c1 i) (hs i), ev_for a2 b2 c2⟩
def whD (c : DenT) (body : DenS) : Nat → Rho → Option Out
  | 0, _ => none
  | n + 1, ρ => match c ρ with
    | some (true, ρ1) => (match body ρ1 with
      | some (.nx ρ2) => whD c body n ρ2
      | some (.ct ρ2) => whD c body n ρ2
      | some (.bk ρ2) => some (.nx ρ2)
      | some (.rt v ρ2) => some (.rt v ρ2)
      | some (.ro v ρ2) => some (.ro v ρ2)
      | none => none)
    | some (false, ρ1) => some (.nx ρ1)
    | none => none
theorem ev_while (n : Nat) {tc : TT} {tb : TS} {c : DenT} {body : DenS} (hc : EvT K tc c) (hb : EvS K tb body) : EvS K (tWhile tc tb) (whD c body n) := by
  intro ρ o e G σ H E S q
  refine ⟨fun m σ' H' => ∃ G' ρ', Go G H (OwA σ ρ) G' H' (OwA σ' ρ') ∧ Sx K G' σ' H' ρ' ∧ whD c body m ρ' = some o, ⟨n, G, ρ, Go.refl _, S, e⟩, ?_⟩
  rintro m σ' H' ⟨G', ρ', g', S', e'⟩
  cases m with
  | zero => cases e'
  | succ m =>
    unfold whD at e'
    split at e'
    · rename_i ρ1 ec
      refine hc ρ' _ ρ1 ec G' σ' H' _ S' fun G1 H1 g1 S1 => ?_
      rw [if_pos rfl]
      refine ⟨fun σ3 H3 => ∃ G3 ρ3, Go G H (OwA σ ρ) G3 H3 (OwA σ3 ρ3) ∧ Sx K G3 σ3 H3 ρ3 ∧ whD c body m ρ3 = some o, fun σ3 H3 h => ⟨m, Nat.lt_succ_self m, h⟩, ?_⟩
      have gg := g'.trans g1
      split at e'
      · rename_i ρ4 eb
        exact hb ρ1 _ eb G1 σ' H1 _ S1 fun σ4 G4 H4 g4 S4 => ⟨G4, ρ4, gg.trans g4, S4, e'⟩
      · rename_i ρ4 eb
        exact hb ρ1 _ eb G1 σ' H1 _ S1 fun σ4 G4 H4 g4 S4 => ⟨G4, ρ4, gg.trans g4, S4, e'⟩
      · rename_i ρ4 eb
        cases e'
        exact hb ρ1 _ eb G1 σ' H1 _ S1 fun σ4 G4 H4 g4 S4 => q σ4 G4 H4 (gg.trans g4) S4
      · rename_i v ρ4 eb
        cases e'
        exact hb ρ1 _ eb G1 σ' H1 _ S1 fun v σ4 G4 H4 g4 S4 r4 => q v σ4 G4 H4 (gg.trans g4) S4 r4
      · rename_i v ρ4 eb
        cases e'
        exact hb ρ1 _ eb G1 σ' H1 _ S1 fun a σ4 G4 H4 g4 S4 n1 n2 o no => q a σ4 G4 H4 (gg.trans g4) S4 (gg.fresh n1) n2 o no
      · cases e'
    · rename_i ρ1 ec
      cases e'
      refine hc ρ' _ ρ1 ec G' σ' H' _ S' fun G1 H1 g1 S1 => ?_
      rw [if_neg (by decide)]
      exact q σ' G1 H1 (g'.trans g1) S1
    · cases e'
theorem ds_while (n : Nat) {c : Expr} {b : List Stmt} {χ : DenT} {body : DenS} {pos : Pos} (hc : DT F c χ) (hb : DSs F b body) : DS F (.While c b [] pos) (whD χ body n) := by
  obtain ⟨t, a1, a2⟩ := hc.ex
  obtain ⟨u, b1, b2⟩ := hb.ex
  exact ⟨_, fun i => ps_while (F.pass i) (a1 i) (b1 i), ev_while n a2 b2⟩

/-! ### list comprehensions -/
def Fm.blk (F : Fm ι) (scope : Scope) : Fm (ι × Shared × Hp × Addr × List (Str × Addr) × List Addr) where
  X := fun x => (F.X x.1).blk x.2.1 x.2.2.1 scope (compEnvC scope x.2.2.2.2.1 x.2.2.2.1 (F.X x.1).env) x.2.2.2.2.2
  K := F.K
  N := F.N
  P := F.P
  w := F.w
  mg := F.mg
  base := F.base
  k := F.k
  hK := fun x => F.hK x.1
  hN := fun x => F.hN x.1
  hP := fun x => F.hP x.1
  hw := fun x => F.hw x.1
  hmg := fun x => F.hmg x.1
  hb := fun x => F.hb x.1
  nd := F.nd
  calm := fun x => F.calm x.1
  room := fun x => F.room x.1
  pass := fun _ => PassesOwn.never
def lcD (γ : DenG) (tt : DenT) (te : Den) (own : List Nat) : List D → Rho → Option (List D × Rho)
  | [], ρ => some ([], ρ)
  | d :: ds, ρ => if ownOk ρ own = true then (match γ d (wipeR ρ own) with
    | none => none
    | some ρ1 => match tt ρ1 with
      | some (true, ρ2) => (match te ρ2 with
        | some (y, ρ3) => (match lcD γ tt te own ds (back ρ ρ3 own) with
          | some (ys, ρ4) => some (y :: ys, ρ4)
          | none => none)
        | none => none)
      | some (false, ρ2) => lcD γ tt te own ds (back ρ ρ2 own)
      | none => none) else none
def dLc (it : DenL) (γ : DenG) (tt : DenT) (te : Den) (own : List Nat) : Den := fun ρ => match it ρ with
  | some (ds, ρ1) => (match lcD γ tt te own ds ρ1 with
    | some (ys, ρ2) => if ys.length ≤ 16777216 then some (.lst ys, ρ2) else none
    | none => none)
  | none => none
def tYesD : DenT := fun ρ => some (true, ρ)
structure DTs {ι : Type} (F : Fm ι) (es : List Expr) (φ : DenT) : Prop where
  ex : ∃ t, (∀ i, PTs (F.X i) es t) ∧ EvT F.K t φ
theorem dts_nil : DTs F [] tYesD := ⟨_, fun _ => pts_nil, by
  intro ρ d ρ' e G σ H Q S q
  cases e
  exact q G H (Go.refl _) S⟩
theorem dts_one {c : Expr} {φ : DenT} (h : DT F c φ) : DTs F [c] φ := by
  obtain ⟨t, h1, h2⟩ := h.ex
  exact ⟨t, fun i => pts_one (h1 i), h2⟩
theorem ev_lc {wi : TI} {g : TG} {t : TT} {te : TE} {it : DenL} {l own : List Nat} {γ : DenG} {χ : DenT} {φ : Den} (hi : EvI K wi it) (hg : EvG K l g γ) (ht : EvT K t χ) (he : Ev K te φ) (hl : ∀ i ∈ l, i ∈ own) : EvO K (tLc wi g t te own) (dLc it γ χ φ own) := by
  intro ρ d ρ' e G σ H Q S q
  unfold dLc at e
  split at e
  · rename_i ds ρ1 k
    split at e
    · rename_i ys ρ2 k2
      split at e
      · rename_i hz
        cases e
        refine hi ρ ds ρ1 k G σ H _ S fun J G1 H1 g1 S1 W L hL => ?_
        have LO : ¬ OwA σ ρ1 L := fun z => by
          obtain ⟨u, e⟩ := S1.ow_there _ z
          rw [hL] at e; cases e
        refine ⟨fun i m H' => m = ds.length - i ∧ i ≤ ds.length ∧ ∃ G' ρi acc vs rest, Go G1 H1 (OwA σ ρ1) G' H' (OwA σ ρi) ∧ Sx K G' σ H' ρi ∧ G' L = none ∧ ¬ OwA σ ρi L ∧ H' L = some (.lst vs) ∧ RpL K G' vs acc ∧ lcD γ χ φ own (ds.drop i) ρi = some (rest, ρ') ∧ ys = acc ++ rest,
          ⟨ds.length, by simp, Nat.zero_le _, G1, ρ1, [], [], ys, Go.newO hL, S1.newO hL, S1.sub.free hL, LO, upd_same, rpl_nil.mpr rfl, by simpa using k2, rfl⟩, ?_⟩
        rintro i m H' ⟨rfl, hi', G', ρi, acc, vs, rest, g', S', nG, nO, hv, ra, e', ey⟩
        have w := W G' σ H' ρi i g'.gg S'
        by_cases hlt : i < ds.length
        · have hd : ds[i]? = some ds[i] := List.getElem?_eq_getElem hlt
          rw [List.drop_eq_getElem_cons hlt] at e'
          unfold lcD at e'
          split at e'
          · rename_i ok
            split at e'
            · cases e'
            · rename_i ρ3 eg
              have wS := S'.wipe (own := own)
              have w2 := W G' (wipe σ own) H' (wipeR ρi own) i g'.gg wS
              obtain ⟨go, yl⟩ := w2.1 _ hd
              refine .inr ⟨(w.1 _ hd).1, fun H3 => ∃ G3 ρ3 acc vs rest, Go G1 H1 (OwA σ ρ1) G3 H3 (OwA σ ρ3) ∧ Sx K G3 σ H3 ρ3 ∧ G3 L = none ∧ ¬ OwA σ ρ3 L ∧ H3 L = some (.lst vs) ∧ RpL K G3 vs acc ∧ lcD γ χ φ own (ds.drop (i + 1)) ρ3 = some (rest, ρ') ∧ ys = acc ++ rest, ?_, fun x H2 y => ?_⟩
              · rintro H3 ⟨G3, ρ3, acc, vs, rest, h⟩
                exact ⟨ds.length - (i + 1), by omega, rfl, hlt, G3, ρ3, acc, vs, rest, h⟩
              · obtain ⟨G2, g2, S2, r2⟩ := yl x H2 y
                refine hg _ (wipeR ρi own) ρ3 eg x G2 (wipe σ own) H2 _ S2 r2 fun σ3 g3 S3 w3 => ?_
                have wσ : wipe σ3 own = wipe σ own := (w3 own hl).trans (wipe_wipe σ own)
                refine ⟨wσ, ?_⟩
                -- from the block's start to here
                have gb := g2.trans g3
                have nOw : ¬ OwA (wipe σ own) (wipeR ρi own) L := fun z => nO ((OwA.wipe ok L).mp z)
                -- what holds of the new list and of what stands outside, in the block
                have keep : ∀ {G5 H5 : Hp} {ρ5 : Rho}, Go G' H' (OwA (wipe σ own) (wipeR ρi own)) G5 H5 (OwA σ3 ρ5) → Sx K G5 σ3 H5 ρ5 →
                    Go G1 H1 (OwA σ ρ1) G5 H5 (OwA σ (back ρi ρ5 own)) ∧ Sx K G5 σ H5 (back ρi ρ5 own) ∧ G5 L = none ∧ ¬ OwA σ (back ρi ρ5 own) L ∧ H5 L = some (.lst vs) ∧ RpL K G5 vs acc := by
                  intro G5 H5 ρ5 g5 S5
                  obtain ⟨S6, l6⟩ := S'.back ok g5.gg S5 wσ
                  have g6 : Go G' H' (OwA σ ρi) G5 H5 (OwA σ (back ρi ρ5 own)) := by
                    refine ⟨g5.gg, fun b u h n => g5.hh b u h fun z => n ((OwA.wipe ok b).mp z), fun b u h g n => g5.nw b u h g fun z => n ((OwA.wipe ok b).mp z), fun b h => ?_, g5.dm⟩
                    rcases g5.ow b (l6 b h) with z | z
                    · exact .inl ((OwA.wipe ok b).mp z)
                    · exact .inr z
                  refine ⟨g'.trans g6, S6, g5.nw L _ hv nG nOw, fun z => ?_, g5.hh L _ hv nOw, ra.mono g5.gg⟩
                  rcases g6.ow L z with z | z
                  · exact nO z
                  · rw [hv] at z; cases z
                split at e'
                · rename_i ρ4 et
                  refine ht ρ3 _ ρ4 et G2 σ3 H2 _ S3 fun G4 H4 g4 S4 => ?_
                  rw [if_pos rfl]
                  split at e'
                  · rename_i y' ρ5 ee
                    split at e'
                    · rename_i ys' ρ6 el
                      cases e'
                      refine he ρ4 y' ρ5 ee G4 σ3 H4 _ S4 fun v G5 H5 g5 S5 r5 => ?_
                      obtain ⟨k1, k2, k3, k4, k5, k6⟩ := keep ((gb.trans g4).trans g5) S5
                      refine ⟨vs, k5, ?_, ?_⟩
                      · rw [rpl_len k6, sizeLine_eq]
                        have := congrArg List.length ey
                        rw [List.length_append, List.length_cons] at this
                        omega
                      · -- the item is laid behind
                        have hL5 : ∃ o, H5 L = some o := ⟨_, k5⟩
                        refine ⟨G5, back ρi ρ5 own, acc ++ [y'], vs ++ [v], ys', ?_, ?_, k3, k4, upd_same, rpl_app k6 (rpl_one r5), el, by rw [ey]; simp⟩
                        · refine ⟨k1.gg, fun b u h n => ?_, k1.nw, k1.ow, fun b u h => ?_⟩
                          · rw [upd_ne (ne_of_none h hL)]; exact k1.hh b u h n
                          · rw [upd_ne (ne_of_none h hL)]; exact k1.dm b u h
                        · refine ⟨fun b u h => ?_, k2.len, fun j s h => ?_, k2.apart⟩
                          · rw [upd_ne (ne_of_none h k3)]; exact k2.sub b u h
                          · obtain ⟨o, e1, h1⟩ := k2.at_ j s h
                            refine ⟨o, e1, ?_⟩
                            cases s with
                            | no => trivial
                            | sh d => exact h1
                            | ow t d =>
                              obtain ⟨b, e2, e3, e4, e5⟩ := h1
                              have nb : b ≠ L := fun z => k4 (z ▸ ⟨j, t, d, h, by rw [e1, e2]⟩)
                              exact ⟨b, e2, e3, e4, e5.mono (Same.refl _) (upd_ne nb)⟩
                    · cases e'
                  · cases e'
                · rename_i ρ4 et
                  refine ht ρ3 _ ρ4 et G2 σ3 H2 _ S3 fun G4 H4 g4 S4 => ?_
                  rw [if_neg (by decide)]
                  obtain ⟨k1, k2, k3, k4, k5, k6⟩ := keep (gb.trans g4) S4
                  exact ⟨G4, back ρi ρ4 own, acc, vs, rest, k1, k2, k3, k4, k5, k6, e', ey⟩
                · cases e'
          · cases e'
        · have hE : i = ds.length := by omega
          rw [hE, List.drop_length] at e'
          cases e'
          rw [List.append_nil] at ey
          refine .inl ⟨w.2 hE, ?_⟩
          exact q L G' H' (g1.trans g') S' (g1.fresh hL) nG ⟨vs, hv, by rw [ey]; exact ra⟩ nO
      · cases e
    · cases e
  · cases e
theorem do_lc {elt tg iter : Expr} {ifs : List Expr} {scope : Scope} {own : List (Str × Nat)} {pos : Pos} {it : DenL} {l : List Nat} {γ : DenG} {χ : DenT} {φ : Den} (hi : DI F tg iter it) (ok : ∀ i, BlkOk F.N (F.X i).env.scope scope own)
    (hg : DG (F.blk scope) tg l γ) (ht : DTs (F.blk scope) ifs χ) (he : DE (F.blk scope) elt φ) (hl : ∀ i ∈ l, i ∈ own.map (·.2) := by decide) (hs : ∀ j x, foldedSetIterable iter (F.X j).env x = pure x := by intro _ _; rfl) :
    DO F (.ListComp elt [⟨tg, iter, ifs, 0⟩] scope pos) (dLc it γ χ φ (own.map (·.2))) := by
  obtain ⟨wi, a1, a2⟩ := hi.ex
  obtain ⟨g, b1, b2⟩ := hg.ex
  obtain ⟨t, c1, c2⟩ := ht.ex
  obtain ⟨te, d1, d2⟩ := he.ex
  exact ⟨_, fun i => pe_lc (F.calm i) (by rw [F.hN i]; exact F.nd) (a1 i) (by rw [F.hN i]; exact ok i) (fun s H C cl fp => b1 (i, s, H, C, cl, fp)) (fun s H C cl fp => c1 (i, s, H, C, cl, fp)) (fun s H C cl fp => d1 (i, s, H, C, cl, fp)) (hs i), ev_lc a2 b2 c2 d2 hl⟩
end
end DL

/-! Defs over data: promises, calls, what changes a list. -/
namespace DL
open PySem PySem.Spec PyProof.Rows L2

def sRetO (φ : Den) : DenS := fun ρ => match φ ρ with
  | some (d, ρ1) => some (.ro d ρ1)
  | none => none
section
variable {ι : Type} {F : Fm ι} {K : Kx}
theorem ds_retO {e : Expr} {φ : Den} {pos : Pos} (h : DO F e φ) : DS F (.Return (some e) pos) (sRetO φ) := by
  obtain ⟨t, h1, h2⟩ := h.ex
  refine ⟨_, fun i => ps_ret (h1 i), ?_⟩
  intro ρ o e G σ H E S q
  unfold sRetO at e
  split at e
  · rename_i d ρ1 k
    cases e
    exact h2 ρ d ρ1 k G σ H _ S fun a G1 H1 g1 S1 n1 n2 o no => q a σ G1 H1 g1 S1 n1 n2 o no
  · cases e
end

abbrev NoA : Addr → Prop := fun _ => False
/-- a def that changes nothing: its value as a function of the arguments -/
def spD (K : PySem.W.Frag) (n : Nat) (Φ : List D → Option D) : Sp := fun vs H Q _ => ∃ G ds d, ds.length = n ∧ Same G H ∧ RpL K G vs ds ∧ Φ ds = some d ∧
  ∀ v G' H', Go G H NoA G' H' NoA → Same G' H' → Rp K G' v d → Q v H'
/-- .. its value a new object -/
def spN (K : PySem.W.Frag) (n : Nat) (Φ : List D → Option D) : Sp := fun vs H Q _ => ∃ G ds d, ds.length = n ∧ Same G H ∧ RpL K G vs ds ∧ Φ ds = some d ∧
  ∀ a G' H', Go G H NoA G' H' NoA → Same G' H' → H a = none → G' a = none → Own K G' H' a d → Q (.ref a) H'
/-- .. that may change its first argument -/
def spIO (K : PySem.W.Frag) (n : Nat) (Φ : D → List D → Option (D × D)) : Sp := fun vs H Q _ => ∃ G a us io ds d io', vs = .ref a :: us ∧ ds.length = n ∧ Same G H ∧ G a = none ∧ Own K G H a io ∧ RpL K G us ds ∧ Φ io ds = some (d, io') ∧
  ∀ v G' H', Go G H (· = a) G' H' (· = a) → Same G' H' → G' a = none → Own K G' H' a io' → Rp K G' v d → Q v H'

def startR (nN : Nat) (ds : List D) : Rho := ds.map .sh ++ List.replicate (nN - ds.length) .no
def runD (nN n : Nat) (φ : DenS) : List D → Option D := fun ds => if ds.length = n then (match φ (startR nN ds) with
  | some (.rt d _) => some d
  | some (.nx _) => some .non
  | _ => none) else none
def runN (nN n : Nat) (φ : DenS) : List D → Option D := fun ds => if ds.length = n then (match φ (startR nN ds) with
  | some (.ro d _) => some d
  | _ => none) else none
def startIO (nN : Nat) (io : D) (ds : List D) : Rho := .ow true io :: (ds.map .sh ++ List.replicate (nN - 1 - ds.length) .no)
def ioEnd (d : D) (ρ : Rho) : Option (D × D) := match ρ[(0 : Nat)]? with
  | some (.ow true io) => some (d, io)
  | _ => none
def runIO (nN n : Nat) (φ : DenS) : D → List D → Option (D × D) := fun io ds => if ds.length = n then (match φ (startIO nN io ds) with
  | some (.rt d ρ) => ioEnd d ρ
  | some (.nx ρ) => ioEnd .non ρ
  | _ => none) else none

/-- the contexts of a def's body -/
abbrev fmOf (P : Program) (w : World) (K : PySem.W.Frag) (mg : Str → Option Value) (base : Heap) (N : List Str) (nd : N.Nodup) (qual : Str) (scope : Scope) (f : Addr) (cd : Value) (A : Around) (outer : List Env) (s : Shared) (H : Hp) (E : XK) (k : Nat) (pn : Addr)
    (hr : Room k (A.deeper (envOfC qual scope s.heap.objs.size f cd))) : Fm Unit where
  X := fun _ => (cxOf CX0 P w K mg base N qual scope f cd A outer s H E).nox
  K := ⟨K, pn⟩
  N := N
  P := P
  w := w
  mg := mg
  base := base
  k := k
  hK := fun _ => rfl
  hN := fun _ => rfl
  hP := fun _ => rfl
  hw := fun _ => rfl
  hmg := fun _ => rfl
  hb := fun _ => rfl
  nd := nd
  calm := fun _ => rfl
  room := fun _ => hr
  pass := fun _ => PassesOwn.never

section
variable {P : Program} {w : World} {K : PySem.W.Frag} {mg : Str → Option Value} {base : Heap}
theorem startR_len {nN : Nat} {ds : List D} (h : ds.length ≤ nN) : (startR nN ds).length = nN := by
  unfold startR
  rw [List.length_append, List.length_map, List.length_replicate]
  omega
theorem startR_no {nN : Nat} {ds : List D} {i : Nat} {t : Bool} {d : D} : (startR nN ds)[i]? ≠ some (.ow t d) := by
  unfold startR
  intro e
  by_cases hi : i < (ds.map Sl.sh).length
  · rw [List.getElem?_append_left hi, List.getElem?_map] at e
    cases h : ds[i]? with
    | none => rw [h] at e; cases e
    | some x => rw [h] at e; cases e
  · rw [List.getElem?_append_right (by omega), List.getElem?_replicate] at e
    split at e <;> cases e
theorem start_at {K : Kx} {G H : Hp} {nN : Nat} {vs : List V} {ds : List D} (r : RpL K G vs ds) : ∀ (i : Nat) (s : Sl), (startR nN ds)[i]? = some s → ∃ o, (vs.map some ++ List.replicate (nN - vs.length) none)[i]? = some o ∧ St1 K G H o s := by
  intro i s e
  have hl := rpl_len r
  unfold startR at e
  by_cases hi : i < ds.length
  · rw [List.getElem?_append_left (by simpa using hi), List.getElem?_map] at e
    rw [List.getElem?_append_left (by rw [List.length_map]; omega), List.getElem?_map]
    cases h : ds[i]? with
    | none => rw [h] at e; cases e
    | some d =>
      rw [h] at e; cases e
      obtain ⟨v, e1, e2⟩ := rpl_get r h
      rw [e1]
      exact ⟨_, rfl, v, rfl, e2⟩
  · rw [List.getElem?_append_right (by simpa using hi), List.getElem?_replicate] at e
    rw [List.getElem?_append_right (by rw [List.length_map]; omega), List.getElem?_replicate]
    split at e
    · rename_i h
      cases e
      rw [List.length_map] at h
      rw [List.length_map, if_pos (by omega)]
      exact ⟨_, rfl, trivial⟩
    · cases e
theorem sx_start {K : Kx} {G H : Hp} {N : List Str} {vs : List V} {ds : List D} (s : Same G H) (r : RpL K G vs ds) (h : ds.length ≤ N.length) : Sx K G (L2.start N vs) H (startR N.length ds) := by
  have hl := rpl_len r
  refine ⟨s, ?_, start_at r, fun i j a ⟨t, d, h1, _⟩ _ => absurd h1 startR_no⟩
  rw [startR_len h]
  unfold L2.start
  rw [List.length_append, List.length_map, List.length_replicate]
  omega
theorem own_start {σ : L2.St} {nN : Nat} {ds : List D} {b : Addr} (h : OwA σ (startR nN ds) b) : False := by
  obtain ⟨i, t, d, h1, _⟩ := h
  exact startR_no h1
theorem Go.noA {G H G' H' : Hp} {O O' : Addr → Prop} (g : Go G H O G' H' O') (n : ∀ b, ¬ O b) : Go G H NoA G' H' NoA :=
  ⟨g.gg, fun b o h _ => g.hh b o h (n b), fun b o h e _ => g.nw b o h e (n b), fun _ h => h.elim, g.dm⟩

/-- THE RULE for a def that changes nothing -/
theorem fn_D {x qual : Str} {st : Stmt} {f : Addr} {fd : FuncData} {N ps : List Str} {k : Nat} {φ : DenS} (F : Fun K x qual st f fd) (S : FnScope N ps (defScope st))
    (hbody : ∀ (cdv : Value) (A : Around) (outer : List Env) (s : Shared) (H : Hp) (E : XK) (pn : Addr) (hr : Room k (A.deeper (envOfC qual (defScope st) s.heap.objs.size f cdv))), DSs (fmOf P w K mg base N S.nd qual (defScope st) f cdv A outer s H E k pn hr) (defBody st) φ) :
    FnOk P w K mg base CX0 (k + 1) f fd ps (spD K ps.length (runD N.length ps.length φ)) := by
  refine F.ok S (fun vs H Q E h => ?_) (fun cdv A outer s H vs Q E hr h => ?_)
  · obtain ⟨G, ds, d, hl, _, r, _⟩ := h
    rw [rpl_len r, hl]
  · obtain ⟨G, ds, d, hl, hs, r, e, q⟩ := h
    obtain ⟨t, t1, t2⟩ := (hbody cdv A outer s H E 0 hr).ex
    refine ⟨t, t1 (), ?_⟩
    have hp : ps.length ≤ N.length := by have := congrArg List.length S.pre; rw [List.length_take] at this; omega
    have S0 : Sx ⟨K, 0⟩ G (L2.start N vs) H (startR N.length ds) := sx_start hs r (by omega)
    unfold runD at e
    rw [if_pos hl] at e
    split at e
    · rename_i d' ρ' k1
      cases e
      exact t2 _ _ k1 G _ H _ S0 fun v σ' G' H' g S' r' => q v G' H' (g.noA fun b => own_start) S'.sub r'
    · rename_i ρ' k1
      cases e
      exact t2 _ _ k1 G _ H _ S0 fun σ' G' H' g S' => q .non G' H' (g.noA fun b => own_start) S'.sub (rp_non.mpr rfl)
    · cases e
theorem fn_N {x qual : Str} {st : Stmt} {f : Addr} {fd : FuncData} {N ps : List Str} {k : Nat} {φ : DenS} (F : Fun K x qual st f fd) (S : FnScope N ps (defScope st))
    (hbody : ∀ (cdv : Value) (A : Around) (outer : List Env) (s : Shared) (H : Hp) (E : XK) (pn : Addr) (hr : Room k (A.deeper (envOfC qual (defScope st) s.heap.objs.size f cdv))), DSs (fmOf P w K mg base N S.nd qual (defScope st) f cdv A outer s H E k pn hr) (defBody st) φ) :
    FnOk P w K mg base CX0 (k + 1) f fd ps (spN K ps.length (runN N.length ps.length φ)) := by
  refine F.ok S (fun vs H Q E h => ?_) (fun cdv A outer s H vs Q E hr h => ?_)
  · obtain ⟨G, ds, d, hl, _, r, _⟩ := h
    rw [rpl_len r, hl]
  · obtain ⟨G, ds, d, hl, hs, r, e, q⟩ := h
    obtain ⟨t, t1, t2⟩ := (hbody cdv A outer s H E 0 hr).ex
    refine ⟨t, t1 (), ?_⟩
    have hp : ps.length ≤ N.length := by have := congrArg List.length S.pre; rw [List.length_take] at this; omega
    have S0 : Sx ⟨K, 0⟩ G (L2.start N vs) H (startR N.length ds) := sx_start hs r (by omega)
    unfold runN at e
    rw [if_pos hl] at e
    split at e
    · rename_i d' ρ' k1
      cases e
      exact t2 _ _ k1 G _ H _ S0 fun a σ' G' H' g S' n1 n2 o no => q a G' H' (g.noA fun b => own_start) S'.sub n1 n2 o
    · cases e
theorem fn_IO {x qual : Str} {st : Stmt} {f : Addr} {fd : FuncData} {N ps : List Str} {p0 : Str} {k : Nat} {φ : DenS} (F : Fun K x qual st f fd) (S : FnScope N (p0 :: ps) (defScope st))
    (hbody : ∀ (cdv : Value) (A : Around) (outer : List Env) (s : Shared) (H : Hp) (E : XK) (pn : Addr) (hr : Room k (A.deeper (envOfC qual (defScope st) s.heap.objs.size f cdv))), DSs (fmOf P w K mg base N S.nd qual (defScope st) f cdv A outer s H E k pn hr) (defBody st) φ) :
    FnOk P w K mg base CX0 (k + 1) f fd (p0 :: ps) (spIO K ps.length (runIO N.length ps.length φ)) := by
  refine F.ok S (fun vs H Q E h => ?_) (fun cdv A outer s H vs Q E hr h => ?_)
  · obtain ⟨G, a, us, io, ds, d, io', rfl, hl, _, _, _, r, _⟩ := h
    rw [List.length_cons, List.length_cons, rpl_len r, hl]
  · obtain ⟨G, a, us, io, ds, d, io', rfl, hl, hs, ga, ho, r, e, q⟩ := h
    obtain ⟨t, t1, t2⟩ := (hbody cdv A outer s H E a hr).ex
    refine ⟨t, t1 (), ?_⟩
    have hp : ps.length + 1 ≤ N.length := by have := congrArg List.length S.pre; rw [List.length_take, List.length_cons] at this; omega
    have hul := rpl_len r
    have S0 : Sx ⟨K, a⟩ G (L2.start N (.ref a :: us)) H (startIO N.length io ds) := by
      have e1 : L2.start N (.ref a :: us) = some (.ref a) :: (us.map some ++ List.replicate (N.length - 1 - us.length) none) := by
        unfold L2.start
        rw [List.map_cons, List.length_cons, List.cons_append, Nat.sub_sub, Nat.add_comm 1]
      have e2 : startIO N.length io ds = .ow true io :: startR (N.length - 1) ds := rfl
      rw [e1, e2]
      have only : ∀ (i : Nat) (b : Addr), Ows (some (.ref a) :: (us.map some ++ List.replicate (N.length - 1 - us.length) none)) (.ow true io :: startR (N.length - 1) ds) i b → i = 0 := by
        rintro i b ⟨t, d, h1, _⟩
        cases i with
        | zero => rfl
        | succ i =>
          rw [List.getElem?_cons_succ] at h1
          exact absurd h1 startR_no
      refine ⟨hs, ?_, fun i s h => ?_, fun i j b h1 h2 => (only i b h1).trans (only j b h2).symm⟩
      · rw [List.length_cons, List.length_cons, startR_len (by omega), List.length_append, List.length_map, List.length_replicate]
        omega
      · cases i with
        | zero =>
          cases h
          exact ⟨_, rfl, a, rfl, fun _ => rfl, ga, ho⟩
        | succ i =>
          rw [List.getElem?_cons_succ] at h
          rw [List.getElem?_cons_succ]
          exact start_at (K := ⟨K, a⟩) r i s h
    have own : ∀ b, OwA (L2.start N (.ref a :: us)) (startIO N.length io ds) b ↔ b = a := by
      intro b
      constructor
      · rintro ⟨i, t, d, h1, h2⟩
        cases i with
        | zero =>
          have : (L2.start N (.ref a :: us))[0]? = some (some (.ref a)) := rfl
          rw [this] at h2; cases h2; rfl
        | succ i =>
          have : (startIO N.length io ds)[i + 1]? = (startR (N.length - 1) ds)[i]? := rfl
          rw [this] at h1
          exact absurd h1 startR_no
      · rintro rfl
        exact ⟨0, true, io, rfl, rfl⟩
    have fin : ∀ {σ' : L2.St} {G' H' : Hp} {ρ' : Rho} {v : V} {d' : D}, Go G H (OwA (L2.start N (.ref a :: us)) (startIO N.length io ds)) G' H' (OwA σ' ρ') → Sx ⟨K, a⟩ G' σ' H' ρ' → Rp K G' v d' → ioEnd d' ρ' = some (d, io') → Q v H' := by
      intro σ' G' H' ρ' v d' g S' r' he
      unfold ioEnd at he
      split at he
      · rename_i z h0
        cases he
        obtain ⟨o, e1, b, e2, e3, e4, e5⟩ := S'.at_ 0 _ h0
        have eb : b = a := e3 rfl
        subst eb
        exact q v G' H' ⟨g.gg, fun c o h n => g.hh c o h fun z => n ((own c).mp z), fun c o h e n => g.nw c o h e fun z => n ((own c).mp z), fun c h => .inl h, g.dm⟩ S'.sub e4 e5 r'
      · cases he
    unfold runIO at e
    rw [if_pos hl] at e
    split at e
    · rename_i d' ρ' k1
      exact t2 _ _ k1 G _ H _ S0 fun v σ' G' H' g S' r' => fin g S' r' e
    · rename_i ρ' k1
      exact t2 _ _ k1 G _ H _ S0 fun σ' G' H' g S' => fin g S' (rp_non.mpr rfl) e
    · cases e
end

/-! ### calls -/
section
variable {ι : Type} {F : Fm ι} {K : Kx}
theorem Go.grow {G H G' H' : Hp} {O : Addr → Prop} (g : Go G H NoA G' H' NoA) : Go G H O G' H' O :=
  ⟨g.gg, fun b o h _ => g.hh b o h id, fun b o h e _ => g.nw b o h e id, fun _ h => .inl h, g.dm⟩
theorem Sx.grow {G H G' H' : Hp} {σ : L2.St} {ρ : Rho} (S : Sx K G σ H ρ) (g : Go G H NoA G' H' NoA) (s : Same G' H') : Sx K G' σ H' ρ := by
  refine ⟨s, S.len, fun i sl e => ?_, S.apart⟩
  obtain ⟨o, e1, h⟩ := S.at_ i sl e
  refine ⟨o, e1, ?_⟩
  cases sl with
  | no => trivial
  | sh d =>
    obtain ⟨v, e2, r⟩ := h
    exact ⟨v, e2, r.mono g.gg⟩
  | ow t d =>
    obtain ⟨a, e2, e3, e4, e5⟩ := h
    obtain ⟨u, hu⟩ := e5.there
    exact ⟨a, e2, e3, g.nw a u hu e4 id, e5.mono g.gg ((g.hh a u hu id).trans hu.symm)⟩
theorem ev_callD {n : Nat} {Φ : List D → Option D} {t : TA} {φ : DenL} (h : EvA K t φ) (hn : ∀ ds d, Φ ds = some d → ds.length = n) : Ev K (tCall (spD K n Φ) [] E0 t) (dC Φ φ) := by
  intro ρ d ρ' e G σ H Q S q
  unfold dC at e
  split at e
  · rename_i xs ρ1 h1
    split at e
    · rename_i z h3
      cases e
      refine h ρ xs ρ' h1 G σ H _ S fun vs G1 H1 g1 S1 r1 => ?_
      rw [List.append_nil]
      exact ⟨G1, xs, d, hn _ _ h3, S1.sub, r1, h3, fun v G2 H2 g2 s2 r2 => q v G2 H2 (g1.trans g2.grow) (S1.grow g2 s2) r2⟩
    · cases e
  · cases e
theorem ev_callN {n : Nat} {Φ : List D → Option D} {t : TA} {φ : DenL} (h : EvA K t φ) (hn : ∀ ds d, Φ ds = some d → ds.length = n) : EvO K (tCall (spN K n Φ) [] E0 t) (dC Φ φ) := by
  intro ρ d ρ' e G σ H Q S q
  unfold dC at e
  split at e
  · rename_i xs ρ1 h1
    split at e
    · rename_i z h3
      cases e
      refine h ρ xs ρ' h1 G σ H _ S fun vs G1 H1 g1 S1 r1 => ?_
      rw [List.append_nil]
      refine ⟨G1, xs, d, hn _ _ h3, S1.sub, r1, h3, fun a G2 H2 g2 s2 n1 n2 o => q a G2 H2 (g1.trans g2.grow) (S1.grow g2 s2) (g1.fresh n1) n2 o fun z => ?_⟩
      obtain ⟨u, hu⟩ := S1.ow_there _ z
      rw [n1] at hu; cases hu
    · cases e
  · cases e
theorem runD_len {nN n : Nat} {φ : DenS} : ∀ ds d, runD nN n φ ds = some d → ds.length = n := by
  intro ds d h
  unfold runD at h
  split at h
  · assumption
  · cases h
theorem runN_len {nN n : Nat} {φ : DenS} : ∀ ds d, runN nN n φ ds = some d → ds.length = n := by
  intro ds d h
  unfold runN at h
  split at h
  · assumption
  · cases h
theorem runIO_len {nN n : Nat} {φ : DenS} : ∀ io ds d, runIO nN n φ io ds = some d → ds.length = n := by
  intro io ds d h
  unfold runIO at h
  split at h
  · assumption
  · cases h
theorem de_call {x : Str} {p pos : Pos} {e : Expr} {es : List Expr} {k : Nat} {f : Addr} {fd : FuncData} {ps : List Str} {n : Nat} {Φ : List D → Option D} {φ : DenL} (C : FnOk F.P F.w F.K F.mg F.base CX0 k f fd ps (spD F.K n Φ)) (hk : k ≤ F.k) (hn : ∀ ds d, Φ ds = some d → ds.length = n)
    (hg : ∀ i, Gl (F.X i) x) (hm : F.mg x = some (.ref f)) (kp : PySem.W.keepIn F.K (.ref f) = true) (hb : Binds F.K fd ps []) (ha : DA F (e :: es) φ)
    (hdb : (x == ("__debug__" : Str)) = false := by decide) (he : ∀ i, starEach (e :: es) (F.X i).env = (false, eval e (F.X i).env) :: starEach es (F.X i).env := by intro _; rfl) (hpl : ∀ i, (backTo pos (starEach es (F.X i).env)).any (·.1) = false := by intro _; rfl) :
    DE F (.Call (.Name x p) (e :: es) [] pos) (dC Φ φ) := by
  obtain ⟨t, h1, h2⟩ := ha.ex
  refine ⟨tCall (spD F.K n Φ) [] E0 t, fun i => ?_, ev_callD h2 hn⟩
  exact pe_call (X := F.X i) (k := k) (f := f) (fd := fd) (ps := ps) (by rw [F.hP i, F.hw i, F.hK i, F.hmg i, F.hb i]; exact C) ((F.room i).mono hk) (hg i) (by rw [F.hmg i]; exact hm) (by rw [F.hK i]; exact kp) (by rw [F.hK i]; exact hb) .nil pass0 (h1 i) hdb (he i) (hpl i)
theorem do_call {x : Str} {p pos : Pos} {e : Expr} {es : List Expr} {k : Nat} {f : Addr} {fd : FuncData} {ps : List Str} {n : Nat} {Φ : List D → Option D} {φ : DenL} (C : FnOk F.P F.w F.K F.mg F.base CX0 k f fd ps (spN F.K n Φ)) (hk : k ≤ F.k) (hn : ∀ ds d, Φ ds = some d → ds.length = n)
    (hg : ∀ i, Gl (F.X i) x) (hm : F.mg x = some (.ref f)) (kp : PySem.W.keepIn F.K (.ref f) = true) (hb : Binds F.K fd ps []) (ha : DA F (e :: es) φ)
    (hdb : (x == ("__debug__" : Str)) = false := by decide) (he : ∀ i, starEach (e :: es) (F.X i).env = (false, eval e (F.X i).env) :: starEach es (F.X i).env := by intro _; rfl) (hpl : ∀ i, (backTo pos (starEach es (F.X i).env)).any (·.1) = false := by intro _; rfl) :
    DO F (.Call (.Name x p) (e :: es) [] pos) (dC Φ φ) := by
  obtain ⟨t, h1, h2⟩ := ha.ex
  refine ⟨tCall (spN F.K n Φ) [] E0 t, fun i => ?_, ev_callN h2 hn⟩
  exact pe_call (X := F.X i) (k := k) (f := f) (fd := fd) (ps := ps) (by rw [F.hP i, F.hw i, F.hK i, F.hmg i, F.hb i]; exact C) ((F.room i).mono hk) (hg i) (by rw [F.hmg i]; exact hm) (by rw [F.hK i]; exact kp) (by rw [F.hK i]; exact hb) .nil pass0 (h1 i) hdb (he i) (hpl i)

/-- the own object at slot i has changed -/
theorem Sx.change {G H G' H' : Hp} {σ : L2.St} {ρ : Rho} {i : Nat} {t : Bool} {a : Addr} {d d' : D} (S : Sx K G σ H ρ) (e : ρ[i]? = some (.ow t d)) (ea : σ[i]? = some (some (.ref a))) (g : Go G H (· = a) G' H' (· = a)) (s : Same G' H') (ga : G' a = none) (o : Own K G' H' a d') :
    Go G H (OwA σ ρ) G' H' (OwA σ (ρ.set i (.ow t d'))) ∧ Sx K G' σ H' (ρ.set i (.ow t d')) := by
  have hi : i < ρ.length := (List.getElem?_eq_some_iff.mp e).1
  have oa : OwA σ ρ a := ⟨i, t, d, e, ea⟩
  have less : ∀ (j : Nat) (b : Addr), Ows σ (ρ.set i (.ow t d')) j b → Ows σ ρ j b := by
    rintro j b ⟨t', d2, h1, h2⟩
    by_cases hj : j = i
    · subst hj
      rw [ea] at h2; cases h2
      exact ⟨t, d, e, ea⟩
    · rw [List.getElem?_set_ne (Ne.symm hj)] at h1
      exact ⟨t', d2, h1, h2⟩
  refine ⟨⟨g.gg, fun b u h n => g.hh b u h fun z => n (z ▸ oa), fun b u h e n => g.nw b u h e fun z => n (z ▸ oa), fun b ⟨j, h⟩ => .inl ⟨j, less j b h⟩, g.dm⟩, ⟨s, by rw [List.length_set]; exact S.len, fun j sl h => ?_, fun j k b h1 h2 => S.apart j k b (less j b h1) (less k b h2)⟩⟩
  by_cases hj : j = i
  · subst hj
    rw [List.getElem?_set_self hi] at h; cases h
    obtain ⟨o', e1, b, e2, e3, _, _⟩ := S.at_ j _ e
    rw [ea] at e1; cases e1; cases e2
    exact ⟨_, ea, a, rfl, e3, ga, o⟩
  · rw [List.getElem?_set_ne (Ne.symm hj)] at h
    obtain ⟨o', e1, h1⟩ := S.at_ j sl h
    refine ⟨o', e1, ?_⟩
    cases sl with
    | no => trivial
    | sh d =>
      obtain ⟨v, e2, r⟩ := h1
      exact ⟨v, e2, r.mono g.gg⟩
    | ow t' d2 =>
      obtain ⟨b, e2, e3, e4, e5⟩ := h1
      obtain ⟨u, hu⟩ := e5.there
      have nb : b ≠ a := fun z => hj (S.apart j i a ⟨t', d2, h, by rw [e1, e2, z]⟩ ⟨t, d, e, ea⟩)
      exact ⟨b, e2, e3, g.nw b u hu e4 nb, e5.mono g.gg ((g.hh b u hu nb).trans hu.symm)⟩
def dCio (i : Nat) (Φ : D → List D → Option (D × D)) (φ : DenL) : Den := fun ρ => match ρ[i]? with
  | some (.ow _ _) => (match φ ρ with
    | some (ds, ρ1) => (match ρ1[i]? with
      | some (.ow t io) => (match Φ io ds with
        | some (d, io') => some (d, ρ1.set i (.ow t io'))
        | none => none)
      | _ => none)
    | none => none)
  | _ => none
/-- f(x, ..), x the name at slot i, whose object f may change -/
theorem de_callIO (i : Nat) {x y : Str} {p py pos : Pos} {es : List Expr} {k : Nat} {f : Addr} {fd : FuncData} {ps : List Str} {n : Nat} {Φ : D → List D → Option (D × D)} {φ : DenL} (C : FnOk F.P F.w F.K F.mg F.base CX0 k f fd ps (spIO F.K n Φ)) (hk : k ≤ F.k) (hn : ∀ io ds d, Φ io ds = some d → ds.length = n)
    (hg : ∀ i, Gl (F.X i) x) (hm : F.mg x = some (.ref f)) (kp : PySem.W.keepIn F.K (.ref f) = true) (hb : Binds F.K fd ps []) (hN : F.N[i]? = some y) (hv : ∀ j, Vis (F.X j).env.scope y) (ha : DA F es φ)
    (hdb : (x == ("__debug__" : Str)) = false := by decide) (hdy : (y == ("__debug__" : Str)) = false := by decide) (hcd : (y == ("__classdict__" : Str)) = false := by decide)
    (he : ∀ i, starEach (.Name y py :: es) (F.X i).env = (false, eval (.Name y py) (F.X i).env) :: starEach es (F.X i).env := by intro _; rfl) (hpl : ∀ i, (backTo pos (starEach es (F.X i).env)).any (·.1) = false := by intro _; rfl) :
    DE F (.Call (.Name x p) (.Name y py :: es) [] pos) (dCio i Φ φ) := by
  obtain ⟨t, h1, h2⟩ := ha.ex
  refine ⟨tCall (spIO F.K n Φ) [] E0 (tCons (tVar i) t), fun j => ?_, ?_⟩
  · exact pe_call (X := F.X j) (k := k) (f := f) (fd := fd) (ps := ps) (by rw [F.hP j, F.hw j, F.hK j, F.hmg j, F.hb j]; exact C) ((F.room j).mono hk) (hg j) (by rw [F.hmg j]; exact hm) (by rw [F.hK j]; exact kp) (by rw [F.hK j]; exact hb) .nil pass0
      (pa_cons (pe_var (by rw [F.hN j]; exact hN) (hv j) hdy hcd) (h1 j) (he j)) hdb (he j) (hpl j)
  · intro ρ d ρ' e G σ H Q S q
    unfold dCio at e
    split at e
    · rename_i t0 d0 e0
      obtain ⟨o, ea, a, rfl, _⟩ := S.at_ i _ e0
      split at e
      · rename_i ds ρ1 k1
        split at e
        · rename_i t1 io e1
          split at e
          · rename_i d' io' k2
            cases e
            refine ⟨.ref a, ea, ?_⟩
            refine h2 ρ ds ρ1 k1 G σ H _ S fun vs G1 H1 g1 S1 r1 => ?_
            show spIO F.K.K n Φ ((V.ref a :: vs) ++ []) H1 Q E0
            rw [List.append_nil]
            obtain ⟨o', ea', b, eb, _, ga, ho⟩ := S1.at_ i _ e1
            rw [ea] at ea'; cases ea'; cases eb
            refine ⟨G1, a, vs, io, ds, d, io', rfl, hn _ _ _ k2, S1.sub, ga, ho, r1, k2, fun v G2 H2 g2 s2 n2 o2 r2 => ?_⟩
            obtain ⟨g3, S3⟩ := S1.change e1 ea g2 s2 n2 o2
            exact q v G2 H2 (g1.trans g3) S3 r2
          · cases e
        · cases e
      · cases e
    · cases e

/-! ### x.append(e), x.extend(e) -/
theorem Go.write {G H : Hp} {a : Addr} {o u : HO} (s : Same G H) (ha : H a = some u) (ga : G a = none) : Go G H (· = a) G (upd H a o) (· = a) ∧ Same G (upd H a o) := by
  refine ⟨⟨Same.refl _, fun b w h n => ?_, fun b w h e n => e, fun b h => .inl h, fun b w h => ?_⟩, fun b w h => ?_⟩
  · rw [upd_ne n]; exact h
  · by_cases z : b = a
    · exact ⟨o, by rw [z, upd_same]⟩
    · exact ⟨w, by rw [upd_ne z]; exact h⟩
  · rw [upd_ne (ne_of_none h ga)]; exact s b w h
def sApp (i : Nat) (φ : Den) : DenS := fun ρ => match ρ[i]? with
  | some (.ow _ (.lst _)) => (match φ ρ with
    | some (d, ρ1) => (match ρ1[i]? with
      | some (.ow t (.lst l)) => if l.length < 16777216 then some (.nx (ρ1.set i (.ow t (.lst (l ++ [d]))))) else none
      | _ => none)
    | none => none)
  | _ => none
def sExt (i : Nat) (φ : Den) : DenS := fun ρ => match ρ[i]? with
  | some (.ow _ (.lst _)) => (match φ ρ with
    | some (.lst m, ρ1) => (match ρ1[i]? with
      | some (.ow t (.lst l)) => if l.length + m.length ≤ 16777216 then some (.nx (ρ1.set i (.ow t (.lst (l ++ m))))) else none
      | _ => none)
    | _ => none)
  | _ => none
theorem tyL {K : PySem.W.Frag} {H : Hp} {a : Addr} {xs : List V} (h : H a = some (.lst xs)) : tyV K "list" (.ref a) H := Or.inl ⟨rfl, _, Or.inl (Or.inl h)⟩
theorem ds_append (i : Nat) {x : Str} {px pa pos ps : Pos} {e : Expr} {φ : Den} (hN : F.N[i]? = some x) (hv : ∀ j, Vis (F.X j).env.scope x) (h : DE F e φ) (hdy : (x == ("__debug__" : Str)) = false := by decide) (hcd : (x == ("__classdict__" : Str)) = false := by decide)
    (hbase : ∀ j, attributeBase (.Name x px) "append" (F.X j).env (eval (.Name x px) (F.X j).env) = eval (.Name x px) (F.X j).env := by intro _; rfl)
    (hfew : ∀ j, ((backTo pos (starEach (e :: []) (F.X j).env)).all (fun x => !x.1) && (backToKw pos (keywordEach [] (F.X j).env)).all (fun x => x.1.isSome)
      && decide ((e :: []).length + ([] : List Keyword).length + (if ([] : List Keyword).isEmpty then 0 else 1) < 30)) = true := by intro _; rfl)
    (hline : (pa.endLine == pos.line) = true := by rfl) (hse : ∀ j, starEach (e :: []) (F.X j).env = (false, eval e (F.X j).env) :: starEach [] (F.X j).env := by intro _; rfl) (hplain : ∀ j, (backTo pos (starEach [] (F.X j).env)).any (·.1) = false := by intro _; rfl)
    (hs : ∀ j, swapsWith (.Call (.Attribute (.Name x px) "append" pa) [e] [] pos) none ps.line (F.X j).env = pure false := by intro _; rfl) :
    DS F (.Expr (.Call (.Attribute (.Name x px) "append" pa) [e] [] pos) ps) (sApp i φ) := by
  obtain ⟨t, h1, h2⟩ := h.ex
  refine ⟨tDrop (tBM F.K "list" rAppend (tVar i) (tCons t tNil)), fun j => ?_, ?_⟩
  · have := ps_expr (pos := ps) (pe_bm (cpos := pos) (apos := pa) PySem.F.plainAttrs_list PySem.F.slot_list_append PySem.F.type_list_append mt_append (pe_var (pos := px) (X := F.X j) (by rw [F.hN j]; exact hN) (hv j) hdy hcd) (pa_cons (h1 j) pa_nil (hse j)) (hbase j) (hfew j) hline (hse j) (hplain j)) (hs j)
    rw [F.hK j] at this
    exact this
  · intro ρ o e G σ H E S q
    unfold sApp at e
    split at e
    · rename_i t0 l0 e0
      obtain ⟨o', ea, a, rfl, _, _, ho0⟩ := S.at_ i _ e0
      obtain ⟨vs0, hv0, _⟩ := ho0
      split at e
      · rename_i d ρ1 k1
        split at e
        · rename_i t1 l e1
          split at e
          · rename_i hl
            cases e
            refine ⟨.ref a, ea, tyL hv0, ?_⟩
            refine h2 ρ d ρ1 k1 G σ H _ S fun v G1 H1 g1 S1 r1 => ?_
            obtain ⟨o', ea', b, eb, _, ga, ho⟩ := S1.at_ i _ e1
            rw [ea] at ea'; cases ea'; cases eb
            obtain ⟨vs, hv1, rl⟩ := ho
            refine ⟨a, vs, v, rfl, rfl, hv1, by rw [rpl_len rl, sizeLine_eq]; exact hl, ?_⟩
            obtain ⟨gw, sw⟩ := Go.write (o := .lst (vs ++ [v])) S1.sub hv1 ga
            obtain ⟨g3, S3⟩ := S1.change e1 ea gw sw ga (d' := .lst (l ++ [d])) ⟨_, upd_same, rpl_app rl (rpl_one r1)⟩
            exact q σ G1 _ (g1.trans g3) S3
          · cases e
        · cases e
      · cases e
    · cases e
theorem ds_extend (i : Nat) {x : Str} {px pa pos ps : Pos} {e : Expr} {φ : Den} (hN : F.N[i]? = some x) (hv : ∀ j, Vis (F.X j).env.scope x) (h : DE F e φ) (hdy : (x == ("__debug__" : Str)) = false := by decide) (hcd : (x == ("__classdict__" : Str)) = false := by decide)
    (hbase : ∀ j, attributeBase (.Name x px) "extend" (F.X j).env (eval (.Name x px) (F.X j).env) = eval (.Name x px) (F.X j).env := by intro _; rfl)
    (hfew : ∀ j, ((backTo pos (starEach (e :: []) (F.X j).env)).all (fun x => !x.1) && (backToKw pos (keywordEach [] (F.X j).env)).all (fun x => x.1.isSome)
      && decide ((e :: []).length + ([] : List Keyword).length + (if ([] : List Keyword).isEmpty then 0 else 1) < 30)) = true := by intro _; rfl)
    (hline : (pa.endLine == pos.line) = true := by rfl) (hse : ∀ j, starEach (e :: []) (F.X j).env = (false, eval e (F.X j).env) :: starEach [] (F.X j).env := by intro _; rfl) (hplain : ∀ j, (backTo pos (starEach [] (F.X j).env)).any (·.1) = false := by intro _; rfl)
    (hs : ∀ j, swapsWith (.Call (.Attribute (.Name x px) "extend" pa) [e] [] pos) none ps.line (F.X j).env = pure false := by intro _; rfl) :
    DS F (.Expr (.Call (.Attribute (.Name x px) "extend" pa) [e] [] pos) ps) (sExt i φ) := by
  obtain ⟨t, h1, h2⟩ := h.ex
  refine ⟨tDrop (tBM F.K "list" rExtend (tVar i) (tCons t tNil)), fun j => ?_, ?_⟩
  · have := ps_expr (pos := ps) (pe_bm (cpos := pos) (apos := pa) PySem.F.plainAttrs_list PySem.F.slot_list_extend PySem.F.type_list_extend mt_extend (pe_var (pos := px) (X := F.X j) (by rw [F.hN j]; exact hN) (hv j) hdy hcd) (pa_cons (h1 j) pa_nil (hse j)) (hbase j) (hfew j) hline (hse j) (hplain j)) (hs j)
    rw [F.hK j] at this
    exact this
  · intro ρ o e G σ H E S q
    unfold sExt at e
    split at e
    · rename_i t0 l0 e0
      obtain ⟨o', ea, a, rfl, _, _, ho0⟩ := S.at_ i _ e0
      obtain ⟨vs0, hv0, _⟩ := ho0
      split at e
      · rename_i m ρ1 k1
        split at e
        · rename_i t1 l e1
          split at e
          · rename_i hl
            cases e
            refine ⟨.ref a, ea, tyL hv0, ?_⟩
            refine h2 ρ _ ρ1 k1 G σ H _ S fun v G1 H1 g1 S1 r1 => ?_
            obtain ⟨o', ea', b, eb, _, ga, ho⟩ := S1.at_ i _ e1
            rw [ea] at ea'; cases ea'; cases eb
            obtain ⟨vs, hv1, rl⟩ := ho
            obtain ⟨b, us, rfl, hb, rm⟩ := rp_lst.mp r1
            refine ⟨a, b, vs, us, rfl, rfl, hv1, S1.sub _ _ hb, by rw [rpl_len rl, rpl_len rm, sizeLine_eq]; exact hl, ?_⟩
            obtain ⟨gw, sw⟩ := Go.write (o := .lst (vs ++ us)) S1.sub hv1 ga
            obtain ⟨g3, S3⟩ := S1.change e1 ea gw sw ga (d' := .lst (l ++ m)) ⟨_, upd_same, rpl_app rl rm⟩
            exact q σ G1 _ (g1.trans g3) S3
          · cases e
        · cases e
      · cases e
    · cases e
end
end DL

/-! Operators and built-ins over data. -/
namespace DL
open PySem PySem.Spec PyProof.Rows L2

/-! ### two readings of one piece: the data say which -/
section
variable {ι : Type} {F : Fm ι} {K : Kx}
theorem pe_or2 {X : Cx} {e : Expr} {t u : TE} (h : PE X e t) (h' : PE X e u) : PE X e (fun σ H Q => t σ H Q ∨ u σ H Q) :=
  ⟨fun pins s σ H Q I q => q.elim (h.run pins s σ H Q I) (h'.run pins s σ H Q I)⟩
theorem pi_or2 {X : Cx} {tg e : Expr} {t u : TI} (h : PI X tg e t) (h' : PI X tg e u) : PI X tg e (fun σ H Q => t σ H Q ∨ u σ H Q) :=
  ⟨fun pins s σ H Q I q => q.elim (h.run pins s σ H Q I) (h'.run pins s σ H Q I)⟩
/-- the first that says something -/
def dAlt {α : Type} (φ ψ : Rho → Option α) : Rho → Option α := fun ρ => match φ ρ with
  | some z => some z
  | none => ψ ρ
theorem de_alt {e : Expr} {φ ψ : Den} (h : DE F e φ) (h' : DE F e ψ) : DE F e (dAlt φ ψ) := by
  obtain ⟨t, h1, h2⟩ := h.ex
  obtain ⟨u, k1, k2⟩ := h'.ex
  refine ⟨_, fun i => pe_or2 (h1 i) (k1 i), ?_⟩
  intro ρ d ρ' e G σ H Q S q
  unfold dAlt at e
  split at e
  · rename_i z hz
    cases e
    exact .inl (h2 ρ d ρ' hz G σ H Q S q)
  · exact .inr (k2 ρ d ρ' e G σ H Q S q)
theorem di_alt {tg e : Expr} {φ ψ : DenL} (h : DI F tg e φ) (h' : DI F tg e ψ) : DI F tg e (dAlt φ ψ) := by
  obtain ⟨t, h1, h2⟩ := h.ex
  obtain ⟨u, k1, k2⟩ := h'.ex
  refine ⟨_, fun i => pi_or2 (h1 i) (k1 i), ?_⟩
  intro ρ d ρ' e G σ H Q S q
  unfold dAlt at e
  split at e
  · rename_i z hz
    cases e
    exact .inl (h2 ρ d ρ' hz G σ H Q S q)
  · exact .inr (k2 ρ d ρ' e G σ H Q S q)
theorem dAlt_dL {f g : D → Option (List D)} {φ : Den} : dAlt (dL f φ) (dL g φ) = dL (fun d => match f d with | some z => some z | none => g d) φ := by
  funext ρ
  unfold dAlt dL
  cases h : φ ρ with
  | none => rfl
  | some p =>
    obtain ⟨d, ρ1⟩ := p
    dsimp only
    cases f d with
    | none => rfl
    | some z => rfl
/-- a list, a tuple or a text, walked -/
def seqD : D → Option (List D)
  | .lst l => some l
  | .scr l => some (l.map .int)
  | .tup l => some l
  | .str s => some (s.map fun c => .str [c])
  | _ => none
theorem di_seq {tg e : Expr} {φ : Den} (h : DE F e φ) : DI F tg e (dL seqD φ) := by
  have h1 := di_alt (di_list (tg := tg) h) (di_alt (di_tup (tg := tg) h) (di_str (tg := tg) h))
  rw [dAlt_dL, dAlt_dL] at h1
  have e : (fun d => match lstD d with | some z => some z | none => (match tupD d with | some z => some z | none => strD d)) = seqD := by
    funext d
    cases d <;> rfl
  rw [e] at h1
  exact h1
end

/-! ### operators by values -/
section
variable {K : Kx}
/-- what is told of scalars alone -/
theorem evr_of {r : R2} {f : D → D → Option D} (h : ∀ x y dx dy d, f dx dy = some d → ∀ (G H : Hp) (Q : VK), Same G H → Rp K G x dx → Rp K G y dy → (∀ v, Rp K G v d → Q v H) → r x y H Q) : EvR K r f := by
  intro x y dx dy d e G σ H ρ Q S rx ry q
  exact h x y dx dy d e G H Q S.sub rx ry fun v rv => q v G H (Go.refl _) S rv
theorem evr_or {r r' : R2} {f g : D → D → Option D} (h : EvR K r f) (h' : EvR K r' g) : EvR K (fun x y H Q => r x y H Q ∨ r' x y H Q) (fun x y => match f x y with | some z => some z | none => g x y) := by
  intro x y dx dy d e G σ H ρ Q S rx ry q
  dsimp only at e
  split at e
  · rename_i z hz
    cases e
    exact .inl (h x y dx dy d hz G σ H ρ Q S rx ry q)
  · exact .inr (h' x y dx dy d e G σ H ρ Q S rx ry q)
def addI : D → D → Option D
  | .int i, .int j => some (.int (i + j))
  | _, _ => none
def addS : D → D → Option D
  | .str s, .str t => if s.length + t.length ≤ 16777216 then some (.str (s ++ t)) else none
  | _, _ => none
def addL : D → D → Option D
  | .lst s, .lst t => if s.length + t.length ≤ 16777216 then some (.lst (s ++ t)) else none
  | _, _ => none
theorem S_len (s : Tx) : (S s).length = s.length := by unfold S Str.length; simp
theorem S_app (s t : Tx) : S s ++ S t = S (s ++ t) := by
  show Str.mk _ = _
  unfold S
  simp
theorem er_addI : EvR K (rI0 fun i j => .int (i + j)) addI := evr_of fun x y dx dy d e G H Q _ rx ry q => by
  unfold addI at e
  split at e
  · cases e
    exact ⟨_, _, rp_int.mp rx, rp_int.mp ry, q _ (rp_int.mpr rfl)⟩
  · cases e
theorem er_addS : EvR K (fun x y H Q => ∃ i j, x = .str i ∧ y = .str j ∧ i.length + j.length ≤ sizeLine ∧ Q (.str (i ++ j)) H) addS := evr_of fun x y dx dy d e G H Q _ rx ry q => by
  unfold addS at e
  split at e
  · split at e
    · rename_i hl
      cases e
      exact ⟨_, _, rp_str.mp rx, rp_str.mp ry, by rw [S_len, S_len]; exact line_le hl, q _ (rp_str.mpr (by rw [S_app]))⟩
    · cases e
  · cases e
theorem ero_addL : EvRO K rCat addL := by
  intro x y dx dy d e G σ H ρ Q S rx ry q
  unfold addL at e
  split at e
  · split at e
    · rename_i hl
      cases e
      obtain ⟨a, vs, rfl, ha, ra⟩ := rp_lst.mp rx
      obtain ⟨b, us, rfl, hb, rb⟩ := rp_lst.mp ry
      exact ⟨a, b, vs, us, rfl, rfl, S.sub _ _ ha, S.sub _ _ hb, by rw [rpl_len ra, rpl_len rb]; exact line_le hl, newO_lst (Q := fun a H' => Q (.ref a) H') S (rpl_app ra rb) q⟩
    · cases e
  · cases e
end
section
variable {ι : Type} {F : Fm ι} {K : Kx}
/-- + of ints, texts, lists -/
def dAdd (φ ψ : Den) : Den := dAlt (d2 addI φ ψ) (dAlt (d2 addS φ ψ) (d2 addL φ ψ))
theorem de_add {a b : Expr} {φ ψ : Den} {pos : Pos} (ha : DE F a φ) (hb : DE F b ψ) : DE F (.BinOp a .Add b pos) (dAdd φ ψ) :=
  de_alt (de_op (fun _ => op_add) er_addI ha hb) (de_alt (de_op (fun _ => op_add_str) er_addS ha hb) (do_op (fun _ => op_cat) ero_addL ha hb).de)
theorem do_addL {a b : Expr} {φ ψ : Den} {pos : Pos} (ha : DE F a φ) (hb : DE F b ψ) : DO F (.BinOp a .Add b pos) (d2 addL φ ψ) := do_op (fun _ => op_cat) ero_addL ha hb
def subI : D → D → Option D
  | .int i, .int j => some (.int (i - j))
  | _, _ => none
theorem er_subI : EvR K (rI0 fun i j => .int (i - j)) subI := evr_of fun x y dx dy d e G H Q _ rx ry q => by
  unfold subI at e
  split at e
  · cases e
    exact ⟨_, _, rp_int.mp rx, rp_int.mp ry, q _ (rp_int.mpr rfl)⟩
  · cases e
theorem de_sub {a b : Expr} {φ ψ : Den} {pos : Pos} (ha : DE F a φ) (hb : DE F b ψ) : DE F (.BinOp a .Sub b pos) (d2 subI φ ψ) := de_op (fun _ => op_sub) er_subI ha hb
/-- * of ints (together below 900,000 bits) -/
def mulI : D → D → Option D
  | .int i, .int j => if i.natAbs.log2 + j.natAbs.log2 ≤ 900000 then some (.int (i * j)) else none
  | _, _ => none
def modI : D → D → Option D
  | .int i, .int j => if 0 < j then some (.int (i % j)) else none
  | _, _ => none
theorem er_modI : EvR K (rI (fun _ j => 0 < j) fun i j => .int (i % j)) modI := evr_of fun x y dx dy d e G H Q _ rx ry q => by
  unfold modI at e
  split at e
  · split at e
    · rename_i hj
      cases e
      exact ⟨_, _, rp_int.mp rx, rp_int.mp ry, hj, q _ (rp_int.mpr rfl)⟩
    · cases e
  · cases e
theorem de_mod {a b : Expr} {φ ψ : Den} {pos : Pos} (ha : DE F a φ) (hb : DE F b ψ) : DE F (.BinOp a .Mod b pos) (d2 modI φ ψ) := de_op (fun _ => op_mod) er_modI ha hb
def divI : D → D → Option D
  | .int i, .int j => if 0 < j ∧ j < 1073741824 then some (.int (i / j)) else none
  | _, _ => none
theorem er_divI : EvR K (rI CDiv fun i j => .int (i / j)) divI := evr_of fun x y dx dy d e G H Q _ rx ry q => by
  unfold divI at e
  split at e
  · split at e
    · rename_i hj
      cases e
      exact ⟨_, _, rp_int.mp rx, rp_int.mp ry, hj, q _ (rp_int.mpr rfl)⟩
    · cases e
  · cases e
theorem de_div {a b : Expr} {φ ψ : Den} {pos : Pos} (ha : DE F a φ) (hb : DE F b ψ) : DE F (.BinOp a .FloorDiv b pos) (d2 divI φ ψ) := de_op (fun _ => op_fdiv) er_divI ha hb
/-- a list so many times -/
def repL : D → D → Option D
  | .lst l, .int k => if k < 2 ^ 63 ∧ -(2 ^ 63) ≤ k ∧ l.length * k.toNat ≤ 16777216 then some (.lst (List.replicate k.toNat l).flatten) else none
  | _, _ => none
end

/-! ### comparisons -/
mutual
def toPy : D → Option PyData
  | .non => some .none
  | .bl b => some (.bool b)
  | .int i => some (.int i)
  | .str s => some (.str (S s))
  | .lst l => match toPys l with | some z => some (.list z) | none => none
  | .tup l => match toPys l with | some z => some (.tuple z) | none => none
  | .scr l => some (.list (l.map .int))
  | .dk _ => none
  | .dt _ => none
def toPys : List D → Option (List PyData)
  | [] => some []
  | d :: ds => match toPy d with
    | some z => (match toPys ds with | some zs => some (z :: zs) | none => none)
    | none => none
end
section
variable {K : PySem.W.Frag} {G H : Hp}
theorem dp_ints {K : PySem.W.Frag} {H : Hp} : ∀ l : List Int, DpAll K H (l.map V.int) (l.map PyData.int)
  | [] => .nil
  | i :: l => .cons (.int i) (dp_ints l)
mutual
theorem dp_of (s : Same G H) : ∀ (d : D) (v : V) (p : PyData), Rp K G v d → toPy d = some p → Dp K H v p
  | .non, v, p, r, e => by rw [rp_non.mp r]; unfold toPy at e; cases e; exact .non
  | .bl b, v, p, r, e => by rw [rp_bl.mp r]; unfold toPy at e; cases e; exact .bl b
  | .int b, v, p, r, e => by rw [rp_int.mp r]; unfold toPy at e; cases e; exact .int b
  | .str b, v, p, r, e => by rw [rp_str.mp r]; unfold toPy at e; cases e; exact .str _
  | .lst l, v, p, r, e => by
    obtain ⟨a, vs, rfl, ha, rl⟩ := rp_lst.mp r
    unfold toPy at e
    split at e
    · rename_i z hz
      cases e
      exact .lst (.inl (.inl (s _ _ ha))) (dps_of s l vs z rl hz)
    · cases e
  | .tup l, v, p, r, e => by
    obtain ⟨a, vs, rfl, ha, rl⟩ := rp_tup.mp r
    unfold toPy at e
    split at e
    · rename_i z hz
      cases e
      exact .tup (SqT.mono s ha) (dps_of s l vs z rl hz)
    · cases e
  | .scr l, v, p, r, e => by
    obtain ⟨a, rfl, ha⟩ := rp_scr.mp r
    unfold toPy at e
    cases e
    exact .lst (SqL.mono s ha) (dp_ints l)
  | .dk _, _, _, _, e => by unfold toPy at e; cases e
  | .dt _, _, _, _, e => by unfold toPy at e; cases e
theorem dps_of (s : Same G H) : ∀ (ds : List D) (vs : List V) (ps : List PyData), RpL K G vs ds → toPys ds = some ps → DpAll K H vs ps
  | [], vs, ps, r, e => by rw [rpl_nil.mp r]; unfold toPys at e; cases e; exact .nil
  | d :: ds, vs, ps, r, e => by
    obtain ⟨v, vr, rfl, r1, r2⟩ := rpl_cons.mp r
    unfold toPys at e
    split at e
    · rename_i z hz
      split at e
      · rename_i zs hzs
        cases e
        exact .cons (dp_of s d v z r1 hz) (dps_of s ds vr zs r2 hzs)
      · cases e
    · cases e
end
end
def eqD (x y : D) : Option D := match toPy x, toPy y with
  | some p, some q => if SeqAt.shaped p = true ∧ SeqAt.shaped q = true then some (.bl (PyData.eqv p q)) else none
  | _, _ => none
def neD (x y : D) : Option D := match toPy x, toPy y with
  | some p, some q => if SeqAt.shaped p = true ∧ SeqAt.shaped q = true then some (.bl (!PyData.eqv p q)) else none
  | _, _ => none
section
variable {ι : Type} {F : Fm ι} {K : Kx}
theorem er_eqD : EvR K (rEqD K) eqD := evr_of fun x y dx dy d e G H Q s rx ry q => by
  unfold eqD at e
  split at e
  · rename_i p p' h1 h2
    split at e
    · rename_i hs
      cases e
      exact ⟨p, p', dp_of s _ _ _ rx h1, dp_of s _ _ _ ry h2, hs.1, hs.2, q _ (rp_bl.mpr rfl)⟩
    · cases e
  · cases e
theorem er_neD : EvR K (rNeD K) neD := evr_of fun x y dx dy d e G H Q s rx ry q => by
  unfold neD at e
  split at e
  · rename_i p p' h1 h2
    split at e
    · rename_i hs
      cases e
      exact ⟨p, p', dp_of s _ _ _ rx h1, dp_of s _ _ _ ry h2, hs.1, hs.2, q _ (rp_bl.mpr rfl)⟩
    · cases e
  · cases e
theorem Fm.u64 (F : Fm ι) (i : ι) : (F.X i).A.units + 64 < cLine := (F.room i).units
theorem op_eqF (i : ι) : OpR (F.X i) (compareOp .Eq) (rEqD F.K) := by have := op_eqD (F.u64 i); rw [F.hK i] at this; exact this
theorem op_neF (i : ι) : OpR (F.X i) (compareOp .NotEq) (rNeD F.K) := by have := op_neD (F.u64 i); rw [F.hK i] at this; exact this
theorem de_eq {a b : Expr} {φ ψ : Den} {pos : Pos} (ha : DE F a φ) (hb : DE F b ψ) : DE F (.Compare a [.Eq] [b] pos) (d2 eqD φ ψ) := de_cmp op_eqF er_eqD ha hb
theorem de_ne {a b : Expr} {φ ψ : Den} {pos : Pos} (ha : DE F a φ) (hb : DE F b ψ) : DE F (.Compare a [.NotEq] [b] pos) (d2 neD φ ψ) := de_cmp op_neF er_neD ha hb
theorem dt_eq {a b : Expr} {φ ψ : Den} {pos : Pos} (ha : DE F a φ) (hb : DE F b ψ) : DT F (.Compare a [.Eq] [b] pos) (dBl (d2 eqD φ ψ)) := dt_cmp op_eqF er_eqD ha hb
theorem dt_ne {a b : Expr} {φ ψ : Den} {pos : Pos} (ha : DE F a φ) (hb : DE F b ψ) : DT F (.Compare a [.NotEq] [b] pos) (dBl (d2 neD φ ψ)) := dt_cmp op_neF er_neD ha hb
/-- < of ints and of texts; the others of ints -/
def ltD : D → D → Option D
  | .int i, .int j => some (.bl (decide (i < j)))
  | .str s, .str t => some (.bl (decide (s < t)))
  | _, _ => none
def leD : D → D → Option D
  | .int i, .int j => some (.bl (decide (i ≤ j)))
  | _, _ => none
def gtD : D → D → Option D
  | .int i, .int j => some (.bl (decide (j < i)))
  | _, _ => none
def geD : D → D → Option D
  | .int i, .int j => some (.bl (decide (j ≤ i)))
  | _, _ => none
theorem er_ltD : EvR K (fun x y H Q => rI0 (fun i j => .bl (decide (i < j))) x y H Q ∨ (∃ i j, x = .str i ∧ y = .str j ∧ Q (.bl (decide (i.cps.toList < j.cps.toList))) H)) ltD := evr_of fun x y dx dy d e G H Q s rx ry q => by
  unfold ltD at e
  split at e
  · cases e
    exact .inl ⟨_, _, rp_int.mp rx, rp_int.mp ry, q _ (rp_bl.mpr rfl)⟩
  · cases e
    exact .inr ⟨_, _, rp_str.mp rx, rp_str.mp ry, q _ (rp_bl.mpr (by unfold S; simp))⟩
  · cases e
theorem op_ltF (i : ι) : OpR (F.X i) (compareOp .Lt) (fun x y H Q => rI0 (fun i j => .bl (decide (i < j))) x y H Q ∨ (∃ i j, x = .str i ∧ y = .str j ∧ Q (.bl (decide (i.cps.toList < j.cps.toList))) H)) := op_lt.or op_lt_str
theorem er_leD : EvR K (rI0 fun i j => .bl (decide (i ≤ j))) leD := evr_of fun x y dx dy d e G H Q s rx ry q => by
  unfold leD at e
  split at e
  · cases e
    exact ⟨_, _, rp_int.mp rx, rp_int.mp ry, q _ (rp_bl.mpr rfl)⟩
  · cases e
theorem er_gtD : EvR K (rI0 fun i j => .bl (decide (j < i))) gtD := evr_of fun x y dx dy d e G H Q s rx ry q => by
  unfold gtD at e
  split at e
  · cases e
    exact ⟨_, _, rp_int.mp rx, rp_int.mp ry, q _ (rp_bl.mpr rfl)⟩
  · cases e
theorem er_geD : EvR K (rI0 fun i j => .bl (decide (j ≤ i))) geD := evr_of fun x y dx dy d e G H Q s rx ry q => by
  unfold geD at e
  split at e
  · cases e
    exact ⟨_, _, rp_int.mp rx, rp_int.mp ry, q _ (rp_bl.mpr rfl)⟩
  · cases e
theorem de_lt {a b : Expr} {φ ψ : Den} {pos : Pos} (ha : DE F a φ) (hb : DE F b ψ) : DE F (.Compare a [.Lt] [b] pos) (d2 ltD φ ψ) := de_cmp op_ltF er_ltD ha hb
theorem dt_lt {a b : Expr} {φ ψ : Den} {pos : Pos} (ha : DE F a φ) (hb : DE F b ψ) : DT F (.Compare a [.Lt] [b] pos) (dBl (d2 ltD φ ψ)) := dt_cmp op_ltF er_ltD ha hb
theorem de_le {a b : Expr} {φ ψ : Den} {pos : Pos} (ha : DE F a φ) (hb : DE F b ψ) : DE F (.Compare a [.LtE] [b] pos) (d2 leD φ ψ) := de_cmp (fun _ => op_le) er_leD ha hb
theorem dt_le {a b : Expr} {φ ψ : Den} {pos : Pos} (ha : DE F a φ) (hb : DE F b ψ) : DT F (.Compare a [.LtE] [b] pos) (dBl (d2 leD φ ψ)) := dt_cmp (fun _ => op_le) er_leD ha hb
theorem de_gt {a b : Expr} {φ ψ : Den} {pos : Pos} (ha : DE F a φ) (hb : DE F b ψ) : DE F (.Compare a [.Gt] [b] pos) (d2 gtD φ ψ) := de_cmp (fun _ => op_gt) er_gtD ha hb
theorem dt_gt {a b : Expr} {φ ψ : Den} {pos : Pos} (ha : DE F a φ) (hb : DE F b ψ) : DT F (.Compare a [.Gt] [b] pos) (dBl (d2 gtD φ ψ)) := dt_cmp (fun _ => op_gt) er_gtD ha hb
theorem de_ge {a b : Expr} {φ ψ : Den} {pos : Pos} (ha : DE F a φ) (hb : DE F b ψ) : DE F (.Compare a [.GtE] [b] pos) (d2 geD φ ψ) := de_cmp (fun _ => op_ge) er_geD ha hb
theorem dt_ge {a b : Expr} {φ ψ : Den} {pos : Pos} (ha : DE F a φ) (hb : DE F b ψ) : DT F (.Compare a [.GtE] [b] pos) (dBl (d2 geD φ ψ)) := dt_cmp (fun _ => op_ge) er_geD ha hb
theorem de_ltlt {a b c : Expr} {φ ψ χ : Den} {pos : Pos} (ha : DE F a φ) (hb : DE F b ψ) (hc : DE F c χ) (hm : lastMarks [.Lt, .Lt] [b, c] = false := by rfl) : DE F (.Compare a [.Lt, .Lt] [b, c] pos) (dChain ltD ltD φ ψ χ) := de_chain op_ltF er_ltD op_ltF er_ltD ha hb hc hm
theorem de_lele {a b c : Expr} {φ ψ χ : Den} {pos : Pos} (ha : DE F a φ) (hb : DE F b ψ) (hc : DE F c χ) (hm : lastMarks [.LtE, .LtE] [b, c] = false := by rfl) : DE F (.Compare a [.LtE, .LtE] [b, c] pos) (dChain leD leD φ ψ χ) := de_chain (fun _ => op_le) er_leD (fun _ => op_le) er_leD ha hb hc hm
theorem dt_lele {a b c : Expr} {φ ψ χ : Den} {pos : Pos} (ha : DE F a φ) (hb : DE F b ψ) (hc : DE F c χ) (hm : lastMarks [.LtE, .LtE] [b, c] = false := by rfl) : DT F (.Compare a [.LtE, .LtE] [b, c] pos) (dBl (dChain leD leD φ ψ χ)) := dt_chain (fun _ => op_le) er_leD (fun _ => op_le) er_leD ha hb hc hm
end

/-! ### subscripts, slices -/
def ixD : D → D → Option D
  | .lst l, .int i => atI l i
  | .tup l, .int i => atI l i
  | .scr l, .int i => (atI l i).map .int
  | .str s, .int i => if s.length ≤ 16777216 then (atI s i).map fun c => .str [c] else none
  | _, _ => none
theorem atI_map {α β : Type} (g : α → β) (l : List α) (i : Int) : atI (l.map g) i = (atI l i).map g := by
  unfold atI
  rw [List.length_map]
  cases ixN l.length i with
  | none => rfl
  | some j =>
    show (l.map g)[j]? = (l[j]?).map g
    rw [List.getElem?_map]
theorem rpl_atI {K : PySem.W.Frag} {G : Hp} {vs : List V} {ds : List D} {i : Int} {d : D} (r : RpL K G vs ds) (e : atI ds i = some d) : ∃ v, atI vs i = some v ∧ Rp K G v d := by
  unfold atI at e ⊢
  rw [rpl_len r]
  cases h : ixN ds.length i with
  | none => rw [h] at e; cases e
  | some j =>
    rw [h] at e
    exact rpl_get (i := j) r e
section
variable {ι : Type} {F : Fm ι} {K : Kx}
theorem er_ixD : EvR K (rIx K) ixD := evr_of fun x y dx dy d e G H Q s rx ry q => by
  unfold ixD at e
  split at e
  · rename_i l i
    obtain ⟨a, vs, rfl, ha, rl⟩ := rp_lst.mp rx
    obtain ⟨v, h1, h2⟩ := rpl_atI rl e
    exact .inl ⟨a, vs, i, v, rfl, rp_int.mp ry, .inl (.inl (s _ _ ha)), h1, q v h2⟩
  · rename_i l i
    obtain ⟨a, vs, rfl, ha, rl⟩ := rp_tup.mp rx
    obtain ⟨v, h1, h2⟩ := rpl_atI rl e
    exact .inr (.inl ⟨a, vs, i, v, rfl, rp_int.mp ry, SqT.mono s ha, h1, q v h2⟩)
  · rename_i l i
    obtain ⟨a, rfl, ha⟩ := rp_scr.mp rx
    cases h : atI l i with
    | none => rw [h] at e; cases e
    | some n =>
      rw [h] at e; cases e
      exact .inl ⟨a, _, i, .int n, rfl, rp_int.mp ry, SqL.mono s ha, by rw [atI_map, h]; rfl, q _ (rp_int.mpr rfl)⟩
  · rename_i z i
    split at e
    · rename_i hl
      cases h : atI z i with
      | none => rw [h] at e; cases e
      | some n =>
        rw [h] at e; cases e
        exact .inr (.inr ⟨S z, i, n, rp_str.mp rx, rp_int.mp ry, by rw [S_len]; exact line_le hl, by unfold S; simpa using h, q _ (rp_str.mpr rfl)⟩)
    · cases e
  · cases e
theorem ix_F (i : ι) : IxR (F.X i) (rIx F.K) := by have := ix_seq (X := F.X i); rw [F.hK i] at this; exact this
theorem de_at {a b : Expr} {φ ψ : Den} {pos : Pos} (ha : DE F a φ) (hb : DE F b ψ) (hs : PlainIx b := by exact fun _ _ => rfl) : DE F (.Subscript a b pos) (d2 ixD φ ψ) := de_ix ix_F er_ixD ha hb hs
/-- x[i] of an object of its own at slot i: a scalar is read -/
def flatD : D → Bool
  | .int _ => true | .str _ => true | .bl _ => true | .non => true
  | _ => false
abbrev DenP := Rho → Option (Option Int × Rho)
def pNone : DenP := fun ρ => some (none, ρ)
def pSome (φ : Den) : DenP := fun ρ => match φ ρ with
  | some (.int i, ρ1) => some (some i, ρ1)
  | _ => none
def EvP (K : Kx) (t : TO) (φ : DenP) : Prop := ∀ ρ d ρ', φ ρ = some (d, ρ') → ∀ (G : Hp) (σ : L2.St) (H : Hp) (Q : Option Int → Hp → Prop), Sx K G σ H ρ →
  (∀ G' H', Go G H (OwA σ ρ) G' H' (OwA σ ρ') → Sx K G' σ H' ρ' → Q d H') → t σ H Q
structure DP {ι : Type} (F : Fm ι) (e : Option Expr) (φ : DenP) : Prop where
  ex : ∃ t, (∀ i, PO (F.X i) e t) ∧ EvP F.K t φ
theorem dp_none : DP F none pNone := ⟨_, fun _ => po_none, by
  intro ρ d ρ' e G σ H Q S q
  cases e
  exact q G H (Go.refl _) S⟩
theorem dp_some {e : Expr} {φ : Den} (h : DE F e φ) : DP F (some e) (pSome φ) := by
  obtain ⟨t, h1, h2⟩ := h.ex
  refine ⟨_, fun i => po_some (h1 i), ?_⟩
  intro ρ d ρ' e G σ H Q S q
  unfold pSome at e
  split at e
  · rename_i n ρ1 k
    cases e
    exact h2 ρ _ ρ' k G σ H _ S fun v G1 H1 g1 S1 r1 => ⟨n, rp_int.mp r1, q G1 H1 g1 S1⟩
  · cases e
theorem newF_lst {G H : Hp} {σ : L2.St} {ρ : Rho} {vs : List V} {ds : List D} {Q : VK} (S : Sx K G σ H ρ) (r : RpL K G vs ds)
    (q : ∀ v G' H', Go G H (OwA σ ρ) G' H' (OwA σ ρ) → Sx K G' σ H' ρ → Rp K G' v (.lst ds) → Q v H') : ∀ p, H p = none → Q (.ref p) (upd H p (.lst vs)) := by
  intro p hp
  have g := Go.new (o := .lst vs) S.sub hp S.ow_there
  exact q (.ref p) _ _ g (S.new hp) (rp_lst.mpr ⟨p, vs, rfl, upd_same, r.mono g.gg⟩)
def cutD {α : Type} (l : List α) (lo hi : Option Int) : List α := (l.drop (HT.sIx l.length 0 lo)).take (HT.sIx l.length l.length hi - HT.sIx l.length 0 lo)
def slD : D → Option Int → Option Int → Option D
  | .str s, lo, hi => if s.length ≤ 16777216 then some (.str (cutD s lo hi)) else none
  | .lst l, lo, hi => some (.lst (cutD l lo hi))
  | .tup l, lo, hi => some (.tup (cutD l lo hi))
  | _, _, _ => none
def dSl (φ : Den) (lo hi : DenP) : Den := fun ρ => match φ ρ with
  | some (x, ρ1) => (match lo ρ1 with
    | some (a, ρ2) => (match hi ρ2 with
      | some (b, ρ3) => (match slD x a b with | some z => some (z, ρ3) | none => none)
      | none => none)
    | none => none)
  | none => none
theorem rpl_cut {K : PySem.W.Frag} {G : Hp} {vs : List V} {ds : List D} (lo hi : Option Int) (r : RpL K G vs ds) : RpL K G (cutV vs lo hi) (cutD ds lo hi) := by
  unfold cutV cutD
  rw [rpl_len r]
  exact rpl_take _ (rpl_drop _ r)
def rSlAny (K : PySem.W.Frag) : V → Option Int → Option Int → Hp → VK → Prop := fun x lo hi H Q => rSlS x lo hi H Q ∨ (rSlL K x lo hi H Q ∨ rSlA K x lo hi H Q)
theorem de_slice {e : Expr} {lo hi : Option Expr} {φ : Den} {α β : DenP} {p2 pos : Pos} (he : DE F e φ) (hl : DP F lo α) (hu : DP F hi β) : DE F (.Subscript e (.Slice lo hi none p2) pos) (dSl φ α β) := by
  obtain ⟨t, h1, h2⟩ := he.ex
  obtain ⟨tl, a1, a2⟩ := hl.ex
  obtain ⟨th, b1, b2⟩ := hu.ex
  refine ⟨tSl (rSlAny F.K) t tl th, fun i => ?_, ?_⟩
  · have := pe_slice (pos := pos) (p2 := p2) (sl_str.or (sl_list.or sl_tupA)) (h1 i) (a1 i) (b1 i)
    rw [F.hK i] at this
    exact this
  · intro ρ d ρ' e G σ H Q S q
    unfold dSl at e
    split at e
    · rename_i x ρ1 k1
      split at e
      · rename_i a ρ2 k2
        split at e
        · rename_i b ρ3 k3
          split at e
          · rename_i z k4
            cases e
            refine h2 ρ x ρ1 k1 G σ H _ S fun v G1 H1 g1 S1 r1 => ?_
            refine a2 ρ1 a ρ2 k2 G1 σ H1 _ S1 fun G2 H2 g2 S2 => ?_
            refine b2 ρ2 b ρ' k3 G2 σ H2 _ S2 fun G3 H3 g3 S3 => ?_
            have gg := (g1.trans g2).trans g3
            have r3 := (r1.mono g2.gg).mono g3.gg
            cases x <;> unfold slD at k4 <;> dsimp only at k4 <;> try cases k4
            · split at k4
              · rename_i hz
                cases k4
                refine .inl ⟨_, rp_str.mp r3, by rw [S_len]; exact line_le hz, q _ G3 H3 gg S3 (rp_str.mpr ?_)⟩
                unfold cutS cutD DL.S
                simp [Str.length]
              · cases k4
            · obtain ⟨p, vs, rfl, hp, rl⟩ := rp_tup.mp r3
              refine .inr (.inr ⟨p, vs, rfl, SqT.mono S3.sub hp, fun hw => q _ G3 H3 gg S3 (rp_tup.mpr ⟨p, vs, rfl, hp, ?_⟩), fun hw => newF_tup S3 (rpl_cut a b rl) fun v G4 H4 g4 S4 r4 => q v G4 H4 (gg.trans g4) S4 r4⟩)
              have := rpl_cut a b rl
              unfold cutV at this
              rw [hw.1, hw.2, List.drop_zero, Nat.sub_zero, List.take_length] at this
              exact this
            · obtain ⟨p, vs, rfl, hp, rl⟩ := rp_lst.mp r3
              refine .inr (.inl ⟨p, vs, rfl, .inl (.inl (S3.sub _ _ hp)), ?_⟩)
              exact newF_lst S3 (rpl_cut a b rl) fun v G4 H4 g4 S4 r4 => q v G4 H4 (gg.trans g4) S4 r4
          · cases e
        · cases e
      · cases e
    · cases e
end
end DL

/-! Built-ins over data. -/
namespace DL
open PySem PySem.Spec PyProof.Rows L2

section
variable {ι : Type} {F : Fm ι} {K : Kx}
/-! ### great ints, a list so many times -/
theorem er_mulI : EvR K (rI CMulW fun i j => .int (i * j)) mulI := evr_of fun x y dx dy d e G H Q _ rx ry q => by
  unfold mulI at e
  split at e
  · split at e
    · rename_i h
      cases e
      exact ⟨_, _, rp_int.mp rx, rp_int.mp ry, (by unfold CMulW; omega), q _ (rp_int.mpr rfl)⟩
    · cases e
  · cases e
theorem ero_repL : EvRO K rRep repL := by
  intro x y dx dy d e G σ H ρ Q S rx ry q
  unfold repL at e
  split at e
  · split at e
    · rename_i l k h
      cases e
      obtain ⟨a, vs, rfl, ha, ra⟩ := rp_lst.mp rx
      refine ⟨a, k, vs, rfl, rp_int.mp ry, S.sub _ _ ha, h.2.1, h.1, by rw [rpl_len ra]; exact line_le h.2.2, ?_⟩
      have rr : ∀ n : Nat, RpL K G (List.replicate n vs).flatten (List.replicate n l).flatten := by
        intro n
        induction n with
        | zero => exact rpl_nil.mpr rfl
        | succ n ih =>
          rw [List.replicate_succ, List.replicate_succ, List.flatten_cons, List.flatten_cons]
          exact rpl_app ra ih
      exact newO_lst (Q := fun a H' => Q (.ref a) H') S (rr _) q
    · cases e
  · cases e
def dMul (φ ψ : Den) : Den := dAlt (d2 mulI φ ψ) (d2 repL φ ψ)
theorem de_mul {a b : Expr} {φ ψ : Den} {pos : Pos} (ha : DE F a φ) (hb : DE F b ψ) : DE F (.BinOp a .Mult b pos) (dMul φ ψ) := de_alt (de_op (fun _ => op_mulW) er_mulI ha hb) (do_op (fun _ => op_rep) ero_repL ha hb).de
def negI : D → Option D
  | .int i => some (.int (-i))
  | _ => none
theorem de_neg {a : Expr} {φ : Den} {pos : Pos} (ha : DE F a φ) : DE F (.UnaryOp .USub a pos) (d1 negI φ) := de_un (fun _ => un_neg) (by
  intro x dx d e G σ H ρ Q S rx q
  unfold negI at e
  split at e
  · cases e
    exact ⟨_, rp_int.mp rx, q _ G H (Go.refl _) S (rp_int.mpr rfl)⟩
  · cases e) ha
/-- // by a divisor below 2 ^ 9000 -/
def divW : D → D → Option D
  | .int i, .int j => if 0 < j ∧ j.natAbs.log2 < 9000 then some (.int (i / j)) else none
  | _, _ => none
theorem er_divW : EvR K (rI CDivW fun i j => .int (i / j)) divW := evr_of fun x y dx dy d e G H Q _ rx ry q => by
  unfold divW at e
  split at e
  · split at e
    · rename_i hj
      cases e
      exact ⟨_, _, rp_int.mp rx, rp_int.mp ry, hj, q _ (rp_int.mpr rfl)⟩
    · cases e
  · cases e
theorem de_divW {a b : Expr} {φ ψ : Den} {pos : Pos} (ha : DE F a φ) (hb : DE F b ψ) : DE F (.BinOp a .FloorDiv b pos) (d2 divW φ ψ) := de_op (fun _ => op_fdivW) er_divW ha hb
/-- i ** j, at most 2 ^ 27 bits -/
def CPowW (i j : Int) : Prop := 0 ≤ j ∧ (Builtin.Int.intBits i : Int) * j ≤ 2 ^ 27
instance (i j : Int) : Decidable (CPowW i j) := by unfold CPowW; infer_instance
def powI : D → D → Option D
  | .int i, .int j => if CPowW i j then some (.int (i ^ j.toNat)) else none
  | _, _ => none
theorem op_powW {X : Cx} : OpR X (binaryOp .Pow) (rI CPowW fun i j => .int (i ^ j.toNat)) := opI fun _ _ _ _ _ _ _ hc q => PyProof.Rows.pow_int hc.1 hc.2 q
theorem er_powI : EvR K (rI CPowW fun i j => .int (i ^ j.toNat)) powI := evr_of fun x y dx dy d e G H Q _ rx ry q => by
  unfold powI at e
  split at e
  · split at e
    · rename_i hj
      cases e
      exact ⟨_, _, rp_int.mp rx, rp_int.mp ry, hj, q _ (rp_int.mpr rfl)⟩
    · cases e
  · cases e
theorem de_pow {a b : Expr} {φ ψ : Den} {pos : Pos} (ha : DE F a φ) (hb : DE F b ψ) : DE F (.BinOp a .Pow b pos) (d2 powI φ ψ) := de_op (fun _ => op_powW) er_powI ha hb

/-! ### calls -/
theorem evc_of {r : List V → Hp → VK → Prop} {f : List D → Option D} (h : ∀ xs ds d, f ds = some d → ∀ (G H : Hp) (Q : VK), Same G H → RpL K G xs ds → (∀ v, Rp K G v d → Q v H) → r xs H Q) : EvC K r f := by
  intro xs ds d e G σ H ρ Q S r q
  exact h xs ds d e G H Q S.sub r fun v rv => q v G H (Go.refl _) S rv
theorem rpl_1 {K : PySem.W.Frag} {G : Hp} {xs : List V} {d : D} (h : RpL K G xs [d]) : ∃ v, xs = [v] ∧ Rp K G v d := by
  obtain ⟨v, r, rfl, h1, h2⟩ := rpl_cons.mp h
  rw [rpl_nil.mp h2]
  exact ⟨v, rfl, h1⟩
theorem rpl_2 {K : PySem.W.Frag} {G : Hp} {xs : List V} {d e : D} (h : RpL K G xs [d, e]) : ∃ v u, xs = [v, u] ∧ Rp K G v d ∧ Rp K G u e := by
  obtain ⟨v, r, rfl, h1, h2⟩ := rpl_cons.mp h
  obtain ⟨u, rfl, h3⟩ := rpl_1 h2
  exact ⟨v, u, rfl, h1, h3⟩
def lenD : List D → Option D
  | [.str s] => if s.length ≤ 16777216 then some (.int s.length) else none
  | [.lst l] => some (.int l.length)
  | [.tup l] => some (.int l.length)
  | [.scr l] => some (.int l.length)
  | _ => none
theorem ec_len : EvC K (fun xs H Q => ∃ x n, xs = [x] ∧ LenV K x H n ∧ Q (.int n) H) lenD := evc_of fun xs ds d e G H Q s r q => by
  unfold lenD at e
  split at e
  · split at e
    · rename_i hl
      cases e
      obtain ⟨v, rfl, r1⟩ := rpl_1 r
      exact ⟨v, _, rfl, by rw [rp_str.mp r1]; exact ⟨by rw [S_len]; exact line_le hl, (S_len _).symm⟩, q _ (rp_int.mpr rfl)⟩
    · cases e
  · cases e
    obtain ⟨v, rfl, r1⟩ := rpl_1 r
    obtain ⟨a, vs, rfl, ha, rl⟩ := rp_lst.mp r1
    exact ⟨_, _, rfl, .inl ⟨vs, .inl (.inl (s _ _ ha)), rfl⟩, q _ (rp_int.mpr (by rw [rpl_len rl]))⟩
  · cases e
    obtain ⟨v, rfl, r1⟩ := rpl_1 r
    obtain ⟨a, vs, rfl, ha, rl⟩ := rp_tup.mp r1
    exact ⟨_, _, rfl, .inr ⟨vs, SqT.mono s ha, rfl⟩, q _ (rp_int.mpr (by rw [rpl_len rl]))⟩
  · cases e
    obtain ⟨v, rfl, r1⟩ := rpl_1 r
    obtain ⟨a, rfl, ha⟩ := rp_scr.mp r1
    exact ⟨_, _, rfl, .inl ⟨_, SqL.mono s ha, rfl⟩, q _ (rp_int.mpr (by rw [List.length_map]))⟩
  · cases e
theorem call_lenF (i : ι) : CallR (F.X i) (.builtin "len") (fun xs H Q => ∃ x n, xs = [x] ∧ LenV F.K x H n ∧ Q (.int n) H) := by
  have := call_len (X := F.X i); rw [F.hK i] at this; exact this
theorem de_len {e : Expr} {p pos : Pos} {φ : Den} (hg : ∀ i, Gl (F.X i) "len") (hm : F.mg "len" = none) (ha : DE F e φ) (hs : ∀ i, starEach (e :: []) (F.X i).env = (false, eval e (F.X i).env) :: starEach [] (F.X i).env := by intro _; rfl) : DE F (.Call (.Name "len" p) [e] [] pos) (dC lenD (dCons φ dNil)) :=
  de_callB call_lenF ec_len hg hm PySem.boot_len (da_cons ha da_nil hs) (by decide) (by decide) hs
/-- truths of a list -/
def blsOf : List D → Option (List Bool)
  | [] => some []
  | .bl b :: ds => (match blsOf ds with | some bs => some (b :: bs) | none => none)
  | _ :: _ => none
theorem blsOf_eq : ∀ {ds : List D} {bs : List Bool}, blsOf ds = some bs → ds = bs.map D.bl
  | [], _, h => by cases h; rfl
  | .bl b :: ds, _, h => by
    unfold blsOf at h
    split at h
    · rename_i bs hb
      cases h
      rw [List.map_cons, blsOf_eq hb]
    · cases h
  | .non :: _, _, h => by cases h
  | .int _ :: _, _, h => by cases h
  | .str _ :: _, _, h => by cases h
  | .tup _ :: _, _, h => by cases h
  | .lst _ :: _, _, h => by cases h
  | .scr _ :: _, _, h => by cases h
  | .dk _ :: _, _, h => by cases h
  | .dt _ :: _, _, h => by cases h
theorem blsOf_map : ∀ bs : List Bool, blsOf (bs.map D.bl) = some bs
  | [] => rfl
  | b :: bs => by rw [List.map_cons, blsOf, blsOf_map bs]
def intsOf : List D → Option (List Int)
  | [] => some []
  | .int b :: ds => (match intsOf ds with | some bs => some (b :: bs) | none => none)
  | _ :: _ => none
theorem intsOf_eq : ∀ {ds : List D} {bs : List Int}, intsOf ds = some bs → ds = bs.map D.int
  | [], _, h => by cases h; rfl
  | .int b :: ds, _, h => by
    unfold intsOf at h
    split at h
    · rename_i bs hb
      cases h
      rw [List.map_cons, intsOf_eq hb]
    · cases h
  | .non :: _, _, h => by cases h
  | .bl _ :: _, _, h => by cases h
  | .str _ :: _, _, h => by cases h
  | .tup _ :: _, _, h => by cases h
  | .lst _ :: _, _, h => by cases h
  | .scr _ :: _, _, h => by cases h
  | .dk _ :: _, _, h => by cases h
  | .dt _ :: _, _, h => by cases h
theorem intsOf_map : ∀ bs : List Int, intsOf (bs.map D.int) = some bs
  | [] => rfl
  | b :: bs => by rw [List.map_cons, intsOf, intsOf_map bs]
def strsOf : List D → Option (List Tx)
  | [] => some []
  | .str b :: ds => (match strsOf ds with | some bs => some (b :: bs) | none => none)
  | _ :: _ => none
theorem strsOf_eq : ∀ {ds : List D} {bs : List Tx}, strsOf ds = some bs → ds = bs.map D.str
  | [], _, h => by cases h; rfl
  | .str b :: ds, _, h => by
    unfold strsOf at h
    split at h
    · rename_i bs hb
      cases h
      rw [List.map_cons, strsOf_eq hb]
    · cases h
  | .non :: _, _, h => by cases h
  | .bl _ :: _, _, h => by cases h
  | .int _ :: _, _, h => by cases h
  | .tup _ :: _, _, h => by cases h
  | .lst _ :: _, _, h => by cases h
  | .scr _ :: _, _, h => by cases h
  | .dk _ :: _, _, h => by cases h
  | .dt _ :: _, _, h => by cases h
theorem strsOf_map : ∀ bs : List Tx, strsOf (bs.map D.str) = some bs
  | [] => rfl
  | b :: bs => by rw [List.map_cons, strsOf, strsOf_map bs]
def allD : List D → Option D
  | [.lst l] => (blsOf l).map fun bs => .bl (bs.all id)
  | _ => none
def anyD : List D → Option D
  | [.lst l] => (blsOf l).map fun bs => .bl (bs.any id)
  | _ => none
theorem ec_all : EvC K (rAll K) allD := evc_of fun xs ds d e G H Q s r q => by
  unfold allD at e
  split at e
  · rename_i l
    obtain ⟨v, rfl, r1⟩ := rpl_1 r
    obtain ⟨a, vs, rfl, ha, rl⟩ := rp_lst.mp r1
    cases hb : blsOf l with
    | none => rw [hb] at e; cases e
    | some bs =>
      rw [hb] at e; cases e
      rw [blsOf_eq hb] at rl
      exact ⟨a, bs, rfl, by rw [← rpl_bls.mp rl]; exact .inl (.inl (s _ _ ha)), q _ (rp_bl.mpr rfl)⟩
  · cases e
theorem ec_any : EvC K (rAny K) anyD := evc_of fun xs ds d e G H Q s r q => by
  unfold anyD at e
  split at e
  · rename_i l
    obtain ⟨v, rfl, r1⟩ := rpl_1 r
    obtain ⟨a, vs, rfl, ha, rl⟩ := rp_lst.mp r1
    cases hb : blsOf l with
    | none => rw [hb] at e; cases e
    | some bs =>
      rw [hb] at e; cases e
      rw [blsOf_eq hb] at rl
      exact ⟨a, bs, rfl, by rw [← rpl_bls.mp rl]; exact .inl (.inl (s _ _ ha)), q _ (rp_bl.mpr rfl)⟩
  · cases e
theorem cr_allF (i : ι) : CallR (F.X i) (.builtin "all") (rAll F.K) := by have := cr_all (X := F.X i) (F.calm i); rw [F.hK i] at this; exact this
theorem cr_anyF (i : ι) : CallR (F.X i) (.builtin "any") (rAny F.K) := by have := cr_any (X := F.X i) (F.calm i); rw [F.hK i] at this; exact this
theorem de_all {e : Expr} {p pos : Pos} {φ : Den} (hg : ∀ i, Gl (F.X i) "all") (hm : F.mg "all" = none) (ha : DE F e φ) (hs : ∀ i, starEach (e :: []) (F.X i).env = (false, eval e (F.X i).env) :: starEach [] (F.X i).env := by intro _; rfl) : DE F (.Call (.Name "all" p) [e] [] pos) (dC allD (dCons φ dNil)) :=
  de_callB cr_allF ec_all hg hm (by decide +kernel) (da_cons ha da_nil hs) (by decide) (by decide) hs
theorem de_any {e : Expr} {p pos : Pos} {φ : Den} (hg : ∀ i, Gl (F.X i) "any") (hm : F.mg "any" = none) (ha : DE F e φ) (hs : ∀ i, starEach (e :: []) (F.X i).env = (false, eval e (F.X i).env) :: starEach [] (F.X i).env := by intro _; rfl) : DE F (.Call (.Name "any" p) [e] [] pos) (dC anyD (dCons φ dNil)) :=
  de_callB cr_anyF ec_any hg hm (by decide +kernel) (da_cons ha da_nil hs) (by decide) (by decide) hs
/-- max of a list of ints -/
def maxD : List D → Option D
  | [.lst l] => (match intsOf l with | some (n :: ns) => some (.int (ns.foldl max n)) | _ => none)
  | _ => none
theorem foldl_max (n : Int) : ∀ ns : List Int, (ns.foldl max n ∈ n :: ns) ∧ ∀ y ∈ n :: ns, y ≤ ns.foldl max n := by
  intro ns
  induction ns generalizing n with
  | nil => exact ⟨List.mem_cons_self, fun y h => by rw [List.mem_singleton.mp h]; exact Int.le_refl _⟩
  | cons m ns ih =>
    obtain ⟨h1, h2⟩ := ih (max n m)
    rw [List.foldl_cons]
    have hm : max n m ≤ ns.foldl max (max n m) := h2 _ List.mem_cons_self
    refine ⟨?_, fun y hy => ?_⟩
    · rcases List.mem_cons.mp h1 with e | e
      · rw [e]
        have : max n m = n ∨ max n m = m := by omega
        rcases this with e | e <;> rw [e] <;> simp
      · exact List.mem_cons_of_mem _ (List.mem_cons_of_mem _ e)
    · rcases List.mem_cons.mp hy with e | hy
      · omega
      · rcases List.mem_cons.mp hy with e | hy
        · omega
        · exact h2 y (List.mem_cons_of_mem _ hy)
theorem ec_max : EvC K (rMax K) maxD := evc_of fun xs ds d e G H Q s r q => by
  unfold maxD at e
  split at e
  · rename_i l
    obtain ⟨v, rfl, r1⟩ := rpl_1 r
    obtain ⟨a, vs, rfl, ha, rl⟩ := rp_lst.mp r1
    split at e
    · rename_i n ns hb
      cases e
      rw [intsOf_eq hb] at rl
      refine ⟨a, n :: ns, rfl, by rw [← rpl_ints.mp rl]; exact .inl (.inl (s _ _ ha)), Nat.succ_pos _, fun m hm hmax => q _ (rp_int.mpr ?_)⟩
      obtain ⟨h1, h2⟩ := foldl_max n ns
      have h3 := hmax _ h1
      have h4 := h2 _ hm
      congr 1
      omega
    · cases e
  · cases e
theorem cr_maxF (i : ι) : CallR (F.X i) (.builtin "max") (rMax F.K) := by have := cr_max (X := F.X i) (F.calm i); rw [F.hK i] at this; exact this
theorem de_max {e : Expr} {p pos : Pos} {φ : Den} (hg : ∀ i, Gl (F.X i) "max") (hm : F.mg "max" = none) (ha : DE F e φ) (hs : ∀ i, starEach (e :: []) (F.X i).env = (false, eval e (F.X i).env) :: starEach [] (F.X i).env := by intro _; rfl) : DE F (.Call (.Name "max" p) [e] [] pos) (dC maxD (dCons φ dNil)) :=
  de_callB cr_maxF ec_max hg hm (by decide +kernel) (da_cons ha da_nil hs) (by decide) (by decide) hs
/-- max, min of two ints -/
def max2D : List D → Option D
  | [.int i, .int j] => some (.int (if j > i then j else i))
  | _ => none
def min2D : List D → Option D
  | [.int i, .int j] => some (.int (if j < i then j else i))
  | _ => none
theorem de_max2 {a b : Expr} {p pos : Pos} {φ : DenL} (hg : ∀ i, Gl (F.X i) "max") (hm : F.mg "max" = none) (ha : DA F [a, b] φ) (hs : ∀ i, starEach (a :: [b]) (F.X i).env = (false, eval a (F.X i).env) :: starEach [b] (F.X i).env := by intro _; rfl)
    (hpl : ∀ i, (backTo pos (starEach [b] (F.X i).env)).any (·.1) = false := by intro _; rfl) : DE F (.Call (.Name "max" p) [a, b] [] pos) (dC max2D φ) :=
  de_callB (fun i => call_max2 (F.calm i)) (evc_of fun xs ds d e G H Q s r q => by
    unfold max2D at e
    split at e
    · cases e
      obtain ⟨v, u, rfl, r1, r2⟩ := rpl_2 r
      exact ⟨_, _, by rw [rp_int.mp r1, rp_int.mp r2], q _ (rp_int.mpr rfl)⟩
    · cases e) hg hm (by decide +kernel) ha (by decide) (by decide) hs hpl
theorem de_min2 {a b : Expr} {p pos : Pos} {φ : DenL} (hg : ∀ i, Gl (F.X i) "min") (hm : F.mg "min" = none) (ha : DA F [a, b] φ) (hs : ∀ i, starEach (a :: [b]) (F.X i).env = (false, eval a (F.X i).env) :: starEach [b] (F.X i).env := by intro _; rfl)
    (hpl : ∀ i, (backTo pos (starEach [b] (F.X i).env)).any (·.1) = false := by intro _; rfl) : DE F (.Call (.Name "min" p) [a, b] [] pos) (dC min2D φ) :=
  de_callB (fun i => call_min2 (F.calm i)) (evc_of fun xs ds d e G H Q s r q => by
    unfold min2D at e
    split at e
    · cases e
      obtain ⟨v, u, rfl, r1, r2⟩ := rpl_2 r
      exact ⟨_, _, by rw [rp_int.mp r1, rp_int.mp r2], q _ (rp_int.mpr rfl)⟩
    · cases e) hg hm (by decide +kernel) ha (by decide) (by decide) hs hpl
def absD : List D → Option D
  | [.int i] => some (.int (if i < 0 then -i else i))
  | _ => none
theorem de_abs {a : Expr} {p pos : Pos} {φ : Den} (hg : ∀ i, Gl (F.X i) "abs") (hm : F.mg "abs" = none) (ha : DE F a φ) (hs : ∀ i, starEach (a :: []) (F.X i).env = (false, eval a (F.X i).env) :: starEach [] (F.X i).env := by intro _; rfl) : DE F (.Call (.Name "abs" p) [a] [] pos) (dC absD (dCons φ dNil)) :=
  de_callB (fun i => call_abs) (evc_of fun xs ds d e G H Q s r q => by
    unfold absD at e
    split at e
    · cases e
      obtain ⟨v, rfl, r1⟩ := rpl_1 r
      exact ⟨_, by rw [rp_int.mp r1], q _ (rp_int.mpr rfl)⟩
    · cases e) hg hm (by decide +kernel) (da_cons ha da_nil hs) (by decide) (by decide) hs
def intD : List D → Option D
  | [.int i] => some (.int i)
  | [.bl b] => some (.int (if b then 1 else 0))
  | _ => none
theorem de_intOf {a : Expr} {p pos : Pos} {φ : Den} (hg : ∀ i, Gl (F.X i) "int") (hm : F.mg "int" = none) (ha : DE F a φ) (hs : ∀ i, starEach (a :: []) (F.X i).env = (false, eval a (F.X i).env) :: starEach [] (F.X i).env := by intro _; rfl) : DE F (.Call (.Name "int" p) [a] [] pos) (dC intD (dCons φ dNil)) :=
  de_callTy (fun i => call_int1) (evc_of fun xs ds d e G H Q s r q => by
    unfold intD at e
    split at e
    · cases e
      obtain ⟨v, rfl, r1⟩ := rpl_1 r
      exact .inl ⟨_, by rw [rp_int.mp r1], q _ (rp_int.mpr rfl)⟩
    · cases e
      obtain ⟨v, rfl, r1⟩ := rpl_1 r
      exact .inr ⟨_, by rw [rp_bl.mp r1], q _ (rp_int.mpr rfl)⟩
    · cases e) hg hm (by decide +kernel) (da_cons ha da_nil hs) (by decide) (by decide) hs
/-- tuple(x) -/
def tupleD : List D → Option D
  | [.lst l] => some (.tup l)
  | [.tup l] => some (.tup l)
  | _ => none
theorem de_tupleOf {a : Expr} {p pos : Pos} {φ : Den} (hg : ∀ i, Gl (F.X i) "tuple") (hm : F.mg "tuple" = none) (ha : DE F a φ) (hs : ∀ i, starEach (a :: []) (F.X i).env = (false, eval a (F.X i).env) :: starEach [] (F.X i).env := by intro _; rfl) : DE F (.Call (.Name "tuple" p) [a] [] pos) (dC tupleD (dCons φ dNil)) :=
  de_callTy (fun i => by have := call_tuple_of (X := F.X i); rw [F.hK i] at this; exact this) (by
    intro xs ds d e G σ H ρ Q S r q
    unfold tupleD at e
    split at e
    · cases e
      obtain ⟨v, rfl, r1⟩ := rpl_1 r
      obtain ⟨p, vs, rfl, hp, rl⟩ := rp_lst.mp r1
      exact ⟨p, vs, rfl, .inl ⟨.inl (.inl (S.sub _ _ hp)), newF_tup S rl q⟩⟩
    · cases e
      obtain ⟨v, rfl, r1⟩ := rpl_1 r
      obtain ⟨p, vs, rfl, hp, rl⟩ := rp_tup.mp r1
      exact ⟨p, vs, rfl, .inr ⟨SqT.mono S.sub hp, q _ G H (Go.refl _) S (rp_tup.mpr ⟨p, vs, rfl, hp, rl⟩)⟩⟩
    · cases e) hg hm (by decide +kernel) (da_cons ha da_nil hs) (by decide) (by decide) hs
/-- list(x) of a list, a tuple; of a dict its keys -/
def listS : List D → Option D
  | [.lst l] => some (.lst l)
  | [.tup l] => some (.lst l)
  | _ => none
def kD : KD → D
  | .inl i => .int i
  | .inr s => .str s
def listK : List D → Option D
  | [.dk l] => some (.lst (l.map fun p => kD p.1))
  | _ => none
theorem rpk_keys {K : PySem.W.Frag} {G : Hp} : ∀ {l : List (KD × D)} {kvs : List (Key × V)}, RpK K G kvs l → RpL K G (kvs.map fun kv => kV kv.1) (l.map fun p => kD p.1)
  | [], [], _ => rpl_nil.mpr rfl
  | [], _ :: _, h => by unfold RpK at h; exact h.elim
  | _ :: _, [], h => by unfold RpK at h; exact h.elim
  | (j, d) :: l, (k, v) :: kvs, h => by
    unfold RpK at h
    obtain ⟨rfl, h1, h2⟩ := h
    refine rpl_cons.mpr ⟨_, _, rfl, ?_, rpk_keys h2⟩
    cases j with
    | inl i => exact rp_int.mpr rfl
    | inr s => exact rp_str.mpr rfl
theorem do_listS {a : Expr} {p pos : Pos} {φ : Den} (hg : ∀ i, Gl (F.X i) "list") (hm : F.mg "list" = none) (ha : DE F a φ) (hs : ∀ i, starEach (a :: []) (F.X i).env = (false, eval a (F.X i).env) :: starEach [] (F.X i).env := by intro _; rfl) : DO F (.Call (.Name "list" p) [a] [] pos) (dC listS (dCons φ dNil)) :=
  do_callTy (fun i => by have := call_list_of (X := F.X i); rw [F.hK i] at this; exact this) (by
    intro xs ds d e G σ H ρ Q S r q
    unfold listS at e
    split at e
    · cases e
      obtain ⟨v, rfl, r1⟩ := rpl_1 r
      obtain ⟨p, vs, rfl, hp, rl⟩ := rp_lst.mp r1
      exact ⟨p, vs, rfl, .inl (.inl (.inl (S.sub _ _ hp))), newO_lst (Q := fun a H' => Q (.ref a) H') S rl q⟩
    · cases e
      obtain ⟨v, rfl, r1⟩ := rpl_1 r
      obtain ⟨p, vs, rfl, hp, rl⟩ := rp_tup.mp r1
      exact ⟨p, vs, rfl, .inr (SqT.mono S.sub hp), newO_lst (Q := fun a H' => Q (.ref a) H') S rl q⟩
    · cases e) hg hm (by decide +kernel) (da_cons ha da_nil hs) (by decide) (by decide) hs
theorem do_listK {a : Expr} {p pos : Pos} {φ : Den} (hg : ∀ i, Gl (F.X i) "list") (hm : F.mg "list" = none) (ha : DE F a φ) (hs : ∀ i, starEach (a :: []) (F.X i).env = (false, eval a (F.X i).env) :: starEach [] (F.X i).env := by intro _; rfl) : DO F (.Call (.Name "list" p) [a] [] pos) (dC listK (dCons φ dNil)) :=
  do_callTy (fun i => call_listD (F.calm i)) (by
    intro xs ds d e G σ H ρ Q S r q
    unfold listK at e
    split at e
    · cases e
      obtain ⟨v, rfl, r1⟩ := rpl_1 r
      obtain ⟨p, kvs, rfl, hp, rl⟩ := rp_dk.mp r1
      exact ⟨p, kvs, rfl, Rd.mono S.sub hp, newO_lst (Q := fun a H' => Q (.ref a) H') S (rpk_keys rl) q⟩
    · cases e) hg hm (by decide +kernel) (da_cons ha da_nil hs) (by decide) (by decide) hs

/-! ### isinstance of built-in classes -/
def tyN : D → String
  | .non => "NoneType" | .bl _ => "bool" | .int _ => "int" | .str _ => "str" | .tup _ => "tuple" | .lst _ => "list" | .scr _ => "list" | .dk _ => "dict" | .dt _ => "dict"
def isiT (T : String) : D → Option D
  | .dt _ => none
  | d => (kitB (tyN d) T).map .bl
theorem tyx_of {K : PySem.W.Frag} {G H : Hp} {v : V} {d : D} (s : Same G H) (r : Rp K G v d) (nd : ∀ l, d ≠ .dt l) : TyX K H v (.type (tyN d)) := by
  cases d with
  | non => rw [rp_non.mp r]; exact .base .non
  | bl b => rw [rp_bl.mp r]; exact .base (.bl b)
  | int b => rw [rp_int.mp r]; exact .base (.int b)
  | str b => rw [rp_str.mp r]; exact .base (.str _)
  | tup l =>
    obtain ⟨a, vs, rfl, ha, _⟩ := rp_tup.mp r
    rcases ha with (h | ⟨o, h⟩) | ⟨o, its, n, h1, h2, _⟩
    · exact .base (.tup (s _ _ h))
    · exact .fTuple (s _ _ h)
    · exact .kTuple h1 h2
  | lst l =>
    obtain ⟨a, vs, rfl, ha, _⟩ := rp_lst.mp r
    exact .base (.lst (s _ _ ha))
  | scr l =>
    obtain ⟨a, rfl, ha⟩ := rp_scr.mp r
    rcases ha with (h | ⟨o, h⟩) | ⟨o, its, n, h1, h2, _⟩
    · exact .base (.lst (s _ _ h))
    · exact .base (.frz (s _ _ h))
    · exact .kList h1 h2
  | dk l =>
    obtain ⟨a, vs, rfl, ha, _⟩ := rp_dk.mp r
    rcases ha with h | ⟨o, h⟩
    · exact .base (.dK (s _ _ h))
    · exact .fDict (s _ _ h)
  | dt l => exact absurd rfl (nd l)
theorem de_isi {a : Expr} {T : Str} {TS : String} {p p2 pos : Pos} {φ : Den} (hg : ∀ i, Gl (F.X i) "isinstance") (hm : F.mg "isinstance" = none) (hgT : ∀ i, Gl (F.X i) T) (hmT : F.mg T = none) (hvT : bootBuiltins T = some (.type TS)) (ha : DE F a φ)
    (hs : ∀ i, starEach (a :: [.Name T p2]) (F.X i).env = (false, eval a (F.X i).env) :: starEach [.Name T p2] (F.X i).env := by intro _; rfl) (hs2 : ∀ i, starEach (.Name T p2 :: []) (F.X i).env = (false, eval (.Name T p2) (F.X i).env) :: starEach [] (F.X i).env := by intro _; rfl)
    (hpl : ∀ i, (backTo pos (starEach [.Name T p2] (F.X i).env)).any (·.1) = false := by intro _; rfl) (hnT : T ≠ "__name__" := by decide) (hdT : (T == ("__debug__" : Str)) = false := by decide) : DE F (.Call (.Name "isinstance" p) [a, .Name T p2] [] pos) (d1 (isiT TS) φ) := by
  obtain ⟨t, h1, h2⟩ := ha.ex
  refine ⟨tCB (rIsi F.K) (tCons t (tCons (tC (.ty TS)) tNil)), fun i => ?_, ?_⟩
  · have := pe_callB (pos := pos) (p := p) (X := F.X i) call_isi (hg i) (by rw [F.hmg i]; exact hm) (by decide +kernel) (pa_cons (h1 i) (pa_cons (pe_bltn (v := .ty TS) (hgT i) (by rw [F.hmg i]; exact hmT) hvT rfl hnT hdT) pa_nil (hs2 i)) (hs i)) (by decide) (by decide) (hs i) (hpl i)
    rw [F.hK i] at this
    exact this
  · intro ρ d ρ' e G σ H Q S q
    unfold d1 at e
    split at e
    · rename_i x ρ1 k1
      split at e
      · rename_i z k2
        cases e
        refine h2 ρ x ρ' k1 G σ H _ S fun v G1 H1 g1 S1 r1 => ?_
        have nd : ∀ l, x ≠ .dt l := fun l z => by subst z; cases k2
        have k3 : (kitB (tyN x) TS).map D.bl = some d := by cases x <;> first | exact k2 | exact absurd rfl (nd _)
        cases hb : kitB (tyN x) TS with
        | none => rw [hb] at k3; cases k3
        | some b =>
          rw [hb] at k3; cases k3
          exact ⟨v, .ty TS, .type (tyN x), .type TS, b, rfl, .ty TS, tyx_of S1.sub r1 nd, kit_ty hb, q _ G1 H1 g1 S1 (rp_bl.mpr rfl)⟩
      · cases e
    · cases e
end
end DL

/-! Further pieces over data: augmented stores, stores of two names, walks of two things, dicts of texts and ints, joining, membership. -/
namespace DL
open PySem PySem.Spec PyProof.Rows L2 RZ

section
variable {ι : Type} {F : Fm ι} {K : Kx}
/-! ### x op= e -/
def sAug (i : Nat) (f : D → D → Option D) (φ : Den) : DenS := fun ρ => match ρ[i]? with
  | some (.sh x) => (match φ ρ with
    | some (y, ρ1) => (match f x y with
      | some z => if i < ρ1.length then some (.nx (ρ1.set i (.sh z))) else none
      | none => none)
    | none => none)
  | _ => none
theorem ds_aug (i : Nat) {x : Str} {e : Expr} {op : Operator} {r : R2} {f : D → D → Option D} {φ : Den} {p pos : Pos} (hi : F.N[i]? = some x) (hx : ∀ j, Loc (F.X j).env.scope x) (ho : ∀ j, OpR (F.X j) (inplaceOp op) r) (er : EvR F.K r f) (h : DE F e φ)
    (hf : ∀ j, (F.X j).fn x = true ∨ (F.X j).env.scope.names.lookup x = some .local := by first | exact fun _ => .inl rfl | exact fun _ => .inr rfl) : DS F (.AugAssign (.Name x p) op e pos) (sAug i f φ) := by
  obtain ⟨t, k1, k2⟩ := h.ex
  refine ⟨tAug i t r, fun j => ps_aug (by rw [F.hN j]; exact F.nd) (by rw [F.hN j]; exact hi) (hx j) (k1 j) (fun pins s σ H x y v u Q I r1 r2 h => ho j pins s σ H x y v u Q I r1 r2 h) (hf j), ?_⟩
  intro ρ o e G σ H E S q
  unfold sAug at e
  split at e
  · rename_i x0 e0
    obtain ⟨o', ea, v0, rfl, r0⟩ := S.at_ i _ e0
    split at e
    · rename_i y ρ1 e1
      split at e
      · rename_i z e2
        split at e
        · rename_i hi'
          cases e
          refine ⟨v0, ea, ?_⟩
          refine k2 ρ y ρ1 e1 G σ H _ S fun v G1 H1 g1 S1 r1 => ?_
          refine er v0 v x0 y z e2 G1 σ H1 ρ1 _ S1 (r0.mono g1.gg) r1 fun w G2 H2 g2 S2 r2 => ?_
          obtain ⟨g3, S3⟩ := S2.store hi' r2
          exact q _ G2 H2 ((g1.trans g2).trans g3) S3
        · cases e
      · cases e
    · cases e
  · cases e
theorem er_iadd : EvR K (rI0 fun i j => .int (i + j)) addI := er_addI
theorem ds_iadd (i : Nat) {x : Str} {e : Expr} {φ : Den} {p pos : Pos} (hi : F.N[i]? = some x) (hx : ∀ j, Loc (F.X j).env.scope x) (h : DE F e φ)
    (hf : ∀ j, (F.X j).fn x = true ∨ (F.X j).env.scope.names.lookup x = some .local := by first | exact fun _ => .inl rfl | exact fun _ => .inr rfl) : DS F (.AugAssign (.Name x p) .Add e pos) (sAug i addI φ) :=
  ds_aug i hi hx (fun _ => iop_add) er_addI h hf

/-! ### a, b = x, y -/
def sPar (i j : Nat) (φ : DenL) : DenS := fun ρ => match φ ρ with
  | some ([x, y], ρ1) => if i < ρ1.length ∧ j < ρ1.length then some (.nx ((ρ1.set i (.sh x)).set j (.sh y))) else none
  | _ => none
theorem ds_par (i j : Nat) {x y : Str} {a b : Expr} {φ : DenL} {px py pt pos : Pos} {kt k2 : Nat} {pt2 : Pos} (hi : F.N[i]? = some x) (hj : F.N[j]? = some y) (hij : i ≠ j)
    (hx : ∀ l, (F.X l).env.scope.names.lookup x = some .local) (hy : ∀ l, (F.X l).env.scope.names.lookup y = some .local) (ha : DA F [a, b] φ)
    (hw : ∀ l, swappedStores [.Tuple [.Name x px, .Name y py] kt pt] (.Tuple [a, b] k2 pt2) (F.X l).env = pure (some [x, y]) := by intro _; rfl)
    (hs : ∀ l, swapsWithSole [.Tuple [.Name x px, .Name y py] kt pt] (.Tuple [a, b] k2 pt2) pos.line (F.X l).env = pure false := by intro _; rfl) : DS F (.Assign [.Tuple [.Name x px, .Name y py] kt pt] (.Tuple [a, b] k2 pt2) pos) (sPar i j φ) := by
  obtain ⟨t, h1, h2⟩ := ha.ex
  refine ⟨_, fun l => ps_par (F.calm l) (by rw [F.hN l]; exact F.nd) (by rw [F.hN l]; exact hi) (by rw [F.hN l]; exact hj) hij (hx l) (hy l) (h1 l) (hw l) (hs l), ?_⟩
  intro ρ o e G σ H E S q
  unfold sPar at e
  split at e
  · rename_i u v ρ1 k1
    split at e
    · rename_i hl
      cases e
      refine h2 ρ _ ρ1 k1 G σ H _ S fun vs G1 H1 g1 S1 r1 => ?_
      obtain ⟨v1, v2, rfl, r2, r3⟩ := rpl_2 r1
      refine ⟨v1, v2, rfl, ?_⟩
      obtain ⟨g2, S2⟩ := S1.store hl.1 r2
      obtain ⟨g3, S3⟩ := S2.store (i := j) (by rw [List.length_set]; exact hl.2) r3
      exact q _ G1 H1 ((g1.trans g2).trans g3) S3
    · cases e
  · cases e
/-- a, b = e, any targets -/
def sTgt (φ : Den) (γ : DenG) : DenS := fun ρ => match φ ρ with
  | some (d, ρ1) => (match γ d ρ1 with | some ρ2 => some (.nx ρ2) | none => none)
  | none => none
theorem ds_tgt {tg e : Expr} {φ : Den} {l : List Nat} {γ : DenG} {pos : Pos} (h : DE F e φ) (hg : DG F tg l γ) (hs : ∀ j, swapsWithSole [tg] e pos.line (F.X j).env = pure false := by intro _; rfl) (hw : ∀ j, swappedStores [tg] e (F.X j).env = pure none := by intro _; rfl)
    (h1 : ∀ j, (assignEach [tg] (F.X j).env).map (·.2) = [assign tg (F.X j).env] := by intro _; rfl) : DS F (.Assign [tg] e pos) (sTgt φ γ) := by
  obtain ⟨t, a1, a2⟩ := h.ex
  obtain ⟨g, b1, b2⟩ := hg.ex
  refine ⟨_, fun j => ps_asg (a1 j) (b1 j) (hs j) (hw j) (h1 j), ?_⟩
  intro ρ o e G σ H E S q
  unfold sTgt at e
  split at e
  · rename_i d ρ1 k1
    split at e
    · rename_i ρ2 k2
      cases e
      refine a2 ρ d ρ1 k1 G σ H _ S fun v G1 H1 g1 S1 r1 => ?_
      exact b2 d ρ1 ρ2 k2 v G1 σ H1 _ S1 r1 fun σ' g2 S2 _ => q σ' G1 H1 (g1.trans g2) S2
    · cases e
  · cases e

/-! ### zip, enumerate -/
def pairs2 (xs ys : List D) : List D := List.zipWith (fun x y => D.tup [x, y]) xs ys
theorem new_pair {G H : Hp} {σ : L2.St} {ρ : Rho} {T : Addr} {x y : V} {dx dy : D} (S : Sx K G σ H ρ) (hT : H T = none) (rx : Rp K G x dx) (ry : Rp K G y dy) :
    ∃ G', Go G H (OwA σ ρ) G' (upd H T (.tup [x, y])) (OwA σ ρ) ∧ Sx K G' σ (upd H T (.tup [x, y])) ρ ∧ Rp K G' (.ref T) (.tup [dx, dy]) := by
  have g := Go.new (o := .tup [x, y]) S.sub hT S.ow_there
  exact ⟨_, g, S.new hT, rp_tup.mpr ⟨T, [x, y], rfl, .inl (.inl upd_same), rpl_cons.mpr ⟨x, [y], rfl, rx.mono g.gg, rpl_one (ry.mono g.gg)⟩⟩⟩
theorem wk_zipL {G0 : Hp} {a b : Addr} {xs ys : List V} {ds es : List D} (ha : SqL K G0 a xs) (hb : SqL K G0 b ys) (ra : RpL K G0 xs ds) (rb : RpL K G0 ys es) : Wk K (Itz K a b) G0 (pairs2 ds es) := by
  intro G σ H ρ i s S
  have hA : SqL K H a xs := SqL.mono S.sub (SqL.mono s ha)
  have hB : SqL K H b ys := SqL.mono S.sub (SqL.mono s hb)
  have l1 := rpl_len ra
  have l2 := rpl_len rb
  refine ⟨fun d e => ?_, fun e => ⟨xs, ys, hA, hB, ?_⟩⟩
  · unfold pairs2 at e
    rw [List.getElem?_zipWith] at e
    cases h1 : ds[i]? with
    | none => rw [h1] at e; cases e
    | some x =>
      cases h2 : es[i]? with
      | none => rw [h1, h2] at e; cases e
      | some y =>
        rw [h1, h2] at e; cases e
        obtain ⟨v, e1, r1⟩ := rpl_get ra h1
        obtain ⟨u, e2, r2⟩ := rpl_get rb h2
        refine ⟨⟨xs, ys, v, u, hA, hB, e1, e2⟩, fun z H' yl => ?_⟩
        obtain ⟨T, x', y', rfl, hT, rfl, f1, f2⟩ := yl
        have := f1 xs hA; rw [e1] at this; cases this
        have := f2 ys hB; rw [e2] at this; cases this
        exact new_pair S hT (r1.mono s) (r2.mono s)
  · unfold pairs2 at e
    rw [List.length_zipWith] at e
    omega
theorem wk_zipT {G0 : Hp} {a b : Addr} {xs ys : List V} {ds es : List D} (ha : SqT K G0 a xs) (hb : SqT K G0 b ys) (ra : RpL K G0 xs ds) (rb : RpL K G0 ys es) : Wk K (ItzT K a b) G0 (pairs2 ds es) := by
  intro G σ H ρ i s S
  have hA : SqT K H a xs := SqT.mono S.sub (SqT.mono s ha)
  have hB : SqT K H b ys := SqT.mono S.sub (SqT.mono s hb)
  have l1 := rpl_len ra
  have l2 := rpl_len rb
  refine ⟨fun d e => ?_, fun e => ⟨xs, ys, hA, hB, ?_⟩⟩
  · unfold pairs2 at e
    rw [List.getElem?_zipWith] at e
    cases h1 : ds[i]? with
    | none => rw [h1] at e; cases e
    | some x =>
      cases h2 : es[i]? with
      | none => rw [h1, h2] at e; cases e
      | some y =>
        rw [h1, h2] at e; cases e
        obtain ⟨v, e1, r1⟩ := rpl_get ra h1
        obtain ⟨u, e2, r2⟩ := rpl_get rb h2
        refine ⟨⟨xs, ys, v, u, hA, hB, e1, e2⟩, fun z H' yl => ?_⟩
        obtain ⟨T, x', y', rfl, hT, rfl, f1, f2⟩ := yl
        have := f1 xs hA; rw [e1] at this; cases this
        have := f2 ys hB; rw [e2] at this; cases this
        exact new_pair S hT (r1.mono s) (r2.mono s)
  · unfold pairs2 at e
    rw [List.length_zipWith] at e
    omega
def zipL : List D → Option (List D)
  | [.lst l, .lst m] => some (pairs2 l m)
  | [.tup l, .tup m] => some (pairs2 l m)
  | _ => none
theorem di_zip {a b : Expr} {elts : List Expr} {kk : Nat} {tpos p pos : Pos} {φ : DenL} (hg : ∀ i, Gl (F.X i) "zip") (hm : F.mg "zip" = none) (ha : DA F [a, b] φ)
    (hs : ∀ i, starEach [a, b] (F.X i).env = (false, eval a (F.X i).env) :: starEach [b] (F.X i).env := by intro _; rfl) (hpl : ∀ i, (backTo pos (starEach [b] (F.X i).env)).any (·.1) = false := by intro _; rfl) :
    DI F (.Tuple elts kk tpos) (.Call (.Name "zip" p) [a, b] [] pos) (dLL zipL φ) := by
  obtain ⟨t, h1, h2⟩ := ha.ex
  refine ⟨iZipA F.K t, fun i => by have := pi_zipA (elts := elts) (kk := kk) (tpos := tpos) (p := p) (hg i) (by rw [F.hmg i]; exact hm) (h1 i) (hs i) (hpl i); rw [F.hK i] at this; exact this, ?_⟩
  intro ρ ds ρ' e G σ H R S q
  unfold dLL at e
  split at e
  · rename_i xs ρ1 k
    split at e
    · rename_i ds' k2
      cases e
      refine h2 ρ xs ρ' k G σ H _ S fun vs G1 H1 g1 S1 r1 => ?_
      unfold zipL at k2
      split at k2
      · cases k2
        obtain ⟨v, u, rfl, r2, r3⟩ := rpl_2 r1
        obtain ⟨a1, v1, rfl, ha, ra⟩ := rp_lst.mp r2
        obtain ⟨a2, v2, rfl, hb, rb⟩ := rp_lst.mp r3
        exact ⟨a1, a2, v1, v2, rfl, .inl ⟨.inl (.inl (S1.sub _ _ ha)), .inl (.inl (S1.sub _ _ hb)), q _ G1 H1 g1 S1 (wk_zipL (.inl (.inl ha)) (.inl (.inl hb)) ra rb)⟩⟩
      · cases k2
        obtain ⟨v, u, rfl, r2, r3⟩ := rpl_2 r1
        obtain ⟨a1, v1, rfl, ha, ra⟩ := rp_tup.mp r2
        obtain ⟨a2, v2, rfl, hb, rb⟩ := rp_tup.mp r3
        exact ⟨a1, a2, v1, v2, rfl, .inr ⟨SqT.mono S1.sub ha, SqT.mono S1.sub hb, q _ G1 H1 g1 S1 (wk_zipT ha hb ra rb)⟩⟩
      · cases k2
    · cases e
  · cases e
def enumL : Nat → List D → List D
  | _, [] => []
  | n, d :: ds => .tup [.int n, d] :: enumL (n + 1) ds
theorem enumL_len : ∀ (n : Nat) (ds : List D), (enumL n ds).length = ds.length
  | _, [] => rfl
  | n, d :: ds => by rw [enumL, List.length_cons, List.length_cons, enumL_len]
theorem enumL_get : ∀ (n : Nat) (ds : List D) (i : Nat), (enumL n ds)[i]? = (ds[i]?).map fun d => .tup [.int ((n + i : Nat) : Int), d]
  | _, [], i => by simp [enumL]
  | n, d :: ds, 0 => by simp [enumL]
  | n, d :: ds, i + 1 => by
    rw [enumL, List.getElem?_cons_succ, List.getElem?_cons_succ, enumL_get (n + 1) ds i]
    have : n + 1 + i = n + (i + 1) := by omega
    rw [this]
theorem wk_enum {G0 : Hp} {a : Addr} {xs : List V} {ds : List D} (ha : SqL K G0 a xs) (ra : RpL K G0 xs ds) : Wk K (Ite K a) G0 (enumL 0 ds) := by
  intro G σ H ρ i s S
  have hA : SqL K H a xs := SqL.mono S.sub (SqL.mono s ha)
  have l1 := rpl_len ra
  refine ⟨fun d e => ?_, fun e => ⟨xs, hA, by rw [e, enumL_len, l1]; exact Nat.le_refl _⟩⟩
  rw [enumL_get] at e
  cases h1 : ds[i]? with
  | none => rw [h1] at e; cases e
  | some x =>
    rw [h1] at e; cases e
    obtain ⟨v, e1, r1⟩ := rpl_get ra h1
    refine ⟨⟨xs, v, hA, e1⟩, fun z H' yl => ?_⟩
    obtain ⟨T, x', rfl, hT, rfl, f1⟩ := yl
    have := f1 xs hA; rw [e1] at this; cases this
    exact new_pair S hT (rp_int.mpr (by rw [Nat.zero_add])) (r1.mono s)
def enumD : List D → Option (List D)
  | [.lst l] => some (enumL 0 l)
  | [.scr l] => some (enumL 0 (l.map .int))
  | _ => none
theorem di_enum {a : Expr} {elts : List Expr} {kk : Nat} {tpos p pos : Pos} {φ : DenL} (hg : ∀ i, Gl (F.X i) "enumerate") (hm : F.mg "enumerate" = none) (ha : DA F [a] φ)
    (hs : ∀ i, starEach [a] (F.X i).env = [(false, eval a (F.X i).env)] := by intro _; rfl) : DI F (.Tuple elts kk tpos) (.Call (.Name "enumerate" p) [a] [] pos) (dLL enumD φ) := by
  obtain ⟨t, h1, h2⟩ := ha.ex
  refine ⟨iEnum F.K t, fun i => by have := pi_enum (elts := elts) (kk := kk) (tpos := tpos) (p := p) (pos := pos) (hg i) (by rw [F.hmg i]; exact hm) (h1 i) (hs i); rw [F.hK i] at this; exact this, ?_⟩
  intro ρ ds ρ' e G σ H R S q
  unfold dLL at e
  split at e
  · rename_i xs ρ1 k
    split at e
    · rename_i ds' k2
      cases e
      refine h2 ρ xs ρ' k G σ H _ S fun vs G1 H1 g1 S1 r1 => ?_
      unfold enumD at k2
      split at k2
      · cases k2
        obtain ⟨v, rfl, r2⟩ := rpl_1 r1
        obtain ⟨a1, v1, rfl, ha, ra⟩ := rp_lst.mp r2
        exact ⟨a1, v1, rfl, .inl (.inl (S1.sub _ _ ha)), q _ G1 H1 g1 S1 (wk_enum (.inl (.inl ha)) ra)⟩
      · cases k2
        obtain ⟨v, rfl, r2⟩ := rpl_1 r1
        obtain ⟨a1, rfl, ha⟩ := rp_scr.mp r2
        exact ⟨a1, _, rfl, SqL.mono S1.sub ha, q _ G1 H1 g1 S1 (wk_enum ha (rpl_ints.mpr rfl))⟩
      · cases k2
    · cases e
  · cases e

/-! ### membership -/
def rSign : R2 := fun x y H Q => ∃ (c : Nat) (z : Str), x = .str ⟨#[c]⟩ ∧ y = .str z ∧ Q (.bl (decide (c ∈ z.cps.toList))) H
def inSign : D → D → Option D
  | .str [c], .str z => some (.bl (decide (c ∈ z)))
  | _, _ => none
theorem er_inSign : EvR K rSign inSign := evr_of fun x y dx dy d e G H Q s rx ry q => by
  unfold inSign at e
  split at e
  · cases e
    exact ⟨_, _, rp_str.mp rx, rp_str.mp ry, q _ (rp_bl.mpr (by unfold DL.S; simp))⟩
  · cases e
def inLst : D → D → Option D
  | x, .lst l => (match toPy x, toPys l with
    | some p, some ps => if SeqAt.shaped p = true ∧ SeqAt.shaped (.list ps) = true then some (.bl (ps.any fun z => PyData.eqv z p)) else none
    | _, _ => none)
  | _, _ => none
theorem er_inLst : EvR K (rInD K) inLst := evr_of fun x y dx dy d e G H Q s rx ry q => by
  unfold inLst at e
  split at e
  · split at e
    · rename_i p ps h1 h2
      split at e
      · rename_i hs
        cases e
        refine ⟨p, ps, dp_of s _ _ _ rx h1, dp_of s _ _ _ ry ?_, hs.1, hs.2, q _ (rp_bl.mpr rfl)⟩
        unfold toPy
        rw [h2]
      · cases e
    · cases e
  · cases e
/-- what a dict holds at a key -/
def kOf : D → Option KD
  | .int i => some (.inl i)
  | .str s => some (.inr s)
  | _ => none
def valD {κ : Type} [DecidableEq κ] (l : List (κ × D)) (k : κ) : Option D := (l.find? fun p => decide (p.1 = k)).map (·.2)
theorem rpk_val {K : PySem.W.Frag} {G : Hp} : ∀ {l : List (KD × D)} {kvs : List (Key × V)} (k : KD), RpK K G kvs l → (valV kvs (toKey k) = none ∧ valD l k = none) ∨ ∃ v d, valV kvs (toKey k) = some v ∧ valD l k = some d ∧ Rp K G v d
  | [], [], _, _ => .inl ⟨rfl, rfl⟩
  | [], _ :: _, _, h => by unfold RpK at h; exact h.elim
  | _ :: _, [], _, h => by unfold RpK at h; exact h.elim
  | (j, d) :: l, (k', v) :: kvs, k, h => by
    unfold RpK at h
    obtain ⟨rfl, h1, h2⟩ := h
    by_cases e : j = k
    · subst e
      exact .inr ⟨v, d, valV_pos rfl, by unfold valD; simp, h1⟩
    · have e2 : ¬ toKey j = toKey k := fun z => e (toKey_inj z)
      have : valD ((j, d) :: l) k = valD l k := by unfold valD; simp [List.find?_cons, e]
      rw [valV_neg e2, this]
      exact rpk_val k h2
def inDk : D → D → Option D
  | x, .dk l => (match kOf x with | some k => some (.bl (valD l k).isSome) | none => none)
  | _, _ => none
theorem kOf_eq {K : PySem.W.Frag} {G : Hp} {v : V} {d : D} {k : KD} (h : kOf d = some k) (r : Rp K G v d) : v = kV (toKey k) := by
  cases d <;> unfold kOf at h <;> try cases h
  · exact rp_int.mp r
  · exact rp_str.mp r
theorem ev_dIn {ty td : TE} {φ ψ : Den} (hy : Ev K ty φ) (hd : Ev K td ψ) : Ev K (tDIn ty td) (d2 inDk φ ψ) := by
  intro ρ d ρ' e G σ H Q S q
  unfold d2 at e
  split at e
  · rename_i x ρ1 h1
    split at e
    · rename_i y ρ2 h2
      split at e
      · rename_i z h3
        cases e
        refine hy ρ x ρ1 h1 G σ H _ S fun v G1 H1 g1 S1 r1 => ?_
        refine hd ρ1 y ρ' h2 G1 σ H1 _ S1 fun u G2 H2 g2 S2 r2 => ?_
        unfold inDk at h3
        split at h3
        · rename_i l
          split at h3
          · rename_i k hk
            cases h3
            obtain ⟨a, kvs, rfl, ha, rl⟩ := rp_dk.mp r2
            refine ⟨a, valV kvs (toKey k), rfl, .inl ⟨kvs, toKey k, Rd.mono S2.sub ha, kOf_eq hk r1, rfl⟩, ?_⟩
            refine q _ G2 H2 (g1.trans g2) S2 (rp_bl.mpr ?_)
            rcases rpk_val k rl with ⟨e1, e2⟩ | ⟨v', d', e1, e2, _⟩
            · simp [e1, e2]
            · simp [e1, e2]
          · cases h3
        · cases h3
      · cases e
    · cases e
  · cases e
theorem de_inDk {a b : Expr} {φ ψ : Den} {pos : Pos} (ha : DE F a φ) (hb : DE F b ψ) (hm : behindInMarks .In b = false := by rfl) : DE F (.Compare a [.In] [b] pos) (d2 inDk φ ψ) := by
  obtain ⟨ta, a1, a2⟩ := ha.ex
  obtain ⟨tb, b1, b2⟩ := hb.ex
  exact ⟨_, fun i => pe_cmp (pc_din (hu_of (F.room i)) (a1 i) (b1 i)) hm, ev_dIn a2 b2⟩
/-- x in y: a sign in a text, a key in a dict, an item in a list -/
def dIn (φ ψ : Den) : Den := dAlt (d2 inSign φ ψ) (dAlt (d2 inDk φ ψ) (d2 inLst φ ψ))
theorem Fm.u65 (F : Fm ι) (i : ι) : (F.X i).A.units + 65 < cLine := by have := (F.room i).un; omega
theorem op_inF (i : ι) : OpR (F.X i) (compareOp .In) (rInD F.K) := by have := op_inD (F.u65 i); rw [F.hK i] at this; exact this
theorem de_in {a b : Expr} {φ ψ : Den} {pos : Pos} (ha : DE F a φ) (hb : DE F b ψ) (hm : behindInMarks .In b = false := by rfl) : DE F (.Compare a [.In] [b] pos) (dIn φ ψ) :=
  de_alt (de_cmp (fun _ => op_in_sign) er_inSign ha hb hm) (de_alt (de_inDk ha hb hm) (de_cmp op_inF er_inLst ha hb hm))
theorem dt_in {a b : Expr} {φ ψ : Den} {pos : Pos} (ha : DE F a φ) (hb : DE F b ψ) (hm : behindInMarks .In b = false := by rfl) : DT F (.Compare a [.In] [b] pos) (dBl (dIn φ ψ)) := by
  obtain ⟨ta, a1, a2⟩ := ha.ex
  obtain ⟨tb, b1, b2⟩ := hb.ex
  obtain ⟨t, h1, h2⟩ : ∃ t, (∀ i, PT (F.X i) (.Compare a [.In] [b] pos) t) ∧ EvT F.K t (dBl (dIn φ ψ)) := by
    refine ⟨fun σ H Q => tTest (tOp rSign ta tb) σ H Q ∨ (tB (tDIn ta tb) σ H Q ∨ tTest (tOp (rInD F.K) ta tb) σ H Q), fun i => ⟨fun pins s σ H Q I h => ?_⟩, ?_⟩
    · rcases h with h | h | h
      · exact (pt_cmpR op_in_sign (a1 i) (b1 i) hm).run pins s σ H Q I h
      · exact (pt_cmp (pc_din (hu_of (F.room i)) (a1 i) (b1 i)) hm).run pins s σ H Q I h
      · exact (pt_cmpR (op_inF i) (a1 i) (b1 i) hm).run pins s σ H Q I h
    · intro ρ d ρ' e G σ H Q S q
      unfold dBl at e
      split at e
      · rename_i b' ρ1 k
        cases e
        unfold dIn dAlt at k
        split at k
        · rename_i z hz
          cases k
          exact .inl (ev_test (ev_op er_inSign a2 b2) ρ d ρ' (by unfold dBl; rw [hz]) G σ H Q S q)
        · split at k
          · rename_i z hz
            cases k
            exact .inr (.inl (ev_tB (ev_dIn a2 b2) ρ d ρ' (by unfold dBl; rw [hz]) G σ H Q S q))
          · exact .inr (.inr (ev_test (ev_op er_inLst a2 b2) ρ d ρ' (by unfold dBl; rw [k]) G σ H Q S q))
      · cases e
  exact ⟨t, h1, h2⟩

end
end DL

/-! Items of an object of its own; joined texts; dicts made of pairs and by comprehensions; sums of truths; a text's signs counted. -/
namespace DL
open PySem PySem.Spec PyProof.Rows L2 RZ

section
variable {K : PySem.W.Frag} {G : Hp}
theorem rpl_set : ∀ {ds : List D} {vs : List V} {v : V} {d : D} (j : Nat), RpL K G vs ds → Rp K G v d → RpL K G (vs.set j v) (ds.set j d)
  | [], vs, _, _, _, h, _ => by rw [rpl_nil.mp h]; exact rpl_nil.mpr rfl
  | e :: ds, vs, v, d, 0, h, r => by
    obtain ⟨u, us, rfl, _, h2⟩ := rpl_cons.mp h
    exact rpl_cons.mpr ⟨v, us, rfl, r, h2⟩
  | e :: ds, vs, v, d, j + 1, h, r => by
    obtain ⟨u, us, rfl, h1, h2⟩ := rpl_cons.mp h
    exact rpl_cons.mpr ⟨u, us.set j v, rfl, h1, rpl_set j h2 r⟩
end

section
variable {ι : Type} {F : Fm ι} {K : Kx}
/-! ### x[e], x an object of its own that stays one -/
def dAtO (i : Nat) (φ : Den) : Den := fun ρ => match ρ[i]? with
  | some (.ow _ _) => (match φ ρ with
    | some (.int k, ρ1) => (match ρ1[i]? with
      | some (.ow _ (.lst l)) => (match atI l k with | some d => some (d, ρ1) | none => none)
      | _ => none)
    | _ => none)
  | _ => none
theorem ev_atO {K : Kx} (i : Nat) {t : TE} {φ : Den} (h : Ev K t φ) : Ev K (tOp (rIx K) (tVar i) t) (dAtO i φ) := by
  intro ρ d ρ' e G σ H Q S q
  unfold dAtO at e
  split at e
  · rename_i t0 d0 e0
    obtain ⟨o, ea, a, rfl, _⟩ := S.at_ i _ e0
    split at e
    · rename_i k ρ1 h1
      split at e
      · rename_i t1 l e1
        split at e
        · rename_i z hz
          cases e
          refine ⟨.ref a, ea, ?_⟩
          refine h ρ _ ρ' h1 G σ H _ S fun v G1 H1 g1 S1 r1 => ?_
          obtain ⟨o', ea', b, eb, _, ga, vs, hv, rl⟩ := S1.at_ i _ e1
          rw [ea] at ea'; cases ea'; cases eb
          obtain ⟨u, hu, ru⟩ := rpl_atI rl hz
          exact .inl ⟨a, vs, k, u, rfl, rp_int.mp r1, .inl (.inl hv), hu, q u G1 H1 g1 S1 ru⟩
        · cases e
      · cases e
    · cases e
  · cases e
theorem de_atO (i : Nat) {x : Str} {b : Expr} {φ : Den} {p pos : Pos} (hN : F.N[i]? = some x) (hv : ∀ j, Vis (F.X j).env.scope x) (hb : DE F b φ) (hs : PlainIx b := by exact fun _ _ => rfl) (hd : (x == ("__debug__" : Str)) = false := by decide) (hcd : (x == ("__classdict__" : Str)) = false := by decide) :
    DE F (.Subscript (.Name x p) b pos) (dAtO i φ) := by
  obtain ⟨t, b1, b2⟩ := hb.ex
  refine ⟨tOp (rIx F.K) (tVar i) t, fun j => ?_, ev_atO i b2⟩
  have := pe_ix (X := F.X j) (pos := pos) ix_seq (pe_var (pos := p) (by rw [F.hN j]; exact hN) (hv j) hd hcd) (b1 j) hs
  rw [F.hK j] at this
  exact this
/-- x[e], whatever x is -/
def dAtN (i : Nat) (φ : Den) : Den := dAlt (dAtO i φ) (d2 ixD (dV i) φ)
theorem de_atN (i : Nat) {x : Str} {b : Expr} {φ : Den} {p pos : Pos} (hN : F.N[i]? = some x) (hv : ∀ j, Vis (F.X j).env.scope x) (hb : DE F b φ) (hs : PlainIx b := by exact fun _ _ => rfl) (hd : (x == ("__debug__" : Str)) = false := by decide) (hcd : (x == ("__classdict__" : Str)) = false := by decide) :
    DE F (.Subscript (.Name x p) b pos) (dAtN i φ) :=
  de_alt (de_atO i hN hv hb hs hd hcd) (de_at (de_var i hN hv hd hcd) hb hs)

/-! ### x[e] = v -/
def sSetAt (i : Nat) (φ ψ : Den) : DenS := fun ρ => match φ ρ with
  | some (d, ρ1) => (match ρ1[i]? with
    | some (.ow _ _) => (match ψ ρ1 with
      | some (.int k, ρ2) => (match ρ2[i]? with
        | some (.ow t (.lst l)) => (match ixN l.length k with
          | some j => some (.nx (ρ2.set i (.ow t (.lst (l.set j d)))))
          | none => none)
        | _ => none)
      | _ => none)
    | _ => none)
  | none => none
theorem ds_setAt (i : Nat) {x : Str} {b e : Expr} {φ ψ : Den} {p pt pos : Pos} (hN : F.N[i]? = some x) (hv : ∀ j, Vis (F.X j).env.scope x) (h : DE F e φ) (hb : DE F b ψ) (hd : (x == ("__debug__" : Str)) = false := by decide) (hcd : (x == ("__classdict__" : Str)) = false := by decide)
    (ha : ∀ j v, assign (.Subscript (.Name x p) b pt) (F.X j).env v = (do
      let ov ← holding [v] (eval (.Name x p) (F.X j).env)
      let iv ← holding [v, ov] (eval b (F.X j).env)
      standAt pt
      holding [v, ov, iv] (setItem ov iv v)
      release [v, ov, iv] []) := by intro _ _; rfl)
    (hs : ∀ j, swapsWithSole [.Subscript (.Name x p) b pt] e pos.line (F.X j).env = pure false := by intro _; rfl) (hw : ∀ j, swappedStores [.Subscript (.Name x p) b pt] e (F.X j).env = pure none := by intro _; rfl)
    (h1 : ∀ j, (assignEach [.Subscript (.Name x p) b pt] (F.X j).env).map (·.2) = [assign (.Subscript (.Name x p) b pt) (F.X j).env] := by intro _; rfl) :
    DS F (.Assign [.Subscript (.Name x p) b pt] e pos) (sSetAt i φ ψ) := by
  obtain ⟨t, a1, a2⟩ := h.ex
  obtain ⟨tb, b1, b2⟩ := hb.ex
  refine ⟨_, fun j => ps_asg (a1 j) (pg_sub (pe_var (pos := p) (by rw [F.hN j]; exact hN) (hv j) hd hcd) (b1 j) set_list (ha j)) (hs j) (hw j) (h1 j), ?_⟩
  intro ρ o e G σ H E S q
  unfold sSetAt at e
  split at e
  · rename_i d ρ1 k1
    split at e
    · rename_i t0 d0 e0
      split at e
      · rename_i k ρ2 k2
        split at e
        · rename_i t1 l e1
          split at e
          · rename_i j hj
            cases e
            refine a2 ρ d ρ1 k1 G σ H _ S fun v G1 H1 g1 S1 r1 => ?_
            obtain ⟨o, ea, a, rfl, _⟩ := S1.at_ i _ e0
            refine ⟨.ref a, ea, ?_⟩
            refine b2 ρ1 _ ρ2 k2 G1 σ H1 _ S1 fun u G2 H2 g2 S2 r2 => ?_
            obtain ⟨o', ea', b, eb, _, ga, vs, hv, rl⟩ := S2.at_ i _ e1
            rw [ea] at ea'; cases ea'; cases eb
            refine ⟨a, vs, k, j, rfl, rp_int.mp r2, hv, by rw [rpl_len rl]; exact hj, ?_⟩
            obtain ⟨gw, sw⟩ := Go.write (o := .lst (vs.set j v)) S2.sub hv ga
            obtain ⟨g3, S3⟩ := S2.change e1 ea gw sw ga (d' := .lst (l.set j d)) ⟨_, upd_same, rpl_set j rl (r1.mono g2.gg)⟩
            exact q σ G2 _ ((g1.trans g2).trans g3) S3
          · cases e
        · cases e
      · cases e
    · cases e
  · cases e

/-! ### sep.join(xs) -/
def joinD : D → D → Option D
  | .str z, .lst l => (match strsOf l with
    | some ss => if ((ss.map S).map (·.length)).sum + (ss.map S).length * (S z).length ≤ 16777216 then some (.str (Txt.join (S z) (ss.map S)).cps.toList) else none
    | none => none)
  | _, _ => none
theorem de_join {o e : Expr} {φ ψ : Den} {apos pos : Pos} (ho : DE F o φ) (he : DE F e ψ) (hs : ∀ i, starEach [e] (F.X i).env = [(false, eval e (F.X i).env)] := by intro _; rfl) (hbase : ∀ i, attributeBase o "join" (F.X i).env (eval o (F.X i).env) = eval o (F.X i).env := by intro _; rfl) (hline : (apos.endLine == pos.line) = true := by rfl) :
    DE F (.Call (.Attribute o "join" apos) [e] [] pos) (d2 joinD φ ψ) := by
  obtain ⟨to, a1, a2⟩ := ho.ex
  obtain ⟨te, b1, b2⟩ := he.ex
  refine ⟨_, fun i => by have := pe_join (apos := apos) (pos := pos) (a1 i) (b1 i) (hs i) (hbase i) hline; rw [F.hK i] at this; exact this, ?_⟩
  intro ρ d ρ' e G σ H Q S' q
  unfold d2 at e
  split at e
  · rename_i x ρ1 h1
    split at e
    · rename_i y ρ2 h2
      split at e
      · rename_i z h3
        cases e
        refine a2 ρ x ρ1 h1 G σ H _ S' fun v G1 H1 g1 S1 r1 => ?_
        unfold joinD at h3
        split at h3
        · split at h3
          · rename_i ss hss
            split at h3
            · rename_i hz
              cases h3
              refine ⟨⟨_, rp_str.mp r1⟩, ?_⟩
              refine b2 ρ1 _ ρ' h2 G1 σ H1 _ S1 fun u G2 H2 g2 S2 r2 => ?_
              obtain ⟨a, vs, rfl, ha, ra⟩ := rp_lst.mp r2
              rw [strsOf_eq hss] at ra
              have := rpl_strs.mp ra
              subst this
              refine ⟨_, a, ss.map S, rp_str.mp r1, rfl, .inl (.inl (.inl ?_)), hz, q _ G2 H2 (g1.trans g2) S2 (rp_str.mpr (by rw [S_of]))⟩
              rw [List.map_map]
              exact S2.sub _ _ ha
            · cases h3
          · cases h3
        · cases h3
      · cases e
    · cases e
  · cases e
end
end DL

/-! Dicts made: of a list of pairs, by a comprehension. -/
namespace DL
open PySem PySem.Spec PyProof.Rows L2 RZ

def putD (l : List (KD × D)) (k : KD) (d : D) : List (KD × D) :=
  if (l.any fun p => decide (p.1 = k)) = true then l.map (fun p => if p.1 = k then (p.1, d) else p) else l ++ [(k, d)]
def mergeD (l m : List (KD × D)) : List (KD × D) := m.foldl (fun acc p => putD acc p.1 p.2) l
section
variable {K : PySem.W.Frag} {G : Hp}
theorem rpk_nil {vs : List (Key × V)} : RpK K G vs [] ↔ vs = [] := by
  cases vs with
  | nil => unfold RpK; exact ⟨fun _ => rfl, fun _ => trivial⟩
  | cons _ _ => unfold RpK; exact ⟨fun h => h.elim, fun h => by cases h⟩
theorem rpk_cons {vs : List (Key × V)} {k : KD} {d : D} {l : List (KD × D)} : RpK K G vs ((k, d) :: l) ↔ ∃ v r, vs = (toKey k, v) :: r ∧ Rp K G v d ∧ RpK K G r l := by
  cases vs with
  | nil => unfold RpK; exact ⟨fun h => h.elim, fun ⟨_, _, e, _⟩ => by cases e⟩
  | cons x r =>
    obtain ⟨j, v⟩ := x
    rw [RpK]
    exact ⟨fun h => ⟨v, r, by rw [h.1], h.2.1, h.2.2⟩, fun ⟨_, _, e, h⟩ => by cases e; exact ⟨rfl, h⟩⟩
theorem rpk_len : ∀ {l : List (KD × D)} {vs : List (Key × V)}, RpK K G vs l → vs.length = l.length
  | [], vs, h => by rw [rpk_nil.mp h]; rfl
  | (k, d) :: l, vs, h => by
    obtain ⟨v, r, rfl, _, h2⟩ := rpk_cons.mp h
    rw [List.length_cons, List.length_cons, rpk_len h2]
theorem rpk_any (k : KD) : ∀ {l : List (KD × D)} {vs : List (Key × V)}, RpK K G vs l → (vs.any fun p => decide (p.1 = toKey k)) = l.any fun p => decide (p.1 = k)
  | [], vs, h => by rw [rpk_nil.mp h]; rfl
  | (j, d) :: l, vs, h => by
    obtain ⟨v, r, rfl, _, h2⟩ := rpk_cons.mp h
    rw [List.any_cons, List.any_cons, rpk_any k h2]
    have : decide (toKey j = toKey k) = decide (j = k) := by
      by_cases e : j = k
      · subst e; simp
      · rw [decide_eq_false e, decide_eq_false fun z => e (toKey_inj z)]
    rw [this]
theorem rpk_map (k : KD) {u : V} {z : D} (ru : Rp K G u z) : ∀ {l : List (KD × D)} {vs : List (Key × V)}, RpK K G vs l → RpK K G (vs.map fun p => if p.1 = toKey k then (p.1, u) else p) (l.map fun p => if p.1 = k then (p.1, z) else p)
  | [], vs, h => by rw [rpk_nil.mp h]; exact rpk_nil.mpr rfl
  | (j, d) :: l, vs, h => by
    obtain ⟨v, r, rfl, h1, h2⟩ := rpk_cons.mp h
    rw [List.map_cons, List.map_cons]
    by_cases e : j = k
    · subst e
      rw [if_pos rfl, if_pos rfl]
      exact rpk_cons.mpr ⟨u, _, rfl, ru, rpk_map j ru h2⟩
    · rw [if_neg fun z => e (toKey_inj z), if_neg e]
      exact rpk_cons.mpr ⟨v, _, rfl, h1, rpk_map k ru h2⟩
theorem rpk_app : ∀ {l m : List (KD × D)} {vs us : List (Key × V)}, RpK K G vs l → RpK K G us m → RpK K G (vs ++ us) (l ++ m)
  | [], _, vs, _, h, h' => by rw [rpk_nil.mp h]; exact h'
  | (k, d) :: l, _, vs, _, h, h' => by
    obtain ⟨v, r, rfl, h1, h2⟩ := rpk_cons.mp h
    exact rpk_cons.mpr ⟨v, _, rfl, h1, rpk_app h2 h'⟩
theorem rpk_put {l : List (KD × D)} {vs : List (Key × V)} {k : KD} {u : V} {z : D} (h : RpK K G vs l) (ru : Rp K G u z) : RpK K G (putK vs (toKey k) u) (putD l k z) := by
  unfold putK putD
  rw [rpk_any k h]
  split
  · exact rpk_map k ru h
  · exact rpk_app h (rpk_cons.mpr ⟨u, [], rfl, ru, rpk_nil.mpr rfl⟩)
theorem rpk_merge : ∀ {m l : List (KD × D)} {us vs : List (Key × V)}, RpK K G us m → RpK K G vs l → RpK K G (mergeK vs us) (mergeD l m)
  | [], l, us, vs, h, h' => by rw [rpk_nil.mp h]; exact h'
  | (k, d) :: m, l, us, vs, h, h' => by
    obtain ⟨v, r, rfl, h1, h2⟩ := rpk_cons.mp h
    exact rpk_merge (m := m) (l := putD l k d) (us := r) (vs := putK vs (toKey k) v) h2 (rpk_put h' h1)
end
theorem putD_len (l : List (KD × D)) (k : KD) (d : D) : (putD l k d).length ≤ l.length + 1 := by
  unfold putD
  split
  · rw [List.length_map]; omega
  · rw [List.length_append]; exact Nat.le_refl _

section
variable {ι : Type} {F : Fm ι} {K : Kx}
theorem newO_dk {G H : Hp} {σ : L2.St} {ρ : Rho} {kvs : List (Key × V)} {l : List (KD × D)} {Q : Addr → Hp → Prop} (S : Sx K G σ H ρ) (rl : RpK K G kvs l)
    (q : ∀ a G' H', Go G H (OwA σ ρ) G' H' (OwA σ ρ) → Sx K G' σ H' ρ → H a = none → G' a = none → Own K G' H' a (.dk l) → ¬ OwA σ ρ a → Q a H') : ∀ p, H p = none → Q p (upd H p (.dK kvs)) := by
  intro p hp
  exact q p G _ (Go.newO hp) (S.newO hp) hp (S.sub.free hp) ⟨kvs, upd_same, rl⟩ fun z => by
    obtain ⟨u, e⟩ := S.ow_there _ z
    rw [hp] at e; cases e
/-- dict([(key, value), ..]) -/
def pairsD : List D → Option (List (KD × D))
  | [] => some []
  | .tup [k, d] :: r => (match kOf k, pairsD r with
    | some j, some m => some ((j, d) :: m)
    | _, _ => none)
  | _ => none
def dictP : List D → Option D
  | [.lst l] => (match pairsD l with | some m => some (.dk (mergeD [] m)) | none => none)
  | _ => none
theorem paired_of {K : PySem.W.Frag} {G : Hp} : ∀ {ds : List D} {vs : List V} {m : List (KD × D)}, pairsD ds = some m → RpL K G vs ds →
    ∃ (ps : List Addr) (kvs : List (Key × V)), vs = ps.map V.ref ∧ RpK K G kvs m ∧ Paired (fun p kv => SqT K G p [kV kv.1, kv.2]) ps kvs
  | [], vs, m, e, r => by
    cases e
    rw [rpl_nil.mp r]
    exact ⟨[], [], rfl, rpk_nil.mpr rfl, .nil⟩
  | d :: ds, vs, m, e, r => by
    obtain ⟨v, us, rfl, h1, h2⟩ := rpl_cons.mp r
    unfold pairsD at e
    split at e
    · rename_i eq; cases eq
    · rename_i k z r' eq
      cases eq
      split at e
      · rename_i j m' hk hm
        cases e
        obtain ⟨ps, kvs, rfl, q1, q2⟩ := paired_of hm h2
        obtain ⟨a, xs, rfl, ha, ra⟩ := rp_tup.mp h1
        obtain ⟨x, y, rfl, rx, ry⟩ := rpl_2 ra
        have := kOf_eq hk rx
        subst this
        exact ⟨a :: ps, (toKey j, y) :: kvs, rfl, rpk_cons.mpr ⟨y, kvs, rfl, ry, q1⟩, .cons ha q2⟩
      · cases e
    · cases e
theorem Paired.mono {α β : Type} {R R' : α → β → Prop} {l : List α} {m : List β} (h : Paired R l m) (i : ∀ a b, R a b → R' a b) : Paired R' l m := by
  induction h with
  | nil => exact .nil
  | cons h _ ih => exact .cons (i _ _ h) ih
theorem do_dictP {a : Expr} {p pos : Pos} {φ : Den} (hg : ∀ i, Gl (F.X i) "dict") (hm : F.mg "dict" = none) (ha : DE F a φ) (hs : ∀ i, starEach (a :: []) (F.X i).env = (false, eval a (F.X i).env) :: starEach [] (F.X i).env := by intro _; rfl) : DO F (.Call (.Name "dict" p) [a] [] pos) (dC dictP (dCons φ dNil)) :=
  do_callTy (fun i => by have := call_dictP (F.calm i); rw [F.hK i] at this; exact this) (by
    intro xs ds d e G σ H ρ Q S r q
    unfold dictP at e
    split at e
    · split at e
      · rename_i m hm
        cases e
        obtain ⟨v, rfl, r1⟩ := rpl_1 r
        obtain ⟨p, vs, rfl, hp, rl⟩ := rp_lst.mp r1
        obtain ⟨ps, kvs, rfl, q1, q2⟩ := paired_of hm rl
        exact ⟨p, ps, kvs, rfl, .inl (.inl (S.sub _ _ hp)), Paired.mono q2 fun a b h => SqT.mono S.sub h, newO_dk (Q := fun a H' => Q (.ref a) H') S (rpk_merge q1 (rpk_nil.mpr rfl)) q⟩
      · cases e
    · cases e) hg hm (by decide +kernel) (da_cons ha da_nil hs) (by decide) (by decide) hs

/-! ### {k: v for ..} -/
def dcD (γ : DenG) (tt : DenT) (tk tv : Den) (own : List Nat) : List D → Rho → List (KD × D) → Option (List (KD × D) × Rho)
  | [], ρ, acc => some (acc, ρ)
  | d :: ds, ρ, acc => if ownOk ρ own = true then (match γ d (wipeR ρ own) with
    | none => none
    | some ρ1 => match tt ρ1 with
      | some (true, ρ2) => (match tk ρ2 with
        | some (y, ρ3) => (match kOf y with
          | some k => (match tv ρ3 with
            | some (z, ρ4) => if acc.length < 16777216 then dcD γ tt tk tv own ds (back ρ ρ4 own) (putD acc k z) else none
            | none => none)
          | none => none)
        | none => none)
      | some (false, ρ2) => dcD γ tt tk tv own ds (back ρ ρ2 own) acc
      | none => none) else none
def dDc (it : DenL) (γ : DenG) (tt : DenT) (tk tv : Den) (own : List Nat) : Den := fun ρ => match it ρ with
  | some (ds, ρ1) => (match dcD γ tt tk tv own ds ρ1 [] with
    | some (m, ρ2) => some (.dk m, ρ2)
    | none => none)
  | none => none
theorem ev_dc {wi : TI} {g : TG} {t : TT} {ek ev : TE} {it : DenL} {l own : List Nat} {γ : DenG} {χ : DenT} {φ ψ : Den} (hi : EvI K wi it) (hg : EvG K l g γ) (ht : EvT K t χ) (hk : Ev K ek φ) (hv : Ev K ev ψ) (hl : ∀ i ∈ l, i ∈ own) : EvO K (tDc wi g t ek ev own) (dDc it γ χ φ ψ own) := by
  intro ρ d ρ' e G σ H Q S q
  unfold dDc at e
  split at e
  · rename_i ds ρ1 k
    split at e
    · rename_i m ρ2 k2
      cases e
      refine hi ρ ds ρ1 k G σ H _ S fun J G1 H1 g1 S1 W L hL => ?_
      have LO : ¬ OwA σ ρ1 L := fun z => by
        obtain ⟨u, e⟩ := S1.ow_there _ z
        rw [hL] at e; cases e
      refine ⟨fun i n H' => n = ds.length - i ∧ i ≤ ds.length ∧ ∃ G' ρi acc vs, Go G1 H1 (OwA σ ρ1) G' H' (OwA σ ρi) ∧ Sx K G' σ H' ρi ∧ G' L = none ∧ ¬ OwA σ ρi L ∧ H' L = some (.dK vs) ∧ RpK K G' vs acc ∧ dcD γ χ φ ψ own (ds.drop i) ρi acc = some (m, ρ'),
        ⟨ds.length, by simp, Nat.zero_le _, G1, ρ1, [], [], Go.newO hL, S1.newO hL, S1.sub.free hL, LO, upd_same, rpk_nil.mpr rfl, by simpa using k2⟩, ?_⟩
      rintro i n H' ⟨rfl, hi', G', ρi, acc, vs, g', S', nG, nO, hv', ra, e'⟩
      have w := W G' σ H' ρi i g'.gg S'
      by_cases hlt : i < ds.length
      · have hd : ds[i]? = some ds[i] := List.getElem?_eq_getElem hlt
        rw [List.drop_eq_getElem_cons hlt] at e'
        unfold dcD at e'
        split at e'
        · rename_i ok
          split at e'
          · cases e'
          · rename_i ρ3 eg
            have wS := S'.wipe (own := own)
            have w2 := W G' (wipe σ own) H' (wipeR ρi own) i g'.gg wS
            obtain ⟨go, yl⟩ := w2.1 _ hd
            refine .inr ⟨(w.1 _ hd).1, fun H3 => ∃ G3 ρ3 acc vs, Go G1 H1 (OwA σ ρ1) G3 H3 (OwA σ ρ3) ∧ Sx K G3 σ H3 ρ3 ∧ G3 L = none ∧ ¬ OwA σ ρ3 L ∧ H3 L = some (.dK vs) ∧ RpK K G3 vs acc ∧ dcD γ χ φ ψ own (ds.drop (i + 1)) ρ3 acc = some (m, ρ'), ?_, fun x H2 y => ?_⟩
            · rintro H3 ⟨G3, ρ3, acc, vs, h⟩
              exact ⟨ds.length - (i + 1), by omega, rfl, hlt, G3, ρ3, acc, vs, h⟩
            · obtain ⟨G2, g2, S2, r2⟩ := yl x H2 y
              refine hg _ (wipeR ρi own) ρ3 eg x G2 (wipe σ own) H2 _ S2 r2 fun σ3 g3 S3 w3 => ?_
              have wσ : wipe σ3 own = wipe σ own := (w3 own hl).trans (wipe_wipe σ own)
              refine ⟨wσ, ?_⟩
              have gb := g2.trans g3
              have nOw : ¬ OwA (wipe σ own) (wipeR ρi own) L := fun z => nO ((OwA.wipe ok L).mp z)
              have keep : ∀ {G5 H5 : Hp} {ρ5 : Rho}, Go G' H' (OwA (wipe σ own) (wipeR ρi own)) G5 H5 (OwA σ3 ρ5) → Sx K G5 σ3 H5 ρ5 →
                  Go G1 H1 (OwA σ ρ1) G5 H5 (OwA σ (back ρi ρ5 own)) ∧ Sx K G5 σ H5 (back ρi ρ5 own) ∧ G5 L = none ∧ ¬ OwA σ (back ρi ρ5 own) L ∧ H5 L = some (.dK vs) ∧ RpK K G5 vs acc := by
                intro G5 H5 ρ5 g5 S5
                obtain ⟨S6, l6⟩ := S'.back ok g5.gg S5 wσ
                have g6 : Go G' H' (OwA σ ρi) G5 H5 (OwA σ (back ρi ρ5 own)) := by
                  refine ⟨g5.gg, fun b u h n => g5.hh b u h fun z => n ((OwA.wipe ok b).mp z), fun b u h g n => g5.nw b u h g fun z => n ((OwA.wipe ok b).mp z), fun b h => ?_, g5.dm⟩
                  rcases g5.ow b (l6 b h) with z | z
                  · exact .inl ((OwA.wipe ok b).mp z)
                  · exact .inr z
                refine ⟨g'.trans g6, S6, g5.nw L _ hv' nG nOw, fun z => ?_, g5.hh L _ hv' nOw, RpK.mono g5.gg ra⟩
                rcases g6.ow L z with z | z
                · exact nO z
                · rw [hv'] at z; cases z
              split at e'
              · rename_i ρ4 et
                refine ht ρ3 _ ρ4 et G2 σ3 H2 _ S3 fun G4 H4 g4 S4 => ?_
                rw [if_pos rfl]
                split at e'
                · rename_i y' ρ5 ee
                  split at e'
                  · rename_i kk hkk
                    split at e'
                    · rename_i z' ρ6 ez
                      split at e'
                      · rename_i hz
                        refine hk ρ4 y' ρ5 ee G4 σ3 H4 _ S4 fun v G5 H5 g5 S5 r5 => ?_
                        refine hv ρ5 z' ρ6 ez G5 σ3 H5 _ S5 fun u G6 H6 g6 S6 r6 => ?_
                        obtain ⟨k1, k2, k3, k4, k5, k6⟩ := keep (((gb.trans g4).trans g5).trans g6) S6
                        refine ⟨vs, toKey kk, kOf_eq hkk r5, k5, ?_, ?_⟩
                        · rw [rpk_len k6, sizeLine_eq]; exact hz
                        · refine ⟨G6, back ρi ρ6 own, putD acc kk z', putK vs (toKey kk) u, ?_, ?_, k3, k4, upd_same, rpk_put k6 r6, e'⟩
                          · refine ⟨k1.gg, fun b u h n => ?_, k1.nw, k1.ow, fun b u h => ?_⟩
                            · rw [upd_ne (ne_of_none h hL)]; exact k1.hh b u h n
                            · rw [upd_ne (ne_of_none h hL)]; exact k1.dm b u h
                          · refine ⟨fun b u h => ?_, k2.len, fun j s h => ?_, k2.apart⟩
                            · rw [upd_ne (ne_of_none h k3)]; exact k2.sub b u h
                            · obtain ⟨o, e1, h1⟩ := k2.at_ j s h
                              refine ⟨o, e1, ?_⟩
                              cases s with
                              | no => trivial
                              | sh d => exact h1
                              | ow t d =>
                                obtain ⟨b, e2, e3, e4, e5⟩ := h1
                                have nb : b ≠ L := fun z => k4 (z ▸ ⟨j, t, d, h, by rw [e1, e2]⟩)
                                exact ⟨b, e2, e3, e4, e5.mono (Same.refl _) (upd_ne nb)⟩
                      · cases e'
                    · cases e'
                  · cases e'
                · cases e'
              · rename_i ρ4 et
                refine ht ρ3 _ ρ4 et G2 σ3 H2 _ S3 fun G4 H4 g4 S4 => ?_
                rw [if_neg (by decide)]
                obtain ⟨k1, k2, k3, k4, k5, k6⟩ := keep (gb.trans g4) S4
                exact ⟨G4, back ρi ρ4 own, acc, vs, k1, k2, k3, k4, k5, k6, e'⟩
              · cases e'
        · cases e'
      · have hE : i = ds.length := by omega
        rw [hE, List.drop_length] at e'
        cases e'
        refine .inl ⟨w.2 hE, ?_⟩
        exact q L G' H' (g1.trans g') S' (g1.fresh hL) nG ⟨vs, hv', ra⟩ nO
    · cases e
  · cases e
theorem do_dc {kx vx tg iter : Expr} {ifs : List Expr} {scope : Scope} {own : List (Str × Nat)} {pos : Pos} {it : DenL} {l : List Nat} {γ : DenG} {χ : DenT} {φ ψ : Den} (hi : DI F tg iter it) (ok : ∀ i, BlkOk F.N (F.X i).env.scope scope own)
    (hg : DG (F.blk scope) tg l γ) (ht : DTs (F.blk scope) ifs χ) (hk : DE (F.blk scope) kx φ) (he : DE (F.blk scope) vx ψ) (hl : ∀ i ∈ l, i ∈ own.map (·.2) := by decide) (hs : ∀ j x, foldedSetIterable iter (F.X j).env x = pure x := by intro _ _; rfl) :
    DO F (.DictComp kx vx [⟨tg, iter, ifs, 0⟩] scope pos) (dDc it γ χ φ ψ (own.map (·.2))) := by
  obtain ⟨wi, a1, a2⟩ := hi.ex
  obtain ⟨g, b1, b2⟩ := hg.ex
  obtain ⟨t, c1, c2⟩ := ht.ex
  obtain ⟨te, d1, d2⟩ := he.ex
  obtain ⟨tk, e1, e2⟩ := hk.ex
  exact ⟨_, fun i => pe_dc (F.calm i) (by rw [F.hN i]; exact F.nd) (a1 i) (by rw [F.hN i]; exact ok i) (fun s H C cl fp => b1 (i, s, H, C, cl, fp)) (fun s H C cl fp => c1 (i, s, H, C, cl, fp)) (fun s H C cl fp => e1 (i, s, H, C, cl, fp)) (fun s H C cl fp => d1 (i, s, H, C, cl, fp)) (hs i), ev_dc a2 b2 c2 e2 d2 hl⟩
end
end DL

/-! The sum of a list of truths; a text's signs with their numbers. -/
namespace DL
open PySem PySem.Spec PyProof.Rows L2 RZ

def b2i (b : Bool) : Int := if b = true then 1 else 0
section
variable {prog : Program} {w : World} {A : Around} {E : Value → Shared → Prop} {s : Shared}
theorem sum_bls_raw {l : Addr} {items : Array Value} {bs : List Bool} {Q : Value → Shared → Prop} (hh : A.handled = none) (hl : s.heap.IsList l items) (hi : items.toList = bs.map Value.bool)
    (h : ∀ s' t', s'.gens = s.gens → s'.drawn = s.drawn → s'.os = s.os → (∀ b o, s.heap.get? b = some o → s'.heap.get? b = some o) → Q (.int ((bs.map b2i).sum) t') s') : wpAny (model prog w) A (call (.builtin "sum") [.ref l]) Q E s := by
  have hlt : l < s.heap.objs.size := by obtain ⟨_, e, _⟩ := hl; exact Heap.lt_size e
  have hsz : items.size = bs.length := by rw [← Array.length_toList, hi, List.length_map]
  have hne : l ≠ s.heap.objs.size := Nat.ne_of_lt hlt
  refine call_sum_walkAnyB (wpAny_pyIter_list hl ?_)
  refine ⟨s.heap.objs.size, _, _, _, _, _, _, fun i => (bs.map b2i).getD i 0, rfl, (Walks.list (A := A.in1) hh _ l hne items).toS, ⟨⟨_, Heap.get?_push_size _ rfl, rfl, rfl⟩, hl.push _⟩, fun b hb => ?_, fun i v hv => ?_, fun s' t' m => ?_⟩
  · show b < (s.heap.push _).objs.size
    rw [Heap.size_push]
    have e' : b = s.heap.objs.size ∨ b = l := by simpa using hb
    rcases e' with z | z
    · rw [z]; exact Nat.lt_succ_self _
    · rw [z]; exact Nat.lt_succ_of_lt hlt
  · have hv' : items.toList[i]? = some v := by simpa using hv
    rw [hi, List.getElem?_map] at hv'
    cases hb : bs[i]? with
    | none => rw [hb] at hv'; cases hv'
    | some b =>
      rw [hb] at hv'; cases hv'
      exact .inr ⟨b, rfl, by simp [List.getD_eq_getElem?_getD, hb, b2i]⟩
  · have e : preSum (fun i => (bs.map b2i).getD i 0) items.size = (bs.map b2i).sum := by
      rw [preSum_getD, List.take_of_length_le (by rw [hsz, List.length_map]; exact Nat.le_refl _)]
    rw [e]
    refine h s' t' m.gens m.drawn m.os fun b o hb => m.heap b o (fun z => ?_) (Heap.get?_push_of_some _ hb)
    have e' : b = s.heap.objs.size := by simpa using z
    rw [e'] at hb
    exact Nat.lt_irrefl _ (Heap.lt_size hb)
end
section
variable {X : Cx}
def rSumB (K : PySem.W.Frag) : List V → Hp → VK → Prop := fun vs H Q => ∃ (a : Addr) (bs : List Bool), vs = [V.ref a] ∧ SqL K H a (bs.map V.bl) ∧ Q (.int ((bs.map b2i).sum)) H
theorem vals_bls : ∀ {bs : List Bool} {us : List Value}, Vals (bs.map V.bl) us → us = bs.map Value.bool
  | [], us, r => by
    rw [List.map_nil] at r
    cases r; rfl
  | b :: bs, us, r => by
    rw [List.map_cons] at r
    cases r with
    | cons h t =>
      cases h
      rw [List.map_cons, ← vals_bls t]
theorem cr_sumB (hc : X.calm = true) : CallR X (.builtin "sum") (rSumB X.K) := by
  intro pins s σ H vs us Q I r h
  obtain ⟨a, bs, rfl, hs, q⟩ := h
  obtain ⟨its, rv, hl, _⟩ := I.list hs
  rw [Vals.ref1 r]
  refine sum_bls_raw (I.ok.hd hc) hl.isList (by simpa using vals_bls rv) fun s' t' e1 e2 e3 hk => ?_
  have : s' = { s with heap := s'.heap, toks := s'.toks } := by
    cases s'
    cases s
    simp only at e1 e2 e3
    subst e1 e2 e3
    rfl
  rw [this]
  exact ⟨.int _, H, I.kept (t' := s'.toks) hk, ⟨_, rfl⟩, q⟩
end
section
variable {ι : Type} {F : Fm ι} {K : Kx}
def sumB : List D → Option D
  | [.lst l] => (match blsOf l with | some bs => some (.int (bs.map b2i).sum) | none => none)
  | _ => none
theorem de_sumB {e : Expr} {p pos : Pos} {φ : Den} (hg : ∀ i, Gl (F.X i) "sum") (hm : F.mg "sum" = none) (ha : DE F e φ) (hs : ∀ i, starEach (e :: []) (F.X i).env = (false, eval e (F.X i).env) :: starEach [] (F.X i).env := by intro _; rfl) : DE F (.Call (.Name "sum" p) [e] [] pos) (dC sumB (dCons φ dNil)) :=
  de_callB (fun i => by have := cr_sumB (F.calm i); rw [F.hK i] at this; exact this) (by
    intro xs ds d e G σ H ρ Q S r q
    unfold sumB at e
    split at e
    · split at e
      · rename_i bs hb
        cases e
        obtain ⟨v, rfl, r1⟩ := rpl_1 r
        obtain ⟨a, vs, rfl, ha, ra⟩ := rp_lst.mp r1
        rw [blsOf_eq hb] at ra
        have := rpl_bls.mp ra
        subst this
        exact ⟨a, bs, rfl, .inl (.inl (S.sub _ _ ha)), q _ G H (Go.refl _) S (rp_int.mpr rfl)⟩
      · cases e
    · cases e) hg hm (by decide +kernel) (da_cons ha da_nil hs) (by decide) (by decide) hs
end

/-! ### enumerate of a text -/
def IteS (x : Str) : It :=
  ⟨fun i _ => i < x.cps.size, fun i H v H' => ∃ T c, v = .ref T ∧ H T = none ∧ H' = upd H T (.tup [.int (i : Nat), .str ⟨#[c]⟩]) ∧ x.cps[i]? = some c, fun i _ => i = x.cps.size⟩
theorem turn_enumS {P : Program} {w : World} {K : PySem.W.Frag} {elts : List Expr} {kk : Nat} {tpos : Pos} (e it : Addr) (x : Str) (t : Tok) (ty : String) (hty : ty = "str_ascii_iterator" ∨ ty = "str_iterator") :
    Turn P w K (.Tuple elts kk tpos) (IteS x) [e, it] e (fun i h => (∃ old, IsEnum h e it ((i : Nat) : Int) old) ∧ h.IsStrIter it ty x t i ∧ e ≠ it) where
  mem := by simp
  obj := fun i h st b hb => by
    obtain ⟨⟨old, he⟩, ⟨o, ho, hc, hd⟩, _⟩ := st
    have e' : b = e ∨ b = it := by simpa using hb
    rcases e' with z | z
    · rw [z]; exact ⟨_, he, fun v q => nomatch q⟩
    · rw [z]; exact ⟨o, ho, fun v q => by rw [hd] at q; cases q⟩
  keep := fun i h h' st k =>
    let ⟨⟨old, he⟩, ⟨o, ho, r⟩, hne⟩ := st
    ⟨⟨old, k e (by simp) _ he⟩, ⟨o, k it (by simp) o ho, r⟩, hne⟩
  item := by
    intro X hP hw hK hc i pins s σ H E I hf st hg
    subst hP hw hK
    obtain ⟨⟨old, he⟩, hit, hne⟩ := st
    have dr : Draws X.prog X.w X.A.in1 it [it] x.cps.size (fun i v => ∃ c u, x.cps[i]? = some c ∧ v = .str ⟨#[c]⟩ u) (fun i h => h.IsStrIter it ty x t i) := by
      rcases hty with q | q
      · rw [q]; exact Draws.strAscii (A := X.A.in1) (I.ok.hd hc) it x t
      · rw [q]; exact Draws.strWide (A := X.A.in1) (I.ok.hd hc) it x t
    have hel : e < s.heap.objs.size := Heap.lt_size he
    have hil : it < s.heap.objs.size := by obtain ⟨_, q, _⟩ := hit; exact Heap.lt_size q
    refine wpAny_pyNext_enum_itemD dr he hit hg hne (by simpa using hne) fun u h' tk hu ho hit' hT hsz hk => ?_
    obtain ⟨c, v, hcx, rfl⟩ := hu
    refine ⟨_, rfl, wpAny_letOwnedTupleGo_enum (s := { s with heap := h', toks := tk + 1 }) ho fun h'' he' sb => ?_⟩
    have hT2 : h''.get? s.heap.objs.size = some { cls := .type "tuple", data := .seq #[.int i tk, .str ⟨#[c]⟩ v] } := (sb.2 _ (Nat.ne_of_gt hel)).trans hT
    have new : ObjOk X.prog X.w (upd H s.heap.objs.size (.tup [.int (i : Nat), .str ⟨#[c]⟩])) h'' s.heap.objs.size (.tup [.int (i : Nat), .str ⟨#[c]⟩]) :=
      ⟨by show 2 ≤ sizeLine; decide, [.int i tk, .str ⟨#[c]⟩ v], .cons ⟨_, rfl⟩ (.cons ⟨_, rfl⟩ .nil), ⟨_, hT2, rfl, _, rfl⟩⟩
    have I1 : Inv X pins σ (upd H s.heap.objs.size (.tup [.int (i : Nat), .str ⟨#[c]⟩])) { s with heap := h'', toks := tk + 1 } :=
      I.turnedNew (ch := [e, it]) (fun b ob hb q => (sb.2 b (fun z => hb (by simp [z]))).trans (hk b ob (fun z => hb (by simp [z])) (fun z => hb (by simp [z])) q)) hf (Nat.le_refl _) new
    obtain ⟨oi, hoi, ri⟩ := hit'
    refine ⟨.ref s.heap.objs.size, _, I1, rfl, ⟨_, c, rfl, I.hok.fresh (Nat.le_refl _), rfl, hcx⟩, ⟨⟨.str ⟨#[c]⟩ v, ?_⟩, ⟨oi, (sb.2 it (Ne.symm hne)).trans hoi, ri⟩, hne⟩, fun b hb => ?_⟩
    · have e1 : ((i + 1 : Nat) : Int) = (i : Int) + 1 := by omega
      rw [e1]; exact he'
    · have hb' : b < s.heap.objs.size := by
        have e' : b = e ∨ b = it := by simpa using hb
        rcases e' with z | z
        · rw [z]; exact hel
        · rw [z]; exact hil
      rw [upd_ne (Nat.ne_of_lt hb')]
      exact (hf b hb).1
  done := by
    intro X hP hw hK hc i pins s σ H E I hf st hg
    subst hP hw hK
    obtain ⟨⟨old, he⟩, hit, hne⟩ := st
    have dr : Draws X.prog X.w X.A.in1 it [it] x.cps.size (fun i v => ∃ c u, x.cps[i]? = some c ∧ v = .str ⟨#[c]⟩ u) (fun i h => h.IsStrIter it ty x t i) := by
      rcases hty with q | q
      · rw [q]; exact Draws.strAscii (A := X.A.in1) (I.ok.hd hc) it x t
      · rw [q]; exact Draws.strWide (A := X.A.in1) (I.ok.hd hc) it x t
    obtain ⟨f0, f1, f2, f3, f4, f5⟩ := hf it (by simp)
    have hg : i = x.cps.size := hg
    subst hg
    exact wpAny_pyNext_enum_endD dr he hit fun h' eb => ⟨rfl, I.turned (t' := s.toks) (fun b o hb q => eb b o hb q) f0 f1 f3 f4 f5⟩
  self := fun A i s Q E st h => let ⟨⟨_, he⟩, _⟩ := st; wpAny_pyIter_enum he h
def iEnumS (ta : TA) : TI := fun σ H R => ta σ H fun vs H1 => ∃ x, vs = [.str x] ∧ R (IteS x) H1
theorem pi_enumS {X : Cx} {e : Expr} {ta : TA} {p pos tpos : Pos} {elts : List Expr} {kk : Nat} (hg : Gl X "enumerate") (hm : X.mg "enumerate" = none) (ha : PA X [e] ta) (hs : starEach [e] X.env = [(false, eval e X.env)]) :
    PI X (.Tuple elts kk tpos) (.Call (.Name "enumerate" p) [e] [] pos) (iEnumS ta) := by
  refine ⟨fun pins s σ H R I h => ?_⟩
  refine Call_ (ld_blt I hg hm boot_enumerate (PyProof.Rows.callWith_type1 (thn (ha.run pos pins s σ H _ I h) fun us s1 ⟨vs, H1, I1, r1, q1⟩ => ?_) hs rfl))
  obtain ⟨x, ex, q⟩ := q1
  subst ex
  cases r1 with
  | cons r rr =>
    cases rr
    obtain ⟨t, rfl⟩ := r
    refine call_enumerate_str fun h' he hit hsz hk => wpAny_pyIter_enum he ?_
    have I2 : Inv X pins σ H1 { s1 with heap := h' } := I1.kept (t' := s1.toks) hk
    have hty : strIterType x = "str_ascii_iterator" ∨ strIterType x = "str_iterator" := by
      cases ha : x.cps.all (· < 128)
      · exact .inr (by simp [strIterType, ha])
      · exact .inl (by simp [strIterType, ha])
    refine ⟨s1.heap.objs.size + 1, [s1.heap.objs.size + 1, s1.heap.objs.size], _, _, H1, rfl, I2, turn_enumS (s1.heap.objs.size + 1) s1.heap.objs.size x t _ hty, ⟨⟨.none, he⟩, hit, Nat.succ_ne_self _⟩, fun b hb => ?_, q⟩
    have hle : s1.heap.objs.size ≤ b := by
      have e' : b = s1.heap.objs.size + 1 ∨ b = s1.heap.objs.size := by simpa using hb
      rcases e' with z | z
      · rw [z]; exact Nat.le_succ _
      · rw [z]; exact Nat.le_refl _
    exact I1.fpOk hle (I1.hok.fresh hle)
section
variable {ι : Type} {F : Fm ι} {K : Kx}
theorem wk_enumS {G0 : Hp} {s : Tx} : Wk K (IteS (S s)) G0 (enumL 0 (s.map fun c => .str [c])) := by
  intro G σ H ρ i _ S'
  refine ⟨fun d e => ?_, fun e => ?_⟩
  · rw [enumL_get, List.getElem?_map] at e
    cases h : s[i]? with
    | none => rw [h] at e; cases e
    | some c =>
      rw [h] at e; cases e
      have hi := (List.getElem?_eq_some_iff.mp h).1
      refine ⟨by show i < (S s).cps.size; unfold S; simpa using hi, fun x H' y => ?_⟩
      obtain ⟨T, c', rfl, hT, rfl, e1⟩ := y
      have : (S s).cps[i]? = some c := by unfold S; simpa using h
      rw [this] at e1; cases e1
      exact new_pair S' hT (rp_int.mpr (by rw [Nat.zero_add])) (rp_str.mpr rfl)
  · show i = (S s).cps.size
    rw [e, enumL_len, List.length_map]
    unfold S
    simp
def enumSD : List D → Option (List D)
  | [.str s] => some (enumL 0 (s.map fun c => .str [c]))
  | _ => none
theorem di_enumS {a : Expr} {elts : List Expr} {kk : Nat} {tpos p pos : Pos} {φ : DenL} (hg : ∀ i, Gl (F.X i) "enumerate") (hm : F.mg "enumerate" = none) (ha : DA F [a] φ)
    (hs : ∀ i, starEach [a] (F.X i).env = [(false, eval a (F.X i).env)] := by intro _; rfl) : DI F (.Tuple elts kk tpos) (.Call (.Name "enumerate" p) [a] [] pos) (dLL enumSD φ) := by
  obtain ⟨t, h1, h2⟩ := ha.ex
  refine ⟨iEnumS t, fun i => pi_enumS (hg i) (by rw [F.hmg i]; exact hm) (h1 i) (hs i), ?_⟩
  intro ρ ds ρ' e G σ H R S' q
  unfold dLL at e
  split at e
  · rename_i xs ρ1 k
    split at e
    · rename_i ds' k2
      cases e
      refine h2 ρ xs ρ' k G σ H _ S' fun vs G1 H1 g1 S1 r1 => ?_
      unfold enumSD at k2
      split at k2
      · cases k2
        obtain ⟨v, rfl, r2⟩ := rpl_1 r1
        exact ⟨_, by rw [rp_str.mp r2], q _ G1 H1 g1 S1 wk_enumS⟩
      · cases k2
    · cases e
  · cases e
end
end DL

/-! Words sorted by their rank (length, word). -/
namespace DL
open PySem PySem.Spec PyProof.Rows L2 RZ

/-- a word's rank as data -/
def rankD (z : Str) : PyData := .tuple [.int z.length, .str z]
section
variable {P : Program} {w : World} {K : PySem.W.Frag} {mg : Str → Option Value} {base : Heap}
theorem rank_pure {qual : Str} {st : Stmt} {f : Addr} {fd : FuncData} {k : Nat} {p1 p2 p3 p4 p5 p6 : Pos} {kk : Nat} (F : Fun K "word_rank" qual st f fd) (S : FnScope ["word"] ["word"] (defScope st))
    (hb : defBody st = [.Return (some (.Tuple [.Call (.Name "len" p1) [.Name "word" p2] [] p3, .Name "word" p4] kk p5)) p6]) (hl : List.lookup ("len" : Str) (defScope st).names = some .globalImplicit) (hw : List.lookup ("word" : Str) (defScope st).names = some .local)
    (bd : Binds K fd ["word"] []) (hm : mg "len" = none)
    {A : Around} {outer : List Env} {s : Shared} {H : Hp} (hr : Room (k + 1) A) (e0 : Env0 P w K mg base A outer s H) {z : Str} {t : Tok} (hz : z.length ≤ sizeLine) :
    wpAny (model P w) A (call (.ref f) [.str z t]) (PySem.W.KeyPure (rankD z) s) (fun _ _ => False) s := by
  obtain ⟨oc, od, kV, doc, pm, an, cdv, ct, osl, rfl, lk, hcd⟩ := F.ex
  have KX : K.In s.heap := e0.mod.kin.keeps fun b o e => (e0.bs b o e).1
  have lim : s.heap.NoLimit := e0.mod.nolimit.keeps fun b o e => (e0.bs b o e).1
  have r : Vals [V.str z] [Value.str z t] := .cons ⟨t, rfl⟩ .nil
  refine wpAny_call ?_
  refine codeAny_call_function hr.depth (KX _ _ lk) rfl S.co S.gen rfl (PySem.W.codeRec_of KX hcd) (bd s [.str z t] KX rfl _ _ _ _ ?_)
  refine wpAny_newFunctionEnv_cells S.kind (fun ⟨n, v⟩ hy => ?_) fun env he s1 x => ?_
  · have := (List.of_mem_zip hy).1
    have e : n = "word" := by simpa using this
    rw [e]
    exact .inl hw
  subst he
  refine ⟨lim.keeps x.toInCall.keep, codeAny_func ?_⟩
  have I : Inv (cxOf CX0 P w K mg base ["word"] qual (defScope st) f cdv A outer s H E0) [] (start ["word"] [V.str z]) H s1 := inv_start S hr.hd e0 rfl r x
  have loc : ∀ (s2 : Shared), Inv (cxOf CX0 P w K mg base ["word"] qual (defScope st) f cdv A outer s H E0) [] (start ["word"] [V.str z]) H s2 → ∀ (pos : Pos) (Q : Value → Shared → Prop) (E : Value → Shared → Prop), (∀ t', Q (.str z t') s2) →
      wpAny (model P w) (cxOf CX0 P w K mg base ["word"] qual (defScope st) f cdv A outer s H E0).A (eval (.Name "word" pos) (cxOf CX0 P w K mg base ["word"] qual (defScope st) f cdv A outer s H E0).env) Q E s2 := by
    intro s2 I2 pos Q E q
    obtain ⟨m, hn, hl2⟩ := I2.loc
    obtain ⟨u, r2, l⟩ := hl2 0 "word" (V.str z) rfl rfl (.inl hw)
    obtain ⟨t', rfl⟩ := r2
    rcases l with ⟨hk, hm2⟩ | ⟨hk, c, hc, hcell⟩
    · exact wpAny_Name (wpAny_loadName_local I2.ok.kind hk hn hm2 (q t')) (by decide)
    · rcases hk with hk | hk
      · exact wpAny_Name (wpAny_loadName_cell I2.ok.kind hk hc hcell (q t')) (by decide)
      · exact wpAny_Name (wpAny_loadName_free I2.ok.kind hk hc hcell (q t') (by decide)) (by decide)
  obtain ⟨h1, tk, rfl, hk⟩ := x.done
  show wpAny (model P w) (cxOf CX0 P w K mg base ["word"] qual (defScope st) f cdv A outer s H E0).A (execs (defBody st) (cxOf CX0 P w K mg base ["word"] qual (defScope st) f cdv A outer s H E0).env) _ _ _
  rw [hb]
  have hn := line63
  have hs : sizeLine = 16777216 := sizeLine_eq
  refine wpAny_execs_cons (wpAny_Return_some (wpAny_Tuple_spliced ?_))
  refine Calls.spliced_cons ?_
  refine wpAny_Call_Name_kw (ld_blt I hl hm PySem.boot_len ?_)
  refine callWith_builtin1 (Calls.spliced_cons (loc _ I p2 _ _ fun t' => Calls.spliced_nil ?_)) rfl rfl
  refine len_str (by omega) ?_
  refine Calls.spliced_cons (loc _ (I.tok _) p4 _ _ fun t2 => Calls.spliced_nil ?_)
  refine ⟨by show 2 ≤ sizeLine; rw [hs]; decide, ?_⟩
  refine ⟨_, _, rfl, fun b o e => Heap.get?_push_of_some _ (hk b o e), ?_⟩
  exact .tuple (Heap.get?_push_size _ rfl) rfl rfl (.cons (.int _ _) (.cons (.str _ _) .nil))
end
section
variable {X : Cx}
def StrIs (v : Value) (x : Str) : Prop := ∃ t, v = .str x t
theorem strs_each : ∀ {xs : List Str} {us : List Value}, Vals (xs.map V.str) us → PySem.W.EachIs StrIs us xs
  | [], us, r => by
    rw [List.map_nil] at r
    cases r; exact .nil
  | x :: xs, us, r => by
    rw [List.map_cons] at r
    cases r with
    | cons h t => exact .cons h (strs_each t)
theorem each_strs : ∀ {xs : List Str} {us : List Value}, PySem.W.EachIs StrIs us xs → Vals (xs.map V.str) us
  | [], us, r => by cases r; exact .nil
  | x :: xs, us, r => by
    cases r with
    | cons h t => exact .cons h (each_strs t)
def rRank (K : PySem.W.Frag) (f : Addr) : List V → List V → Hp → VK → Prop := fun vs zs H Q => ∃ (a : Addr) (xs : List Str), vs = [V.ref a] ∧ zs = [V.ref f] ∧ SqL K H a (xs.map V.str) ∧ (∀ x ∈ xs, x.length ≤ sizeLine) ∧
  ∀ p, H p = none → Q (.ref p) (upd H p (.lst ((xs.mergeSort (PySem.W.dataLe false rankD)).map V.str)))
theorem cr_sortRank {qual : Str} {st : Stmt} {f : Addr} {fd : FuncData} {k : Nat} {p1 p2 p3 p4 p5 p6 : Pos} {kk : Nat} (F : Fun X.K "word_rank" qual st f fd) (S : FnScope ["word"] ["word"] (defScope st))
    (hb : defBody st = [.Return (some (.Tuple [.Call (.Name "len" p1) [.Name "word" p2] [] p3, .Name "word" p4] kk p5)) p6]) (hl : List.lookup ("len" : Str) (defScope st).names = some .globalImplicit) (hw : List.lookup ("word" : Str) (defScope st).names = some .local)
    (bd : Binds X.K fd ["word"] []) (hm : X.mg "len" = none) (hr : Room (k + 3) X.A) : CallRK X (.builtin "sorted") [Str.ofString "key"] (rRank X.K f) := by
  intro pins s σ H vs zs us ws Q I r rz h
  obtain ⟨a, xs, rfl, rfl, hs, hx, q⟩ := h
  obtain rfl := Vals.ref1 r
  obtain ⟨w1, rfl, e1⟩ := vals1 rz
  obtain rfl : w1 = Value.ref f := e1
  obtain ⟨its, rv, hl2, hz⟩ := I.list hs
  have e := strs_each rv
  have h3 : Room (k + 1) X.A.in1.in1 := (show Room (k + 2) X.A.in1 from Room.in1 hr).in1
  have hz' : xs.length ≤ sizeLine := by rw [List.length_map] at hz; exact hz
  refine PySem.W.sorted_key_data (b := false) rankD hl2.isList e (PySem.W.AllAlike.of fun _ _ => by simp [PySem.W.alike, PySem.W.alikeAll, rankD]) (PySem.W.Sortable.tuples fun _ => ⟨_, _, rfl⟩) hz' (fun x _ => ?_) (ksk_s1 _ _) (fun _ => ksk_l1 _ _) (fun _ => ksk_t1 _ _)
    (fun v x hv hx2 h tk kp => ?_) fun out c h' tk kp fr hD hlen eo => ?_
  · have hd : (rankD x).depth = 1 := by simp [PyData.depth, PyData.depthAll, rankD]
    have := hr.un
    omega
  · obtain ⟨t, rfl⟩ := hv
    have I2 : Inv X pins σ H { s with heap := h, toks := tk } := I.kept (t' := tk) kp
    exact rank_pure F S hb hl hw bd hm h3 (I2.env0.in1.in1) (hx x hx2)
  · have hlen2 : ((xs.mergeSort (PySem.W.dataLe false rankD)).map V.str).length ≤ sizeLine := by
      rw [List.length_map, List.length_mergeSort]
      exact hz'
    exact ⟨.ref _, upd H (s.heap.objs.size + 1) (.lst ((xs.mergeSort (PySem.W.dataLe false rankD)).map V.str)), I.laid (t' := tk) kp (Nat.le_succ _) ⟨hlen2, out, c, each_strs eo, hD⟩, rfl, q _ (I.hok.fresh (Nat.le_succ _))⟩
end
end DL

/-! max of two texts by their lengths; sorted by rank, over data. -/
namespace DL
open PySem PySem.Spec PyProof.Rows L2 RZ

theorem args_max2k (a b v : Value) : argsOk "max" ⟨[a, b], [(Str.ofString "key", v)]⟩ := by unfold argsOk; kernel_rfl
section
variable {prog : Program} {w : World} {A : Around} {E : Value → Shared → Prop} {s : Shared}
theorem max_two_len {x y : Str} {t u : Tok} {Q : Value → Shared → Prop} (hh : A.handled = none) (hx : x.length ≤ sizeLine) (hy : y.length ≤ sizeLine)
    (h : ∀ h' tk, (∀ c o, s.heap.get? c = some o → h'.get? c = some o) → Q (if y.length > x.length then .str y u else .str x t) { s with heap := h', toks := tk }) :
    wpAny (model prog w) A (call (.builtin "max") [.str x t, .str y u] [(Str.ofString "key", .builtin "len")]) Q E s := by
  have hname : (toString "max" ++ toString ".loop" : String) = "max.loop" := by decide
  have hT : (s.heap.push { cls := .type "tuple", data := .seq #[.str x t, .str y u] }).IsTuple s.heap.objs.size #[.str x t, .str y u] := ⟨_, Heap.get?_push_size _ rfl, rfl, 0, rfl⟩
  have hsz : (s.heap.push { cls := .type "tuple", data := .seq #[.str x t, .str y u] }).objs.size = s.heap.objs.size + 1 := Heap.size_push ..
  refine PyProof.Rows.kmk_tree F.kind_max F.plain_max F.entry_max (args_max2k _ _ _) ?_
  show wpAny _ A.in1 (Builtin.Builtins.bindParams "max" ["key", "default"] 0 ⟨[], [(Str.ofString "key", .builtin "len")]⟩ >>= _) _ _ s
  refine wpAny_bind (wpAny_of_eq (show Builtin.Builtins.bindParams "max" ["key", "default"] 0 ⟨[], [(Str.ofString "key", .builtin "len")]⟩ = pure [some (.builtin "len"), none] from rfl) ?_)
  show wpAny _ A.in1 (newTuple [.str x t, .str y u] >>= _) _ _ s
  refine wpAny_bind (wpAny_newObj_type ?_)
  refine wpAny_bind (wpAny_pyIter_tuple hT ?_)
  refine wpAny_bind (wpAny_newObj_type ?_)
  rw [hname]
  have hI : (s.heap.push { cls := .type "tuple", data := .seq #[.str x t, .str y u] }).objs.size ≠ s.heap.objs.size := by rw [hsz]; exact Nat.succ_ne_self _
  have W := (Walks.tuple (prog := prog) (w := w) (A := A.in1) hh (s.heap.push { cls := .type "tuple", data := .seq #[.str x t, .str y u] }).objs.size s.heap.objs.size (Ne.symm hI) #[.str x t, .str y u]).toS
  have hz2 : ((s.heap.push { cls := .type "tuple", data := .seq #[.str x t, .str y u] }).push { cls := .type "tuple_iterator", data := .fields #[.ref s.heap.objs.size, .int 0 0] }).objs.size = s.heap.objs.size + 2 := by
    rw [Heap.size_push, hsz]
  have hn := line63
  have hsl : sizeLine = 16777216 := sizeLine_eq
  have hSf : ((s.heap.push { cls := .type "tuple", data := .seq #[.str x t, .str y u] }).push { cls := .type "tuple_iterator", data := .fields #[.ref s.heap.objs.size, .int 0 0] }).objs.size ∉ [(s.heap.push { cls := .type "tuple", data := .seq #[.str x t, .str y u] }).objs.size, s.heap.objs.size] := by
    intro z
    rw [hz2, hsz] at z
    rcases List.mem_cons.mp z with z | z
    · exact Nat.succ_ne_self _ z
    · exact absurd (List.mem_singleton.mp z) (Nat.ne_of_gt (Nat.lt_succ_of_lt (Nat.lt_succ_self _)))
  have K : KeyRun prog w A.in1 (.builtin "len") .Gt ((s.heap.push { cls := .type "tuple", data := .seq #[.str x t, .str y u] }).push { cls := .type "tuple_iterator", data := .fields #[.ref s.heap.objs.size, .int 0 0] }).objs.size [(s.heap.push { cls := .type "tuple", data := .seq #[.str x t, .str y u] }).objs.size]
      (fun a b => b = a) (#[.str x t, .str y u] : Array Value).size (fun i v => (#[.str x t, .str y u] : Array Value)[i]? = some v) (fun i s' => s'.heap.IsTupleIter (s.heap.push { cls := .type "tuple", data := .seq #[.str x t, .str y u] }).objs.size s.heap.objs.size i ∧ s'.heap.IsTuple s.heap.objs.size #[.str x t, .str y u])
      (fun s' => ∃ h tk, s' = { s with heap := h, toks := tk } ∧ ∀ c o, s.heap.get? c = some o → h.get? c = some o) (fun i k _ => ∃ q, k = .int ([(x.length : Int), (y.length : Int)].getD i 0) q)
      (fun i j => decide ([(x.length : Int), (y.length : Int)].getD i 0 > [(x.length : Int), (y.length : Int)].getD j 0)) := by
    refine ⟨?_, fun i k s1 s2 h _ => h, ?_, ?_⟩
    · rintro s1 s2 ⟨h1, tk1, rfl, k1⟩ m
      refine ⟨s2.heap, s2.toks, ?_, fun c o e => m.heap c o (fun z => ?_) (k1 c o e)⟩
      · have e1 := m.gens
        have e2 := m.drawn
        have e3 := m.os
        cases s2
        simp only at e1 e2 e3
        rw [e1, e2, e3]
      · have hc := Heap.lt_size e
        rw [hz2, hsz] at z
        rcases List.mem_cons.mp z with z | z
        · exact absurd z (Nat.ne_of_lt (Nat.lt_succ_of_lt (Nat.lt_succ_of_lt hc)))
        · exact absurd (List.mem_singleton.mp z) (Nat.ne_of_lt (Nat.lt_succ_of_lt hc))
    · rintro i v s1 o Q E hi hv ⟨h1, tk1, rfl, k1⟩ st hS q
      rcases i with _ | _ | i
      · have e1 : some (Value.str x t) = some v := hv
        cases e1
        exact len_str (by omega) (q _ _ ⟨_, _, rfl, k1⟩ st hS ⟨_, rfl⟩ fun j k' h => h)
      · have e1 : some (Value.str y u) = some v := hv
        cases e1
        exact len_str (by omega) (q _ _ ⟨_, _, rfl, k1⟩ st hS ⟨_, rfl⟩ fun j k' h => h)
      · exact absurd hv (by simp)
    · rintro i j ki kj s1 Q E _ ⟨q1, rfl⟩ ⟨q2, rfl⟩ h
      exact richCompare_gives (op := .Gt) (typeIs_int s1 _ q1) (typeIs_int s1 _ q2) F.slot_int_gt F.entry_int_gt (F.args_int_gt_2 _ _) (gives_int_gt _ _ q1 q2) (fun x => nomatch x) h
  refine wpAny_pure ⟨plainId_quiet F.plain_max_loop _, codeAny_max_loop_firstKB W _ hSf K _ (by simp) ⟨_, _, rfl, fun c o e => Heap.get?_push_of_some _ (Heap.get?_push_of_some _ (Heap.get?_push_of_some _ e))⟩ ?_ (Heap.get?_push_size _ rfl) fun v s' hP ⟨h', tk', e', k'⟩ => ?_⟩
  · exact ⟨⟨_, Heap.get?_push_of_some _ (Heap.get?_push_size _ rfl), rfl, rfl⟩, (hT.push _).push _⟩
  · subst e'
    have hv : v = if y.length > x.length then Value.str y u else Value.str x t := by
      have hP' : (#[Value.str x t, Value.str y u] : Array Value)[argBest (fun i j => decide ([(x.length : Int), (y.length : Int)].getD i 0 > [(x.length : Int), (y.length : Int)].getD j 0)) 1]? = some v := hP
      by_cases hba : y.length > x.length
      · have e : argBest (fun i j => decide ([(x.length : Int), (y.length : Int)].getD i 0 > [(x.length : Int), (y.length : Int)].getD j 0)) 1 = 1 := by simp [argBest]; omega
        rw [e] at hP'
        rw [if_pos hba]
        simpa using hP'.symm
      · have e : argBest (fun i j => decide ([(x.length : Int), (y.length : Int)].getD i 0 > [(x.length : Int), (y.length : Int)].getD j 0)) 1 = 0 := by simp [argBest]; omega
        rw [e] at hP'
        rw [if_neg hba]
        simpa using hP'.symm
    rw [hv]
    exact h h' tk' k'
end
section
variable {X : Cx}
def rMaxLen : List V → Hp → VK → Prop := fun vs H Q => ∃ x y : Str, vs = [.str x, .str y] ∧ x.length ≤ sizeLine ∧ y.length ≤ sizeLine ∧ Q (.str (if y.length > x.length then y else x)) H
theorem pe_maxLen {a b : Expr} {t : TA} {p p2 kpos pos : Pos} (hc : X.calm = true) (hg : Gl X "max") (hm : X.mg "max" = none) (hgl : Gl X "len") (hml : X.mg "len" = none) (ha : PA X [a, b] t)
    (he : backTo pos (starEach (a :: [b]) X.env) = (false, eval a X.env) :: backTo pos (starEach [b] X.env) := by rfl) (hpl : (backTo pos (starEach (a :: [b]) X.env)).any (·.1) = false := by rfl) :
    PE X (.Call (.Name "max" p) [a, b] [⟨some "key", .Name "len" p2, kpos⟩] pos) (tCB rMaxLen t) := by
  refine ⟨fun pins s σ H Q I h => ?_⟩
  refine wpAny_Call_Name_kw (ld_blt I hg hm (u := .builtin "max") (by decide +kernel) ?_)
  refine PyProof.Rows.callWith_kw (thn (ha.run pos pins s σ H _ I h) fun us s1 ⟨vs, H1, I1, r1, q1⟩ => ?_) he hpl rfl rfl
  show wpAny _ _ (evalAll ((do let v ← eval (.Name "len" p2) X.env; standAt pos; pure v) :: [])) _ _ s1
  refine wpAny_evalAll_cons (wpAny_bind (ld_blt I1 hgl hml PySem.boot_len (wpAny_bind (wpAny_standAt (wpAny_pure (wpAny_evalAll_nil ?_))))))
  obtain ⟨x, y, rfl, hx, hy, q⟩ := q1
  obtain ⟨u, w', rfl, ⟨t1, rfl⟩, ⟨t2, rfl⟩⟩ := vals2 r1
  refine max_two_len (I.ok.hd hc) hx hy fun h' tk k => ⟨_, H1, I1.kept k, ?_, q⟩
  by_cases hj : y.length > x.length
  · rw [if_pos hj, if_pos hj]; exact ⟨_, rfl⟩
  · rw [if_neg hj, if_neg hj]; exact ⟨_, rfl⟩
end
section
variable {ι : Type} {F : Fm ι} {K : Kx}
def maxLen : List D → Option D
  | [.str x, .str y] => if x.length ≤ 16777216 ∧ y.length ≤ 16777216 then some (.str (if y.length > x.length then y else x)) else none
  | _ => none
theorem de_maxLen {a b : Expr} {p p2 kpos pos : Pos} {φ : DenL} (hg : ∀ i, Gl (F.X i) "max") (hm : F.mg "max" = none) (hgl : ∀ i, Gl (F.X i) "len") (hml : F.mg "len" = none) (ha : DA F [a, b] φ)
    (he : ∀ i, backTo pos (starEach (a :: [b]) (F.X i).env) = (false, eval a (F.X i).env) :: backTo pos (starEach [b] (F.X i).env) := by intro _; rfl) (hpl : ∀ i, (backTo pos (starEach (a :: [b]) (F.X i).env)).any (·.1) = false := by intro _; rfl) :
    DE F (.Call (.Name "max" p) [a, b] [⟨some "key", .Name "len" p2, kpos⟩] pos) (dC maxLen φ) := by
  obtain ⟨t, h1, h2⟩ := ha.ex
  refine ⟨_, fun i => pe_maxLen (F.calm i) (hg i) (by rw [F.hmg i]; exact hm) (hgl i) (by rw [F.hmg i]; exact hml) (h1 i) (he i) (hpl i), ?_⟩
  intro ρ d ρ' e G σ H Q S' q
  unfold dC at e
  split at e
  · rename_i xs ρ1 k1
    split at e
    · rename_i z k2
      cases e
      refine h2 ρ xs ρ' k1 G σ H _ S' fun vs G1 H1 g1 S1 r1 => ?_
      unfold maxLen at k2
      split at k2
      · rename_i x y
        split at k2
        · rename_i hxy
          cases k2
          obtain ⟨v, u, rfl, r2, r3⟩ := rpl_2 r1
          refine ⟨S x, S y, by rw [rp_str.mp r2, rp_str.mp r3], by rw [S_len, sizeLine_eq]; exact hxy.1, by rw [S_len, sizeLine_eq]; exact hxy.2, ?_⟩
          refine q _ G1 H1 g1 S1 (rp_str.mpr ?_)
          rw [S_len, S_len]
          split <;> rfl
        · cases k2
      · cases k2
    · cases e
  · cases e

/-! ### sorted(words, key=word_rank) -/
def rankLe (x y : Tx) : Bool := decide (x.length < y.length ∨ (x.length = y.length ∧ x ≤ y))
theorem rank_le (x y : Tx) : PySem.W.dataLe false rankD (S x) (S y) = rankLe x y := by
  unfold rankLe
  rw [PySem.W.dataLe_eq]
  show (!PySem.W.dataLt (rankD (S y)) (rankD (S x))) = _
  unfold rankD
  rw [PySem.W.dataLt_pair (by simp [PySem.W.alike]) (by simp [PySem.W.alike]), PySem.W.dataLt_int, PySem.W.dataLt_str, S_len, S_len]
  have e1 : (S y).cps.toList = y := by unfold S; simp
  have e2 : (S x).cps.toList = x := by unfold S; simp
  rw [e1, e2]
  by_cases h1 : y.length = x.length
  · by_cases h2 : y = x
    · subst h2
      simp [PyData.eqv]
    · have h3 : ¬ S y = S x := fun z => h2 (S_inj z)
      have h4 : (y < x) ↔ ¬ (x ≤ y) := by rw [List.not_le]
      by_cases h5 : x ≤ y
      · simp [PyData.eqv, h1, h3, h5]
      · simp [PyData.eqv, h1, h3, h5, List.not_le.mp h5]
  · by_cases h5 : y.length < x.length
    · have : ¬ x.length < y.length := by omega
      have h6 : ¬ x.length = y.length := by omega
      simp [PyData.eqv, h1, h5, this, h6]
      omega
    · have : x.length < y.length := by omega
      have h6 : ¬ x.length = y.length := by omega
      simp [PyData.eqv, h1, h5, this, h6]
      try omega
def sortRank : D → Option D
  | .lst l => (match strsOf l with
    | some ss => if ss.all (fun x => decide (x.length ≤ 16777216)) = true then some (.lst ((ss.mergeSort rankLe).map .str)) else none
    | none => none)
  | _ => none
theorem do_sortRank {e : Expr} {p p2 kpos pos : Pos} {φ : Den} {qual : Str} {st : Stmt} {f : Addr} {fd : FuncData} {k : Nat} {p1 q2 p3 p4 p5 p6 : Pos} {kk : Nat} (C : Fun F.K "word_rank" qual st f fd) (sc : FnScope ["word"] ["word"] (defScope st))
    (hb : defBody st = [.Return (some (.Tuple [.Call (.Name "len" p1) [.Name "word" q2] [] p3, .Name "word" p4] kk p5)) p6]) (hl : List.lookup ("len" : Str) (defScope st).names = some .globalImplicit) (hw : List.lookup ("word" : Str) (defScope st).names = some .local)
    (bd : Binds F.K fd ["word"] []) (hm : F.mg "len" = none) (hk : k + 3 ≤ F.k) (hg : ∀ i, Gl (F.X i) "sorted") (hms : F.mg "sorted" = none) (hgr : ∀ i, Gl (F.X i) "word_rank") (hmr : F.mg "word_rank" = some (.ref f)) (ha : DE F e φ)
    (hst : ∀ i, starEach [e] (F.X i).env = [(false, eval e (F.X i).env)] := by intro _; rfl)
    (he : ∀ i, backTo pos (starEach (e :: []) (F.X i).env) = (false, eval e (F.X i).env) :: backTo pos (starEach [] (F.X i).env) := by intro _; rfl) (hpl : ∀ i, (backTo pos (starEach (e :: []) (F.X i).env)).any (·.1) = false := by intro _; rfl) :
    DO F (.Call (.Name "sorted" p) [e] [⟨some "key", .Name "word_rank" p2, kpos⟩] pos) (d1 sortRank φ) := by
  obtain ⟨t, h1, h2⟩ := ha.ex
  refine ⟨tCKw (rRank F.K f) (tCons t tNil) (tCons (tC (.ref f)) tNil), fun i => ?_, ?_⟩
  · have hc : CallRK (F.X i) (.builtin "sorted") [Str.ofString "key"] (rRank F.K f) := by
      have := cr_sortRank (X := F.X i) (k := k) (by rw [F.hK i]; exact C) sc hb hl hw (by rw [F.hK i]; exact bd) (by rw [F.hmg i]; exact hm) ((F.room i).mono hk)
      rw [F.hK i] at this
      exact this
    exact pe_callBK (X := F.X i) hc (hg i) (by rw [F.hmg i]; exact hms) (by decide +kernel) (pa_cons (h1 i) pa_nil (hst i)) (pk_cons (pe_glob (hgr i) (by rw [F.hmg i]; exact hmr) rfl) pk_nil) (by decide) (by decide) (he i) (hpl i)
  · intro ρ d ρ' e G σ H Q S' q
    unfold d1 at e
    split at e
    · rename_i x ρ1 k1
      split at e
      · rename_i z k2
        cases e
        refine h2 ρ x ρ' k1 G σ H _ S' fun v G1 H1 g1 S1 r1 => ?_
        unfold sortRank at k2
        split at k2
        · split at k2
          · rename_i ss hss
            split at k2
            · rename_i hz
              cases k2
              obtain ⟨a, vs, rfl, ha2, ra⟩ := rp_lst.mp r1
              rw [strsOf_eq hss] at ra
              have := rpl_strs.mp ra
              subst this
              refine ⟨a, ss.map S, rfl, rfl, .inl (.inl ?_), fun x hx => ?_, ?_⟩
              · rw [List.map_map]
                exact S1.sub _ _ ha2
              · obtain ⟨y, hy, rfl⟩ := List.mem_map.mp hx
                have := List.all_eq_true.mp hz y hy
                rw [S_len, sizeLine_eq]
                exact of_decide_eq_true this
              · rw [← List.map_mergeSort (r := rankLe) (fun a _ b _ => (rank_le a b).symm), List.map_map]
                exact newO_lst (Q := fun a H' => Q (.ref a) H') S1 (rpl_strs.mpr rfl) fun a G2 H2 g2 S2 n1 n2 o no => q a G2 H2 (g1.trans g2) S2 (g1.fresh n1) n2 o no
            · cases k2
          · cases k2
        · cases k2
      · cases e
    · cases e
end
end DL

/-! The table of a set, any mask whose round meets all slots (also 511): a search ends, what lies in is met, laying anew keeps all. -/
namespace DL
open PySem PySem.Spec PyProof.Rows L2 RZ

/-! ### rounds -/
def orbit (m : Nat) : Nat → Nat → List Nat
  | 0, _ => []
  | n + 1, x => x :: orbit m n ((x * 5 + 1) % (m + 1))
theorem orbit_at (m : Nat) : ∀ (n a k : Nat), k < n → (orbit m n (lcgN m a))[k]? = some (lcgN m (a + k))
  | 0, _, _, h => absurd h (Nat.not_lt_zero _)
  | n + 1, a, 0, _ => rfl
  | n + 1, a, k + 1, h => by
    have e : a + (k + 1) = (a + 1) + k := by omega
    rw [e]
    exact orbit_at m n (a + 1) k (Nat.lt_of_succ_lt_succ h)
theorem orbit_len (m : Nat) : ∀ (n x : Nat), (orbit m n x).length = n
  | 0, _ => rfl
  | n + 1, x => by rw [orbit, List.length_cons, orbit_len m n]
structure Full (m : Nat) : Prop where
  odd : m % 2 = 1
  ring : ∀ i j, i ≤ m → j ≤ m → ∃ n, n ≤ m ∧ lcgI m i n = j
theorem full_of {m : Nat} (o : m % 2 = 1) (r : lcgN m (m + 1) = 0) (c : ((List.range (m + 1)).all fun j => (orbit m (m + 1) 0).contains j) = true) : Full m := by
  have at0 : ∀ j, j ≤ m → ∃ b, b ≤ m ∧ lcgN m b = j := fun j hj => by
    have := List.all_eq_true.mp c j (List.mem_range.mpr (Nat.lt_succ_of_le hj))
    obtain ⟨b, hb, e⟩ := List.getElem_of_mem (List.contains_iff_mem.mp this)
    rw [orbit_len] at hb
    have q := orbit_at m (m + 1) 0 b hb
    rw [List.getElem?_eq_getElem (by rw [orbit_len]; exact hb), Nat.zero_add] at q
    exact ⟨b, Nat.le_of_lt_succ hb, (Option.some.inj q).symm.trans e⟩
  have per : ∀ k, lcgN m (m + 1 + k) = lcgN m k := fun k => by
    induction k with
    | zero => exact r
    | succ k ih =>
      show (lcgN m (m + 1 + k) * 5 + 1) % (m + 1) = _
      rw [ih]
      rfl
  refine ⟨o, fun i j hi hj => ?_⟩
  obtain ⟨a, ha, ea⟩ := at0 i hi
  obtain ⟨b, hb, eb⟩ := at0 j hj
  subst ea eb
  by_cases c : a ≤ b
  · exact ⟨b - a, by omega, by rw [lcgN_add]; congr 1; omega⟩
  · refine ⟨m + 1 + b - a, by omega, ?_⟩
    rw [lcgN_add, ← per b]
    congr 1
    omega
theorem full7 : Full 7 := full_of rfl (by decide +kernel) (by decide +kernel)
theorem full31 : Full 31 := full_of rfl (by decide +kernel) (by decide +kernel)
theorem full127 : Full 127 := full_of rfl (by decide +kernel) (by decide +kernel)
theorem full511 : Full 511 := full_of rfl (by decide +kernel) (by decide +kernel)

theorem Full.run {m : Nat} (f : Full m) (h : Int) {j : Nat} (hj : j ≤ m) : ∃ n, n < SetTable.turns m ∧ runI m (SetTable.bits h) n = j := by
  obtain ⟨n, hn, e⟩ := f.ring _ j (runI_le m (SetTable.bits h) 12) hj
  exact ⟨12 + n, by unfold SetTable.turns; omega, (runI_tail (bits_lt h) n).trans e⟩
theorem Full.meets {m : Nat} (f : Full m) (h : Int) {j : Nat} (hj : j ≤ m) : ∃ k, k < 10 * SetTable.turns m ∧ way m h k = j := by
  obtain ⟨n, hn, e⟩ := f.run h hj
  obtain ⟨k, hk, q⟩ := run_nth m (SetTable.bits h) n
  exact ⟨k, by omega, (congrArg SetTable.Probe.j q).trans e⟩
theorem way_in (m : Nat) (h : Int) (k : Nat) : way m h k ≤ m := by
  have b := runEnd_bd (m := m) (i := SetTable.bits h % (m + 1)) (Nat.le_of_lt_succ (Nat.mod_lt (SetTable.bits h) (Nat.succ_pos m)))
  have := nth_in (m := m) k (runAt m (SetTable.bits h % (m + 1)) (SetTable.bits h)) (by
    show SetTable.bits h % (m + 1) + (SetTable.runEnd m (SetTable.bits h % (m + 1)) - SetTable.bits h % (m + 1)) ≤ m
    omega)
  exact Nat.le_trans (Nat.le_add_right _ _) this

/-! ### the table -/
structure Tab (t : SetTable) (hs : List Int) : Prop where
  asc : Ris t.place.toList
  clean : t.dummies = #[]
  count : t.place.size = hs.length
  full : Full t.mask
  low : ∀ x ∈ t.place.toList, x ≤ t.mask
  met : ∀ (i : Nat) (h : Int) (j : Nat), hs[i]? = some h → t.place.toList[i]? = some j → ∃ k, way t.mask h k = j ∧ ∀ q, q < k → way t.mask h q ∈ t.place.toList
theorem Tab.len {t : SetTable} {hs : List Int} (T : Tab t hs) : t.place.toList.length = hs.length := by
  rw [Array.length_toList, T.count]
theorem Tab.gap {t : SetTable} {hs : List Int} (T : Tab t hs) (hl : hs.length ≤ t.mask) (h : Int) : ∃ n, n < 10 * SetTable.turns t.mask ∧ way t.mask h n ∉ t.place.toList ∧ ∀ k, k < n → way t.mask h k ∈ t.place.toList := by
  obtain ⟨j, hj, no⟩ := st_missing t.place.toList (t.mask + 1) (by rw [T.len]; omega)
  obtain ⟨k, hk, e⟩ := T.full.meets h (Nat.le_of_lt_succ hj)
  obtain ⟨n, h1, h2, h3⟩ := st_least (p := fun q => ¬ way t.mask h q ∈ t.place.toList) k (fun z => no (e ▸ z))
  exact ⟨n, Nat.lt_of_le_of_lt h1 hk, h2, fun q hq => Classical.byContradiction fun z => h3 q hq z⟩
theorem Tab.ahead {t : SetTable} {hs : List Int} (T : Tab t hs) {h : Int} {n i j : Nat} (hn : way t.mask h n ∉ t.place.toList) (hi : hs[i]? = some h) (hj : t.place.toList[i]? = some j) : ∃ k, k < n ∧ way t.mask h k = j := by
  obtain ⟨k, e, all⟩ := T.met i h j hi hj
  by_cases c : k < n
  · exact ⟨k, c, e⟩
  · by_cases d : k = n
    · subst d
      exact absurd (List.mem_of_getElem? hj) (e ▸ hn)
    · exact absurd (all n (by omega)) hn
theorem Tab.add {t : SetTable} {hs : List Int} (T : Tab t hs) {h : Int} {n : Nat} (hn : way t.mask h n ∉ t.place.toList) (all : ∀ k, k < n → way t.mask h k ∈ t.place.toList) {t1 : SetTable} {p : Nat} (e : t.put (way t.mask h n) = (t1, p)) :
    p ≤ hs.length ∧ Tab t1 (hs.take p ++ h :: hs.drop p) ∧ t1.mask = t.mask ∧ t1.led = t.led ∧ t1.plain = t.plain ∧ t1.fill = hs.length + 1 := by
  have ep : p = SetTable.below t.place (way t.mask h n) := (congrArg Prod.snd e).symm
  have et : t1 = (t.put (way t.mask h n)).1 := (congrArg Prod.fst e).symm
  obtain ⟨le, _, _⟩ := below_cut T.asc (way t.mask h n)
  have pl : p ≤ hs.length := by rw [ep, ← T.count]; exact le
  have pl2 : p ≤ t.place.toList.length := by rw [T.len]; exact pl
  have at1 : t1.place.toList = t.place.toList.take p ++ way t.mask h n :: t.place.toList.drop p := by rw [et, ep]; exact put_place t _
  have em : t1.mask = t.mask := by rw [et]; rfl
  have size1 : t1.place.size = hs.length + 1 := by rw [← Array.length_toList, at1, len_ins _ pl2, T.len]
  have ed : t1.dummies = #[] := by rw [et]; exact put_dm T.clean _
  have more : ∀ {x : Nat}, x ∈ t.place.toList → x ∈ t1.place.toList := fun hx => by rw [at1]; exact mem_ins.mpr (.inr hx)
  have new : t.place[SetTable.below t.place (way t.mask h n)]? ≠ some (way t.mask h n) := fun z => hn (List.mem_of_getElem? (by rw [Array.getElem?_toList]; exact z))
  refine ⟨pl, ⟨?_, ed, by rw [len_ins _ pl]; exact size1, by rw [em]; exact T.full, fun x hx => ?_, fun i h' j h1 h2 => ?_⟩, em, by rw [et]; rfl, by rw [et]; rfl, ?_⟩
  · rw [et]; exact ris_insert T.asc new
  · rw [em]
    rw [at1] at hx
    rcases mem_ins.mp hx with z | z
    · rw [z]; exact way_in _ _ _
    · exact T.low x z
  · rw [tins_get hs pl] at h1
    rw [at1, tins_get _ pl2] at h2
    rw [em]
    have old : ∀ a, hs[a]? = some h' → t.place.toList[a]? = some j → ∃ k, way t.mask h' k = j ∧ ∀ q, q < k → way t.mask h' q ∈ t1.place.toList := fun a x y => by
      obtain ⟨k, c1, c2⟩ := T.met a h' j x y
      exact ⟨k, c1, fun q hq => more (c2 q hq)⟩
    by_cases c : i < p
    · rw [if_pos c] at h1 h2
      exact old i h1 h2
    · rw [if_neg c] at h1 h2
      by_cases d : i = p
      · rw [if_pos d] at h1 h2
        cases h1
        cases h2
        exact ⟨n, rfl, fun q hq => more (all q hq)⟩
      · rw [if_neg d] at h1 h2
        exact old _ h1 h2
  · unfold SetTable.fill
    rw [size1, ed]
    rfl

/-! ### laid anew -/
theorem Full.free {m : Nat} (f : Full m) (owner : Array (Option Nat)) (h : Int) {j : Nat} (hj : j ≤ m) (e : oAt owner j = none) :
    ∃ n, SetTable.layClean.free m owner (SetTable.turns m) (SetTable.bits h % (m + 1)) (SetTable.bits h) = some (way m h n) ∧ oAt owner (way m h n) = none ∧ ∀ k, k < n → oAt owner (way m h k) ≠ none := by
  obtain ⟨r, hr, er⟩ := f.run h hj
  have there : oAt owner (way m h (off m (SetTable.bits h % (m + 1)) (SetTable.bits h) r)) = none := by
    have : way m h (off m (SetTable.bits h % (m + 1)) (SetTable.bits h) r) = runI m (SetTable.bits h) r := by
      unfold way
      rw [nth_off, itL_run]
      rfl
    rw [this, er]
    exact e
  obtain ⟨n, n1, n2, n3⟩ := st_least (p := fun q => oAt owner (way m h q) = none) _ there
  refine ⟨n, free_spec m owner _ r _ _ n hr n1 (fun k hk => ?_) (by show (oAt owner (way m h n)).isNone = true; rw [n2]; rfl), n2, n3⟩
  have := n3 k hk
  show (oAt owner (way m h k)).isNone = false
  cases q : oAt owner (way m h k) with
  | none => exact absurd q this
  | some _ => rfl
/-- one more is laid -/
theorem Full.lay {m : Nat} (f : Full m) {done : List Int} {owner : Array (Option Nat)} (W : L2.Own m done owner) (hl : done.length ≤ m) (h : Int) :
    ∃ j, SetTable.layClean.free m owner (SetTable.turns m) (SetTable.bits h % (m + 1)) (SetTable.bits h) = some j ∧ L2.Own m (done ++ [h]) (owner.setIfInBounds j (some done.length)) := by
  obtain ⟨ps, lp, sub⟩ := W.ps
  obtain ⟨j0, a0, b0⟩ := st_missing ps (m + 1) (by omega)
  have none0 : oAt owner j0 = none := Classical.byContradiction fun z => b0 (sub j0 (Nat.le_of_lt_succ a0) z)
  obtain ⟨n, e1, e2, e3⟩ := f.free owner h (Nat.le_of_lt_succ a0) none0
  have inb : way m h n < owner.size := by rw [W.sz]; exact Nat.lt_succ_of_le (way_in m h n)
  have here := oAt_set_self (some done.length) inb
  have still : ∀ {i : Nat}, oAt owner i ≠ none → oAt (owner.setIfInBounds (way m h n) (some done.length)) i ≠ none := fun {i} hi => by
    by_cases c : i = way m h n
    · rw [c, here]; exact Option.some_ne_none _
    · rw [oAt_set_ne _ c]; exact hi
  have len1 : (done ++ [h]).length = done.length + 1 := by simp
  refine ⟨way m h n, e1, ⟨by rw [Array.size_setIfInBounds, W.sz], fun j k hj e => ?_, fun k hk => ?_, way m h n :: ps, by rw [List.length_cons, len1, lp], fun j hj e => ?_⟩⟩
  · by_cases c : j = way m h n
    · subst c
      rw [here] at e
      cases e
      exact ⟨h, n, by simp, rfl, fun q hq => still (e3 q hq)⟩
    · rw [oAt_set_ne _ c] at e
      obtain ⟨h', k', c1, c2, c3⟩ := W.at_ j k hj e
      exact ⟨h', k', by rw [List.getElem?_append_left (List.getElem?_eq_some_iff.mp c1).1]; exact c1, c2, fun q hq => still (c3 q hq)⟩
  · by_cases c : k = done.length
    · subst c
      exact ⟨_, way_in m h n, here⟩
    · obtain ⟨j, hj, e⟩ := W.all k (by omega)
      refine ⟨j, hj, ?_⟩
      rw [oAt_set_ne _ fun z => ?_]
      · exact e
      · rw [z, e2] at e; cases e
  · by_cases c : j = way m h n
    · rw [c]; exact List.mem_cons_self
    · rw [oAt_set_ne _ c] at e
      exact List.mem_cons_of_mem _ (sub j hj e)
theorem Full.layAll {m : Nat} (f : Full m) : ∀ (rest done : List Int) (owner : Array (Option Nat)), L2.Own m done owner → done.length + rest.length ≤ m →
    ∃ w', rest.foldl (stepF m) (some (owner, done.length)) = some (w', (done ++ rest).length) ∧ L2.Own m (done ++ rest) w'
  | [], done, owner, W, _ => ⟨owner, by simp, by simpa using W⟩
  | h :: rest, done, owner, W, hl => by
    rw [List.length_cons] at hl
    obtain ⟨j, e, W1⟩ := f.lay W (by omega) h
    obtain ⟨w', g, W2⟩ := f.layAll rest (done ++ [h]) _ W1 (by simp; omega)
    refine ⟨w', ?_, by simpa using W2⟩
    rw [List.foldl_cons, stepF_some e]
    simpa using g
theorem Full.relaid {m : Nat} (f : Full m) (t : SetTable) {hs : Array Int} {wanted : Nat} (hw : SetTable.sizeAbove wanted - 1 = m) (hn : hs.size ≤ m) :
    ∃ t1 order, t.relaid hs wanted = some (t1, order) ∧ order.toList.Perm (List.range hs.size) ∧ Tab t1 (order.toList.map fun i => hs.getD i 0) ∧ t1.mask = m ∧ t1.led = t.led ∧ t1.plain = t.plain := by
  obtain ⟨w', g, W⟩ := f.layAll hs.toList [] _ (L2.Own.init m) (by simpa using hn)
  rw [List.nil_append] at W
  have lc : SetTable.layClean m hs = some w' := by
    rw [layClean_eq]
    have g' : hs.toList.foldl (stepF m) (some (Array.replicate (m + 1) none, 0)) = some (w', ([] ++ hs.toList).length) := g
    rw [g']
    rfl
  have ans : t.relaid hs wanted = some (tabOf t m w', ((liveOf m w').map (·.2)).toArray) := by
    rw [relaid_eq, hw, lc]
    rfl
  obtain ⟨r1, r2⟩ := ris_live (fun j => w'.getD j none) (List.range (m + 1)) (by unfold Ris; exact List.pairwise_lt_range)
  have r1 : Ris ((liveOf m w').map (·.1)) := r1
  have r2 : ∀ x ∈ (liveOf m w').map (·.1), x ∈ List.range (m + 1) := r2
  have many : (liveOf m w').length = hs.size := by
    obtain ⟨ps, lp, sub⟩ := W.ps
    have up := nat_nodup_len ((liveOf m w').map (·.1)) ps (List.Pairwise.imp (fun h => Nat.ne_of_lt h) (show List.Pairwise (fun a b => a < b) ((liveOf m w').map (·.1)) from r1)) fun x hx => by
      obtain ⟨⟨y, k⟩, hq, e⟩ := List.mem_map.mp hx
      obtain ⟨c1, c2⟩ := (mem_live W.sz).mp hq
      cases e
      exact sub y c1 (by rw [c2]; exact Option.some_ne_none _)
    have down := nat_nodup_len (List.range hs.size) ((liveOf m w').map (·.2)) List.nodup_range fun k hk => by
      obtain ⟨j, c1, c2⟩ := W.all k (by simpa using List.mem_range.mp hk)
      exact List.mem_map.mpr ⟨(j, k), (mem_live W.sz).mpr ⟨c1, c2⟩, rfl⟩
    simp only [List.length_map, List.length_range, lp, Array.length_toList] at up down
    omega
  refine ⟨_, _, ans, perm_range _ _ (by simpa using many) fun k hk => ?_, ⟨r1, rfl, by simp [tabOf], f, fun x hx => Nat.le_of_lt_succ (List.mem_range.mp (r2 x hx)), fun i h j h1 h2 => ?_⟩, rfl, rfl, rfl⟩
  · obtain ⟨j, c1, c2⟩ := W.all k (by simpa using hk)
    exact List.mem_map.mpr ⟨(j, k), (mem_live W.sz).mpr ⟨c1, c2⟩, rfl⟩
  · have h1 : (((liveOf m w').map (·.2)).map fun i => hs.getD i 0)[i]? = some h := h1
    have h2 : ((liveOf m w').map (·.1))[i]? = some j := h2
    rw [List.getElem?_map, List.getElem?_map] at h1
    rw [List.getElem?_map] at h2
    cases hq : (liveOf m w')[i]? with
    | none => rw [hq] at h2; cases h2
    | some q =>
      obtain ⟨y, k⟩ := q
      rw [hq] at h1 h2
      cases h2
      obtain ⟨c1, c2⟩ := (mem_live W.sz).mp (List.mem_of_getElem? hq)
      obtain ⟨h0, n, d1, d2, d3⟩ := W.at_ _ k c1 c2
      have : h0 = h := by
        have e0 : hs.getD k 0 = h0 := by
          rw [Array.getElem?_toList] at d1
          simp [Array.getD_eq_getD_getElem?, d1]
        exact e0.symm.trans (Option.some.inj h1)
      subst this
      refine ⟨n, d2, fun q hq => ?_⟩
      show way m h0 q ∈ (liveOf m w').map (·.1)
      cases z : oAt w' (way m h0 q) with
      | none => exact absurd z (d3 q hq)
      | some k2 => exact List.mem_map.mpr ⟨(_, k2), (mem_live W.sz).mpr ⟨way_in m h0 q, z⟩, rfl⟩
end DL

/-! A set of tuples of ints and texts: searched, added to, made of a list, sorted. -/
namespace DL
open PySem PySem.Spec PyProof.Rows L2 RZ

abbrev Row := Addr × List Key
abbrev mHash (P : Program) (w : World) (k : List Key) : Int := tupleKeyHash (mixKind P w) k
abbrev IsM (P : Program) (w : World) (h : Heap) (k : List Key) (a : Addr) : Prop := IsTupleKey (mixKind P w) h k a
def Flat (v : Value) : Prop := (∃ i t, v = Value.int i t) ∨ ∃ x t, v = Value.str x t

section
variable {P : Program} {w : World} {A : Around} {E : Value → Shared → Prop} {s : Shared}
theorem flat_items {k : List Key} {vs : List Value} (h : PySem.ItemsAre (mixKind P w) k vs) : ∀ v ∈ vs, Flat v := by
  induction h with
  | nil => exact fun v hv => nomatch hv
  | cons h1 _ ih =>
    intro v hv
    rcases List.mem_cons.mp hv with e | hv
    · rcases keyIs_shape h1 with ⟨i, t, _, z⟩ | ⟨x, t, _, z⟩
      · exact .inl ⟨i, t, e.trans z⟩
      · exact .inr ⟨x, t, e.trans z⟩
    · exact ih v hv
theorem Flat.noClass {v : Value} (f : Flat v) (n : Nat) : ofAClassStatement n v = pure false := by
  rcases f with ⟨i, t, rfl⟩ | ⟨x, t, rfl⟩ <;> cases n <;> rfl
theorem Flat.hashes {v : Value} (f : Flat v) (n : Nat) : hashByValue n v = pure true ∨ hashByValue n v = pure false := by
  rcases f with ⟨i, t, rfl⟩ | ⟨x, t, rfl⟩
  · left; cases n <;> rfl
  · right; cases n <;> rfl
theorem noClass_m {k : List Key} {b : Addr} {Q : Bool → Shared → Prop} (hk : IsM P w s.heap k b) (h : Q false s) : wpAny (model P w) A (ofAClassStatement 8 (.ref b)) Q E s := by
  have hT := hk.typeIs
  obtain ⟨o, its, n, ho, _, hd, hi⟩ := hk
  have fl := flat_items hi
  unfold ofAClassStatement
  refine wpAny_bind (wpAny_typeOf hT ?_)
  dsimp only
  have same : (("tuple" : String) == "tuple") = true := by decide
  simp only [same, if_true, Bool.not_true, Bool.false_eq_true, if_false]
  try refine wpAny_bind (wpAny_pure ?_)
  try simp only [Bool.not_true, Bool.false_eq_true, if_false]
  show wpAny _ _ (seqItems? (.ref b) >>= _) _ _ s
  refine wpAny_bind (wpAny_seqItems ho hd ?_)
  dsimp only
  refine wpAny_bind ?_
  show wpAny _ _ (forIn its _ _) _ _ s
  rw [← Array.forIn_toList]
  refine wpAny_forIn_list _ (fun rest r z => (r.1 = none ∧ z = s) ∧ ∀ v ∈ rest, Flat v) _ ?_ ?_ _ _ ⟨⟨rfl, rfl⟩, fl⟩
  · rintro v rest r z ⟨⟨hr, rfl⟩, all⟩
    rw [(all v List.mem_cons_self).noClass]
    refine wpAny_bind (wpAny_pure ?_)
    simp only [Bool.false_eq_true, if_false]
    exact wpAny_pure ⟨⟨rfl, rfl⟩, fun u hu' => all u (List.mem_cons_of_mem _ hu')⟩
  · rintro ⟨r1, r2⟩ z ⟨⟨hr, rfl⟩, _⟩
    dsimp only at hr
    subst hr
    exact wpAny_pure h
theorem hashes_m {k : List Key} {b : Addr} {Q : Bool → Shared → Prop} (hk : IsM P w s.heap k b) (h : ∀ r, Q r s) : wpAny (model P w) A (hashByValue 8 (.ref b)) Q E s := by
  have hT := hk.typeIs
  obtain ⟨o, its, n, ho, _, hd, hi⟩ := hk
  have fl := flat_items hi
  unfold hashByValue
  refine wpAny_bind (wpAny_specialOf hT F.slot_tuple_hash.lookup ?_)
  show wpAny _ _ (seqItems? (.ref b) >>= _) _ _ s
  refine wpAny_bind (wpAny_seqItems ho hd (wpAny_bind ?_))
  show wpAny _ _ (forIn its _ _) _ _ s
  rw [← Array.forIn_toList]
  refine wpAny_forIn_list _ (fun rest r z => (r.1 = none ∧ z = s) ∧ ∀ v ∈ rest, Flat v) _ ?_ ?_ _ _ ⟨⟨rfl, rfl⟩, fl⟩
  · rintro v rest r z ⟨⟨hr, rfl⟩, all⟩
    rcases (all v List.mem_cons_self).hashes 7 with e | e
    · rw [e]
      refine wpAny_bind (wpAny_pure ?_)
      simp only [Bool.not_true, Bool.false_eq_true, if_false]
      exact wpAny_pure ⟨⟨rfl, rfl⟩, fun u hu' => all u (List.mem_cons_of_mem _ hu')⟩
    · rw [e]
      refine wpAny_bind (wpAny_pure ?_)
      simp only [Bool.not_false, if_true]
      exact wpAny_pure (wpAny_pure (h false))
  · rintro ⟨r1, r2⟩ z ⟨⟨hr, rfl⟩, _⟩
    dsimp only at hr
    subst hr
    exact wpAny_pure (h true)
theorem unseen_m {k : List Key} {b : Addr} {Q : Bool → Shared → Prop} (hk : IsM P w s.heap k b) {ys : List Value} (hy : ∀ y ∈ ys, ∃ k' c, y = Value.ref c ∧ IsM P w s.heap k' c) (h : Q false s) :
    wpAny (model P w) A (searchCouldBeSeen (.ref b) ys) Q E s := by
  unfold searchCouldBeSeen
  refine wpAny_bind (wpAny_forIn_list _ (fun rest r z => (r.1 = none ∧ z = s) ∧ ∀ y ∈ rest, ∃ k' c, y = Value.ref c ∧ IsM P w s.heap k' c) _ ?_ ?_ _ _ ⟨⟨rfl, rfl⟩, hy⟩)
  · rintro v rest r z ⟨⟨hr, rfl⟩, all⟩
    obtain ⟨k', c, rfl, hc⟩ := all v List.mem_cons_self
    have more : ∀ y ∈ rest, ∃ k' c, y = Value.ref c ∧ IsM P w z.heap k' c := fun u hu' => all u (List.mem_cons_of_mem _ hu')
    dsimp only
    by_cases very : (b == c || (carriedByValue (.ref b) && carriedByValue (.ref c))) = true
    · exact wp_if_pos very (wpAny_pure ⟨⟨rfl, rfl⟩, more⟩)
    · refine wp_if_neg very (wpAny_bind (wpAny_eqIsQuiet_tuple hk ?_))
      simp only [Bool.not_true, Bool.false_eq_true, if_false]
      refine wpAny_bind (wpAny_eqIsQuiet_tuple hc ?_)
      simp only [Bool.not_true, Bool.false_eq_true, if_false]
      refine wpAny_bind (noClass_m hk ?_)
      simp only [Bool.false_eq_true, if_false]
      refine wpAny_bind (noClass_m hc ?_)
      simp only [Bool.false_eq_true, if_false]
      exact wpAny_pure ⟨⟨rfl, rfl⟩, more⟩
  · rintro ⟨r1, r2⟩ z ⟨⟨hr, rfl⟩, _⟩
    dsimp only at hr
    subst hr
    exact wpAny_pure h

/-! ### the set's word -/
def rowM (P : Program) (w : World) (p : Row) : Int × Value := (mHash P w p.2, Value.ref p.1)
structure SetM (P : Program) (w : World) (h : Heap) (a : Addr) (L : List Row) (es : Array (Int × Value)) (ep : Nat) (t : SetTable) : Prop where
  ob : ∃ o, h.get? a = some o ∧ o.ExactSet ∧ o.data = .set es ep t
  rows : es.toList = L.map (rowM P w)
  tab : Tab t (L.map fun p => mHash P w p.2)
  nd : (L.map (·.2)).Nodup
  tup : ∀ p ∈ L, IsM P w h p.2 p.1
  led : w.params.followText "set-order" = true ∨ t.led = true
  room : L.length * 5 < t.mask * 3
  small : t.mask ≤ 511
variable {a : Addr} {L : List Row} {es : Array (Int × Value)} {ep : Nat} {t : SetTable}
theorem SetM.size (R : SetM P w s.heap a L es ep t) : es.size = L.length := by
  rw [← Array.length_toList, R.rows, List.length_map]
theorem SetM.fits (R : SetM P w s.heap a L es ep t) : t.fits es.size = true := by
  have h1 := R.tab.count
  have h2 := R.size
  have h3 := R.room
  rw [List.length_map] at h1
  unfold SetTable.fits SetTable.fill
  simp only [R.tab.clean, Bool.and_eq_true, beq_iff_eq, decide_eq_true_eq, List.size_toArray, List.length_nil]
  omega
theorem SetM.entry (R : SetM P w s.heap a L es ep t) {i : Nat} {p : Row} (h : L[i]? = some p) : es[i]? = some (mHash P w p.2, Value.ref p.1) := by
  rw [← Array.getElem?_toList, R.rows, List.getElem?_map, h]
  rfl
theorem SetM.noGap (R : SetM P w s.heap a L es ep t) : ¬ t.gaveWay = true := by
  unfold SetTable.gaveWay
  rw [R.tab.full.odd]
  decide
/-- the c-th step of the way of k -/
abbrev stepM (P : Program) (w : World) (t : SetTable) (k : List Key) (c : Nat) : SetTable.Probe := nth t.mask (runAt t.mask (SetTable.bits (mHash P w k) % (t.mask + 1)) (SetTable.bits (mHash P w k))) c
theorem no_dummy (m : Nat) : ∀ (n : Nat) (p : SetTable.Probe), p.dummy = none → (nth m p n).dummy = none
  | 0, _, h => h
  | n + 1, p, h => no_dummy m n (adv m p) (by unfold adv; split <;> exact h)

theorem seek (R : SetM P w s.heap a L es ep t) {x : Addr} {k : List Key} (hx : IsM P w s.heap k x) (hu : A.units < cLine) {n : Nat} (hnf : n < 10 * SetTable.turns t.mask)
    (hn : way t.mask (mHash P w k) n ∉ t.place.toList) (hb : ∀ c, c < n → way t.mask (mHash P w k) c ∈ t.place.toList) {Q : SetFound → Shared → Prop}
    (yes : k ∈ L.map (·.2) → Q (.there none) s) (no : k ∉ L.map (·.2) → Q (.free (way t.mask (mHash P w k) n) false) s) :
    ∀ (f c : Nat) (stand : Option SetTable.Probe), stand.getD (t.probeStart (mHash P w k)) = stepM P w t k c → c ≤ n → n - c < f →
      (∀ (i : Nat) (p : Row), L[i]? = some p → p.2 = k → ∃ q, c ≤ q ∧ q < n ∧ t.place.toList[i]? = some (way t.mask (mHash P w k) q)) →
      wpAny (model P w) A (setSearchFrom a (.ref x) (mHash P w k) true f stand) Q E s
  | 0, c, stand, _, _, hf, _ => absurd hf (Nat.not_lt_zero _)
  | f + 1, c, stand, hst, hc, hf, ahead => by
    obtain ⟨o, ho, hex, hd⟩ := R.ob
    have shift : ∀ q, (nth t.mask (stepM P w t k c) q) = stepM P w t k (c + q) := fun q => (nth_add t.mask c _ q).symm
    have slotAt : ∀ q, (nth t.mask (stepM P w t k c) q).j = way t.mask (mHash P w k) (c + q) := fun q => congrArg SetTable.Probe.j (shift q)
    have last : c + (n - c) = n := by omega
    have keyAt : ∀ (i : Nat) (p : Row), L[i]? = some p → (fun i : Nat => (es[i]?.map (·.1)).getD 0) i = mHash P w p.2 := fun i p hp => by
      show (es[i]?.map (·.1)).getD 0 = _
      rw [R.entry hp]
      rfl
    -- an entry with the key stands at a step q ≥ c; a step without its hash isn't its own
    have missed : ∀ {m : Nat}, (∀ (k' i' : Nat), k' < m → t.place.toList[i']? = some (nth t.mask (stepM P w t k c) k').j → (fun i : Nat => (es[i]?.map (·.1)).getD 0) i' ≠ mHash P w k) →
        ∀ (i : Nat) (p : Row), L[i]? = some p → p.2 = k → ∀ q, c ≤ q → t.place.toList[i]? = some (way t.mask (mHash P w k) q) → c + m ≤ q := fun {m} nope i p hp hk q hq hs => by
      refine Nat.le_of_not_lt fun lt => nope (q - c) i (by omega) ?_ ((keyAt i p hp).trans (congrArg (mHash P w) hk))
      rw [slotAt, show c + (q - c) = q by omega]
      exact hs
    rw [setSearchFrom_succ]
    refine wpAny_bind (wpAny_setState_of ho hd R.fits ?_)
    dsimp only
    refine wp_if_neg R.noGap ?_
    try refine wpAny_bind (wpAny_pure ?_)
    rcases go_spec t R.tab.asc R.tab.clean (fun i => (es[i]?.map (·.1)).getD 0) (mHash P w k) (10 * SetTable.turns t.mask) (n - c) (stepM P w t k c) (no_dummy _ _ _ rfl) (by omega)
      (fun q hq => by rw [slotAt]; exact hb _ (by omega)) (by rw [slotAt, last]; exact hn) with ⟨q, i, hq, hi, hh, nope, ans⟩ | ⟨nope, ans⟩
    · have met : t.probe (fun i => (es[i]?.map (·.1)).getD 0) (mHash P w k) (stand.getD (t.probeStart (mHash P w k))) = some (.candidate (way t.mask (mHash P w k) (c + q)) i (stepM P w t k (c + (q + 1)))) := by
        rw [hst, ← slotAt, ← shift]
        exact ans
      rw [met]
      dsimp only
      rw [slotAt] at hi
      have il : i < L.length := by
        have := (List.getElem?_eq_some_iff.mp hi).1
        rw [R.tab.len, List.length_map] at this
        exact this
      obtain ⟨p, hp⟩ : ∃ p, L[i]? = some p := ⟨_, List.getElem?_eq_getElem il⟩
      have pm : p ∈ L := List.mem_of_getElem? hp
      have live : t.slot (way t.mask (mHash P w k) (c + q)) = .live i := slot_live R.tab.asc hi
      have rest : wpAny (model P w) A (searchRest a (.ref x) (mHash P w k) true f es t (way t.mask (mHash P w k) (c + q)) i (stepM P w t k (c + (q + 1)))) Q E s := by
        unfold searchRest
        rw [R.entry hp]
        dsimp only
        refine wpAny_bind (wpAny_holding (wpAny_eqBool_tuple hu (R.tup p pm) hx ?_))
        refine wpAny_bind (wpAny_setState_of ho hd R.fits ?_)
        dsimp only
        by_cases same : p.2 = k
        · exact wp_if_pos (by simp [same]) (wpAny_pure (yes (List.mem_map.mpr ⟨p, pm, same⟩)))
        · refine wp_if_neg (by simp [same]) ?_
          try refine wpAny_bind (wpAny_pure ?_)
          rw [sameMem]
          dsimp only
          simp only [if_true, live, R.entry hp]
          refine wpAny_bind (wpAny_isSame_ref_self (wpAny_bind (wpAny_pure ?_)))
          simp only [if_true]
          refine wp_if_neg (by simp [same]) ?_
          refine seek R hx hu hnf hn hb yes no f (c + (q + 1)) _ rfl (by omega) (by omega) fun i0 p0 h0 k0 => ?_
          obtain ⟨r, c1, c2, c3⟩ := ahead i0 p0 h0 k0
          have le := missed nope i0 p0 h0 k0 r c1 c3
          refine ⟨r, ?_, c2, c3⟩
          by_cases z : r = c + q
          · exfalso
            subst z
            have l0 := slot_live R.tab.asc c3
            rw [live] at l0
            injection l0 with l0
            subst l0
            rw [hp] at h0
            cases h0
            exact same k0
          · omega
      by_cases hl : t.led = true
      · refine wp_if_neg (by simp [hl]) ?_
        try refine wpAny_bind (wpAny_pure ?_)
        exact rest
      · refine wp_if_pos (by simp [hl]) (wpAny_bind (unseen_m hx (fun y hy => ?_) ?_))
        · obtain ⟨e, he, ee⟩ := List.mem_map.mp hy
          have e1 : e ∈ es.toList := by
            have : e ∈ es ∧ e.1 = mHash P w k := by simpa using he
            simpa using this.1
          rw [R.rows] at e1
          obtain ⟨p2, hp2, e2⟩ := List.mem_map.mp e1
          exact ⟨p2.2, p2.1, by rw [← ee, ← e2]; rfl, R.tup p2 hp2⟩
        · refine wp_if_neg (by decide) ?_
          try refine wpAny_bind (wpAny_pure ?_)
          exact rest
    · have met : t.probe (fun i => (es[i]?.map (·.1)).getD 0) (mHash P w k) (stand.getD (t.probeStart (mHash P w k))) = some (.empty (way t.mask (mHash P w k) n) none) := by
        rw [hst, ← last, ← slotAt]
        exact ans
      rw [met]
      dsimp only
      refine wpAny_pure (no fun hm => ?_)
      obtain ⟨p0, m0, k0⟩ := List.mem_map.mp hm
      obtain ⟨i0, hi0, e0⟩ := List.getElem_of_mem m0
      have h0 : L[i0]? = some p0 := by rw [List.getElem?_eq_getElem hi0, e0]
      obtain ⟨r, c1, c2, c3⟩ := ahead i0 p0 h0 k0
      have := missed nope i0 p0 h0 k0 r c1 c3
      omega
theorem seek0 (R : SetM P w s.heap a L es ep t) {x : Addr} {k : List Key} (hx : IsM P w s.heap k x) (hu : A.units < cLine) {Q : SetFound → Shared → Prop}
    (yes : k ∈ L.map (·.2) → Q (.there none) s)
    (no : ∀ n, k ∉ L.map (·.2) → way t.mask (mHash P w k) n ∉ t.place.toList → (∀ c, c < n → way t.mask (mHash P w k) c ∈ t.place.toList) → Q (.free (way t.mask (mHash P w k) n) false) s) :
    wpAny (model P w) A (setSearch a (.ref x) (mHash P w k) true) Q E s := by
  have room := R.room
  have small := R.small
  obtain ⟨n, n1, n2, n3⟩ := R.tab.gap (by rw [List.length_map]; omega) (mHash P w k)
  have few : n < 100000 := by unfold SetTable.turns at n1; omega
  unfold setSearch
  refine seek R hx hu n1 n2 n3 yes (fun z => no n z n2 n3) 100000 0 none rfl (Nat.zero_le _) (by omega) fun i p hp hk => ?_
  have hi : (L.map fun p => mHash P w p.2)[i]? = some (mHash P w k) := by rw [List.getElem?_map, hp, ← hk]; rfl
  have il : i < t.place.toList.length := by
    rw [R.tab.len, List.length_map]
    exact (List.getElem?_eq_some_iff.mp hp).1
  obtain ⟨c, hc, e⟩ := R.tab.ahead n2 hi (List.getElem?_eq_getElem il)
  exact ⟨c, Nat.zero_le _, hc, by rw [List.getElem?_eq_getElem il, e]⟩
end
end DL

namespace DL
open PySem PySem.Spec PyProof.Rows L2 RZ

section
variable {P : Program} {w : World} {A : Around} {E : Value → Shared → Prop} {s : Shared}
theorem isM_other {h h' : Heap} {k : List Key} {a b : Addr} {o : Obj} {es : Array (Int × Value)} {ep : Nat} {t : SetTable} (hb : IsM P w h k b) (ho : h.get? a = some o) (hd : o.data = .set es ep t) (hs : Heap.SameBut a h h') : IsM P w h' k b := by
  obtain ⟨o1, its, n, h1, hc, hd1, hi⟩ := hb
  have ne : b ≠ a := fun z => by
    subst z
    rw [ho] at h1
    cases h1
    rw [hd] at hd1
    exact nomatch hd1
  exact ⟨o1, its, n, (hs.2 b ne).trans h1, hc, hd1, hi⟩
theorem isM_kept {h h' : Heap} {k : List Key} {b : Addr} (x : IsM P w h k b) (hk : ∀ c o, h.get? c = some o → h'.get? c = some o) : IsM P w h' k b := by
  obtain ⟨o, its, n, ho, r⟩ := x
  exact ⟨o, its, n, hk b o ho, r⟩
/-- rows taken in another order -/
theorem reorder {L : List Row} {es : Array (Int × Value)} {order : Array Nat} (hr : es.toList = L.map (rowM P w)) (hp : order.toList.Perm (List.range L.length)) :
    ∃ L2 : List Row, (order.filterMap (es[·]?)).toList = L2.map (rowM P w) ∧ L2.Perm L ∧ (L2.map fun p => mHash P w p.2) = order.toList.map fun i => (es.map (·.1)).getD i 0 := by
  have get : ∀ i : Nat, es[i]? = (L[i]?).map (rowM P w) := fun i => by rw [← Array.getElem?_toList, hr, List.getElem?_map]
  have go : ∀ l : List Nat, (∀ i ∈ l, i < L.length) → l.filterMap (fun i => es[i]?) = (l.filterMap fun i => L[i]?).map (rowM P w) ∧ ((l.filterMap fun i => L[i]?).map fun p => mHash P w p.2) = l.map fun i => (es.map (·.1)).getD i 0 := by
    intro l hl
    induction l with
    | nil => exact ⟨rfl, rfl⟩
    | cons i l ih =>
      obtain ⟨e1, e2⟩ := ih fun j hj => hl j (List.mem_cons_of_mem _ hj)
      have hi := hl i List.mem_cons_self
      have li : L[i]? = some L[i] := List.getElem?_eq_getElem hi
      have ei : es[i]? = some (rowM P w L[i]) := by rw [get, li]; rfl
      refine ⟨?_, ?_⟩
      · rw [List.filterMap_cons_some ei, List.filterMap_cons_some li, e1]; rfl
      · rw [List.filterMap_cons_some li, List.map_cons, List.map_cons, e2]
        congr 1
        simp [Array.getD_eq_getD_getElem?, ei, rowM]
  obtain ⟨e1, e2⟩ := go order.toList fun i hi => List.mem_range.mp (hp.mem_iff.mp hi)
  refine ⟨order.toList.filterMap fun i => L[i]?, by simpa using e1, ?_, e2⟩
  have all : ∀ n, n ≤ L.length → (List.range n).filterMap (fun i => L[i]?) = L.take n := fun n => by
    induction n with
    | zero => intro _; rfl
    | succ n ih =>
      intro hn
      have li : L[n]? = some L[n] := List.getElem?_eq_getElem hn
      rw [List.range_succ, List.filterMap_append, ih (Nat.le_of_lt hn), List.take_succ, li, List.filterMap_cons_some li]
      rfl
  have := hp.filterMap fun i => L[i]?
  rw [all L.length (Nat.le_refl _), List.take_length] at this
  exact this

variable {a : Addr} {L : List Row} {es : Array (Int × Value)} {ep : Nat} {t : SetTable}
theorem relay_m {o : Obj} (ho : s.heap.get? a = some o) (hex : o.ExactSet) (hd : o.data = .set es ep t) (hrows : es.toList = L.map (rowM P w)) (T : Tab t (L.map fun p => mHash P w p.2)) (fit : L.length ≤ t.mask)
    (nd : (L.map (·.2)).Nodup) (tup : ∀ p ∈ L, IsM P w s.heap p.2 p.1) (ld : w.params.followText "set-order" = true ∨ t.led = true) {wanted m : Nat}
    (hw : SetTable.sizeAbove wanted = m + 1) (f : Full m) (sm : m ≤ 511) (room : L.length * 5 < m * 3) {Q : Unit → Shared → Prop}
    (hQ : ∀ h' L' es' ep' t', Heap.SameBut a s.heap h' → SetM P w h' a L' es' ep' t' → t'.mask = m → L'.Perm L → Q () { s with heap := h' }) : wpAny (model P w) A (setRelay a wanted) Q E s := by
  have many : es.size = L.length := by rw [← Array.length_toList, hrows, List.length_map]
  have cnt := T.count
  rw [List.length_map] at cnt
  have fits : t.fits es.size = true := by
    unfold SetTable.fits SetTable.fill
    simp only [T.clean, Bool.and_eq_true, beq_iff_eq, decide_eq_true_eq, List.size_toArray, List.length_nil]
    omega
  obtain ⟨t1, order, ans, hp, T1, em, el, _⟩ := f.relaid t (hs := es.map (·.1)) (wanted := wanted) (by rw [hw]; rfl) (by rw [Array.size_map, many]; omega)
  rw [Array.size_map, many] at hp
  obtain ⟨L2, r1, r2, r3⟩ := reorder hrows hp
  rw [← r3] at T1
  have same : (order.filterMap (es[·]?)).size = es.size := by rw [← Array.length_toList, r1, List.length_map, r2.length_eq, many]
  rw [setRelay_eq]
  refine wpAny_bind (wpAny_setState_of ho hd fits ?_)
  dsimp only
  refine wp_if_neg (by rw [sizeLine_eq, hw]; omega) ?_
  try refine wpAny_bind (wpAny_pure ?_)
  rw [ans]
  dsimp only
  refine wpAny_bind (wp_if_neg (by rw [same]; simp) ?_)
  try refine wpAny_bind (wpAny_pure ?_)
  refine wpAny_pure ?_
  dsimp only
  refine wpAny_storeSet_of ho hd ?_ (by rw [same, many, sizeLine_eq]; omega)
  have sb : Heap.SameBut a s.heap (s.heap.update a (Obj.putSet (order.filterMap (es[·]?)) t1)) := Heap.SameBut.update ..
  refine hQ _ L2 _ (ep + 1) t1 sb ⟨⟨_, store_at ho hd, ⟨hex.1, hex.2.1, hex.2.2⟩, rfl⟩, r1, T1, (r2.map (·.2)).nodup_iff.mpr nd, fun p hpm => isM_other (tup p (r2.mem_iff.mp hpm)) ho hd sb, by rw [el]; exact ld, by rw [r2.length_eq, em]; exact room, by rw [em]; exact sm⟩ em r2

theorem grow_sizes : SetTable.sizeAbove (SetTable.grown 5) = 31 + 1 ∧ SetTable.sizeAbove (SetTable.grown 19) = 127 + 1 ∧ SetTable.sizeAbove (SetTable.grown 77) = 511 + 1 := by decide +kernel
/-- the masks that come, up to 300 rows -/
def Mask (m : Nat) : Prop := m = 7 ∨ m = 31 ∨ m = 127 ∨ m = 511
theorem Mask.full {m : Nat} (h : Mask m) : Full m := by
  rcases h with e | e | e | e <;> subst e
  · exact full7
  · exact full31
  · exact full127
  · exact full511
structure SetN (P : Program) (w : World) (h : Heap) (a : Addr) (L : List Row) (es : Array (Int × Value)) (ep : Nat) (t : SetTable) : Prop where
  m : SetM P w h a L es ep t
  k : Mask t.mask
theorem add_m (N : SetN P w s.heap a L es ep t) {x : Addr} {k : List Key} (hx : IsM P w s.heap k x) (hu : A.units < cLine) (few : L.length < 300) {Q : Bool → Shared → Prop}
    (hQ : ∀ b h' L' es' ep' t', Heap.SameBut a s.heap h' → SetN P w h' a L' es' ep' t' → (k ∈ L.map (·.2) → L' = L) → (k ∉ L.map (·.2) → L'.Perm ((x, k) :: L)) → Q b { s with heap := h' }) :
    wpAny (model P w) A (setAddHashed a (.ref x) (mHash P w k)) Q E s := by
  have R := N.m
  obtain ⟨o, ho, hex, hd⟩ := R.ob
  have many := R.size
  have room := R.room
  unfold setAddHashed
  refine wpAny_holding ?_
  rw [show (100000 : Nat) = 99999 + 1 from rfl, setAddHashedIn_succ]
  refine wpAny_bind (wpAny_setState_of ho hd R.fits ?_)
  dsimp only
  refine wp_if_neg (by simp [byScan, Value.scannable]) ?_
  try refine wpAny_bind (wpAny_pure ?_)
  refine wpAny_bind (seek0 R hx hu (fun hm => ?_) fun n hm hn hb => ?_)
  · dsimp only
    exact wpAny_pure (hQ false s.heap L es ep t (Heap.SameBut.refl a s.heap) N (fun _ => rfl) fun z => absurd hm z)
  dsimp only
  refine wpAny_bind (wpAny_setState_of ho hd R.fits ?_)
  dsimp only
  generalize hput : t.put (way t.mask (mHash P w k) n) = pt
  obtain ⟨t1, p⟩ := pt
  obtain ⟨q1, q2, q3, q4, q5, q6⟩ := R.tab.add hn hb hput
  rw [List.length_map] at q1 q6
  dsimp only
  -- plain or not, the table is the same otherwise
  have tail : ∀ t2 : SetTable, Tab t2 ((L.map fun p => mHash P w p.2).take p ++ mHash P w k :: (L.map fun p => mHash P w p.2).drop p) → t2.mask = t.mask → t2.led = t.led → t2.fill = L.length + 1 →
      wpAny (model P w) A (do
        storeSet a (SetTable.insertAt es p (mHash P w k, Value.ref x)) t2
        if !false && t2.tooFull then setRelay a (SetTable.grown (es.size + 1))
        return true) Q E s := by
    intro t2 T2 m2 l2 f2
    have ins : (SetTable.insertAt es p (mHash P w k, Value.ref x)).toList = (L.take p ++ (x, k) :: L.drop p).map (rowM P w) := by
      rw [SetTable.toList_insertAt, R.rows, List.map_append, List.map_cons, List.map_take, List.map_drop]
      rfl
    have T2 : Tab t2 ((L.take p ++ (x, k) :: L.drop p).map fun p => mHash P w p.2) := by
      rw [List.map_append, List.map_cons, List.map_take, List.map_drop]
      exact T2
    have pm : (L.take p ++ (x, k) :: L.drop p).Perm ((x, k) :: L) := by
      have h := List.perm_middle (a := (x, k)) (l₁ := L.take p) (l₂ := L.drop p)
      rw [List.take_append_drop] at h
      exact h
    generalize L.take p ++ (x, k) :: L.drop p = L1 at ins T2 pm
    have len1 : L1.length = L.length + 1 := pm.length_eq
    have nd1 : (L1.map (·.2)).Nodup := (pm.map (·.2)).nodup_iff.mpr (List.nodup_cons.mpr ⟨hm, R.nd⟩)
    generalize SetTable.insertAt es p (mHash P w k, Value.ref x) = es1 at ins ⊢
    have many1 : es1.size = L.length + 1 := by rw [← Array.length_toList, ins, List.length_map, len1]
    refine wpAny_bind (wpAny_storeSet_of ho hd ?_ (by rw [many1, sizeLine_eq]; omega))
    have sb : Heap.SameBut a s.heap (s.heap.update a (Obj.putSet es1 t2)) := Heap.SameBut.update ..
    have ho1 := store_at (es' := es1) (t' := t2) ho hd
    generalize s.heap.update a (Obj.putSet es1 t2) = h1 at sb ho1 ⊢
    have tup1 : ∀ r ∈ L1, IsM P w h1 r.2 r.1 := fun r hr => by
      rcases List.mem_cons.mp (pm.mem_iff.mp hr) with e | hr
      · rw [e]; exact isM_other hx ho hd sb
      · exact isM_other (R.tup r hr) ho hd sb
    have ld1 : w.params.followText "set-order" = true ∨ t2.led = true := by rw [l2]; exact R.led
    have full : t2.tooFull = decide ((L.length + 1) * 5 ≥ t.mask * 3) := by unfold SetTable.tooFull; rw [f2, m2]
    by_cases hf : t2.tooFull = true
    · first
        | (refine wpAny_bind ?_; refine wp_if_pos (by simp [hf]) ?_)
        | (refine wp_if_pos (by simp [hf]) ?_; refine wpAny_bind ?_)
      rw [full, decide_eq_true_eq] at hf
      obtain ⟨m', g1, g2, g3, g4⟩ : ∃ m', SetTable.sizeAbove (SetTable.grown (L.length + 1)) = m' + 1 ∧ Mask m' ∧ m' ≤ 511 ∧ (L.length + 1) * 5 < m' * 3 := by
        rcases N.k with e | e | e | e
        · have : L.length = 4 := by rw [e] at hf room; omega
          exact ⟨31, by rw [this]; exact grow_sizes.1, .inr (.inl rfl), by decide, by omega⟩
        · have : L.length = 18 := by rw [e] at hf room; omega
          exact ⟨127, by rw [this]; exact grow_sizes.2.1, .inr (.inr (.inl rfl)), by decide, by omega⟩
        · have : L.length = 76 := by rw [e] at hf room; omega
          exact ⟨511, by rw [this]; exact grow_sizes.2.2, .inr (.inr (.inr rfl)), by decide, by omega⟩
        · rw [e] at hf; omega
      rw [many]
      refine relay_m (s := { s with heap := h1 }) (m := m') ho1 ⟨hex.1, hex.2.1, hex.2.2⟩ rfl ins T2 (by rw [len1, m2]; omega) nd1 tup1 ld1 g1 g2.full g3 (by rw [len1]; exact g4) fun h2 L2 es2 ep2 t3 sb2 R2 em2 pm2 => ?_
      exact wpAny_pure (hQ true h2 L2 es2 ep2 t3 (sb.trans sb2) ⟨R2, by rw [em2]; exact g2⟩ (fun z => absurd z hm) fun _ => pm2.trans pm)
    · first
        | refine wp_if_neg (by simp [hf]) ?_
        | (refine wpAny_bind ?_; refine wp_if_neg (by simp [hf]) ?_; refine wpAny_pure ?_)
      rw [full, decide_eq_true_eq] at hf
      exact wpAny_pure (hQ true h1 L1 es1 (ep + 1) t2 sb ⟨⟨⟨_, ho1, ⟨hex.1, hex.2.1, hex.2.2⟩, rfl⟩, ins, T2, nd1, tup1, ld1, by rw [len1, m2]; omega, by rw [m2]; exact R.small⟩, by rw [m2]; exact N.k⟩ (fun z => absurd z hm) fun _ => pm)
  by_cases pl : t1.plain = true
  · first
      | (refine wpAny_bind ?_; refine wp_if_pos pl ?_; refine hashes_m hx fun r => ?_)
      | refine wp_if_pos pl (wpAny_bind (hashes_m hx fun r => ?_))
    cases r with
    | true =>
      simp only [if_true]
      exact tail t1 q2 q3 q4 q6
    | false =>
      simp only [Bool.false_eq_true, if_false]
      exact tail { t1 with plain := false } ⟨q2.asc, q2.clean, q2.count, q2.full, q2.low, q2.met⟩ q3 q4 q6
  · first
      | (refine wpAny_bind ?_; refine wp_if_neg pl ?_; refine wpAny_pure ?_)
      | refine wp_if_neg pl (wpAny_bind (wpAny_pure ?_))
      | refine wp_if_neg pl ?_
    simp only [if_true]
    exact tail t1 q2 q3 q4 q6
end
end DL

namespace DL
open PySem PySem.Spec PyProof.Rows L2 RZ

/-- what stands in the set when the first i rows have come -/
structure Has (ks : List Row) (i : Nat) (L : List Row) : Prop where
  sub : ∀ p ∈ L, p ∈ ks.take i
  all : ∀ p ∈ ks.take i, p.2 ∈ L.map (·.2)
  len : L.length ≤ i
theorem Has.next {ks L L' : List Row} {i : Nat} {x : Row} (g : Has ks i L) (h : ks[i]? = some x) (c1 : x.2 ∈ L.map (·.2) → L' = L) (c2 : x.2 ∉ L.map (·.2) → L'.Perm (x :: L)) : Has ks (i + 1) L' := by
  have tk : ks.take (i + 1) = ks.take i ++ [x] := by rw [List.take_succ, h]; rfl
  by_cases c : x.2 ∈ L.map (·.2)
  · rw [c1 c]
    refine ⟨fun p hp => ?_, fun p hp => ?_, Nat.le_succ_of_le g.len⟩
    · rw [tk]; exact List.mem_append_left _ (g.sub p hp)
    · rw [tk] at hp
      rcases List.mem_append.mp hp with z | z
      · exact g.all p z
      · rw [List.mem_singleton.mp z]; exact c
  · have pm := c2 c
    refine ⟨fun p hp => ?_, fun p hp => ?_, by rw [pm.length_eq]; exact Nat.succ_le_succ g.len⟩
    · rw [tk]
      rcases List.mem_cons.mp (pm.mem_iff.mp hp) with z | z
      · rw [z]; simp
      · exact List.mem_append_left _ (g.sub p z)
    · rw [(pm.map (·.2)).mem_iff, List.map_cons]
      rw [tk] at hp
      rcases List.mem_append.mp hp with z | z
      · exact List.mem_cons_of_mem _ (g.all p z)
      · rw [List.mem_singleton.mp z]; exact List.mem_cons_self

section
variable {P : Program} {w : World} {A : Around} {E : Value → Shared → Prop} {s : Shared}
abbrev emptyOf (w : World) : Obj := { cls := .type "set", dict := none, data := .set #[] 0 (.fresh 0 0 (!w.params.followText "set-order")) }
theorem SetN.kept {h h' : Heap} {a : Addr} {L : List Row} {es : Array (Int × Value)} {ep : Nat} {t : SetTable} (N : SetN P w h a L es ep t) (ha : ∀ o, h.get? a = some o → h'.get? a = some o) (ht : ∀ p ∈ L, IsM P w h' p.2 p.1) : SetN P w h' a L es ep t := by
  obtain ⟨o, ho, r⟩ := N.m.ob
  exact ⟨⟨⟨o, ha o ho, r⟩, N.m.rows, N.m.tab, N.m.nd, ht, N.m.led, N.m.room, N.m.small⟩, N.k⟩
theorem setN_new {h : Heap} {a : Addr} (ho : h.get? a = some (emptyOf w)) : SetN P w h a [] #[] 0 (.fresh 0 0 (!w.params.followText "set-order")) := by
  refine ⟨⟨⟨_, ho, ⟨rfl, rfl, rfl⟩, rfl⟩, rfl, ⟨List.Pairwise.nil, rfl, rfl, full7, fun x hx => (nomatch hx), fun i h j hi => (by simp at hi)⟩, List.nodup_nil, fun p hp => (nomatch hp), ?_, show 0 * 5 < 7 * 3 by decide, show 7 ≤ 511 by decide⟩, .inl rfl⟩
  cases e : w.params.followText "set-order"
  · exact .inr rfl
  · exact .inl rfl

/-- the loop of set.update -/
theorem update_m {I S : Addr} {fp wr : List Addr} {G : Array GenState → Array GenState → Prop} {n : Nat} {Pv : Nat → Value → Prop} {St : Nat → Shared → Prop} {R : Result → Shared → Prop}
    (W : WalksS P w A.in1 I fp wr G n Pv St) (nS : S ∉ fp) (ks : List Row) (hn : n = ks.length) (few : ∀ L : List Row, (L.map (·.2)).Nodup → (∀ p ∈ L, p ∈ ks) → L.length < 300) (val : ∀ i v, Pv i v → ∃ p, ks[i]? = some p ∧ v = .ref p.1)
    (h0 : Heap) (hk : ∀ p ∈ ks, IsM P w h0 p.2 p.1) (S0 : h0.get? S = none) (w0 : ∀ b ∈ wr, h0.get? b = none) (hu : A.in1.units < cLine) :
    ∀ (k i : Nat) (s : Shared), n - i = k → i ≤ n → St i s → (∀ b o, h0.get? b = some o → s.heap.get? b = some o) → (∃ L es ep t, SetN P w s.heap S L es ep t ∧ Has ks i L) →
      (∀ s' L es ep t, Moved (S :: wr) G s s' → SetN P w s'.heap S L es ep t → Has ks n L → (∀ b o, h0.get? b = some o → s'.heap.get? b = some o) → R (.ok (.ret .none)) s') →
      codeAny (model P w) A (.builtin "set.update.loop" ⟨[.ref S, .ref I], []⟩) R s := by
  have Sw : S ∉ wr := fun h => nS (W.sub _ h)
  have wide : ∀ b ∈ wr, b ∈ S :: wr := fun b hb => List.mem_cons_of_mem _ hb
  have old : ∀ {s s' : Shared}, Moved wr G s s' → (∀ b o, h0.get? b = some o → s.heap.get? b = some o) → ∀ b o, h0.get? b = some o → s'.heap.get? b = some o := fun hm kp b o e =>
    hm.heap b o (fun hb => by rw [w0 b hb] at e; cases e) (kp b o e)
  intro k
  induction k with
  | zero =>
    intro i s hk' hi hst kp ⟨L, es, ep, t, N, g⟩ hR
    have : i = n := by omega
    subst this
    refine codeAny_builtin F.entry_set_update_loop ?_
    rw [Around.under_plainId F.plain_set_update_loop _]
    show wpAny _ A.in1 (pyNext (.ref I) >>= _) _ _ s
    refine wpAny_bind (W.done s _ _ hst fun s' hm => ?_)
    show wpAny _ A.in1 (ret Value.none) _ _ s'
    have kp' := old hm kp
    exact wpAny_pure (hR s' L es ep t (hm.mono wide) (N.kept (fun o e => hm.heap S o Sw e) fun p hp => isM_kept (hk p (List.mem_of_mem_take (g.sub p hp))) kp') g kp')
  | succ k ih =>
    intro i s hk' hi hst kp ⟨L, es, ep, t, N, g⟩ hR
    have lt : i < n := by omega
    refine codeAny_builtin F.entry_set_update_loop ?_
    rw [Around.under_plainId F.plain_set_update_loop _]
    show wpAny _ A.in1 (pyNext (.ref I) >>= _) _ _ s
    refine wpAny_bind (W.item i s _ _ lt hst fun v s' hP hst' hm => ?_)
    obtain ⟨p, hp, rfl⟩ := val i v hP
    have kp' := old hm kp
    have N' : SetN P w s'.heap S L es ep t := N.kept (fun o e => hm.heap S o Sw e) fun q hq => isM_kept (hk q (List.mem_of_mem_take (g.sub q hq))) kp'
    have hx : IsM P w s'.heap p.2 p.1 := isM_kept (hk p (List.mem_of_getElem? hp)) kp'
    show wpAny _ A.in1 (holding [Value.ref p.1] (setAdd S (.ref p.1)) >>= _) _ _ s'
    refine wpAny_bind (wpAny_holding ?_)
    unfold setAdd
    refine wpAny_holding (wpAny_bind (wpAny_pyHash_tuple hu hx ?_))
    refine add_m (s := { s' with toks := s'.toks + (p.2.length + 1) }) N' hx hu (few L N.m.nd fun q hq => List.mem_of_mem_take (g.sub q hq)) fun b h' L' es' ep' t' sb N2 c1 c2 => ?_
    have kp2 : ∀ b o, h0.get? b = some o → h'.get? b = some o := fun b o e => (sb.2 b (fun z => by rw [z, S0] at e; cases e)).trans (kp' b o e)
    refine wpAny_pure ⟨plainId_quiet F.plain_set_update_loop _, ih (i + 1) _ (by omega) lt (W.frame _ s' _ _ hst' (Nat.le_add_right _ _) fun b hb o e => ?_) kp2 ⟨L', es', ep', t', N2, g.next hp c1 c2⟩ fun s'' L2 es2 ep2 t2 hm2 N3 g3 kp3 => ?_⟩
    · rw [sb.2 b (fun z : b = S => nS (by rw [← z]; exact hb))]
      exact e
    · refine hR s'' L2 es2 ep2 t2 (Moved.trans W.gtrans ((hm.mono wide).then_heap (Nat.le_add_right _ _) fun b o hb e => ?_) hm2) N3 g3 kp3
      rw [sb.2 b (fun z : b = S => hb (by rw [z]; exact List.mem_cons_self))]
      exact e

set_option maxHeartbeats 3200000 in
theorem call_set_m {l : Addr} {items : Array Value} (ks : List Row) {Q : Value → Shared → Prop} (hh : A.handled = none) (hl : s.heap.IsList l items) (hit : items.toList = ks.map fun p => Value.ref p.1)
    (hk : ∀ p ∈ ks, IsM P w s.heap p.2 p.1) (few : ∀ L : List Row, (L.map (·.2)).Nodup → (∀ p ∈ L, p ∈ ks) → L.length < 300) (hu : A.units + 3 < cLine)
    (h : ∀ (h' : Heap) (tk : Nat) L es ep t, SetN P w h' s.heap.objs.size L es ep t → Has ks ks.length L → (∀ b o, s.heap.get? b = some o → h'.get? b = some o) → Q (.ref s.heap.objs.size) { s with heap := h', toks := tk }) :
    wpAny (model P w) A (call (.type "set") [.ref l]) Q E s := by
  have many : items.size = ks.length := by rw [← Array.length_toList, hit, List.length_map]
  obtain ⟨c, tl, hmro⟩ := F.called_set.mro
  have made := F.called_set.made
  have sub := F.called_set.sub
  refine wpAny_call (codeAny_of_tree ?_)
  show wpAny _ _ (callAny (.type "set") _) _ _ _
  refine wpAny_pure ⟨Code.quiet_builtin _ (by decide +kernel), codeAny_builtin F.entry_type_call ?_⟩
  rw [Around.under_plain (weight_type_call_type "set" [.ref l] []) rfl]
  have nt := F.called_set.notType
  have cc := F.called_set.canCreate
  have tc := F.typeCall_set_1 (.ref l)
  repeat (any_goals (first | assumption | wp_step))

  refine codeAny_mono (code_set_led1 (.ref l) (E := E) (Q₁ := fun obj s₁ => obj = .ref s.heap.objs.size ∧ s₁ = { s with heap := s.heap.push (emptyOf w) }) ⟨rfl, rfl⟩) fun r s₁ hr => ?_
  cases r with
  | error e => exact hr
  | ok fl =>
    cases fl with
    | ret obj =>
      obtain ⟨rfl, rfl⟩ := hr
      have hS : (s.heap.push (emptyOf w)).get? s.heap.objs.size = some (emptyOf w) := Heap.get?_push_size _ rfl
      have hT : Shared.TypeIs { s with heap := s.heap.push (emptyOf w) } (.ref s.heap.objs.size) "set" := ⟨_, hS, rfl⟩
      have li := F.called_set.init.lookup
      have bi := F.called_set.init.bind (.ref s.heap.objs.size)
      repeat (any_goals (first | assumption | wp_step))

      refine codeAny_mono (codeAny_call_builtin (R := wants (fun r s₂ => r = .none ∧ ∃ h' tk L es ep t, s₂ = { s with heap := h', toks := tk } ∧ SetN P w h' s.heap.objs.size L es ep t ∧ Has ks ks.length L ∧
          (∀ b o, s.heap.get? b = some o → h'.get? b = some o)) E) F.called_set.init.plain F.entry_set_init (check_set_init_1 hT ?_)) fun r₂ s₂ hr₂ => ?_
      · obtain ⟨⟨ocls, odict, odata, oslots⟩, hol, hcl, nl, hdl⟩ := hl
        simp only at hcl hdl
        subst hcl
        subst hdl
        have hol' : (s.heap.push (emptyOf w)).get? l = some { cls := .type "list", dict := odict, data := .seq items nl, slots := oslots } := Heap.get?_push_of_some _ hol
        have s1 := F.sub_list_set
        have s2 := F.sub_list_frozenset
        have s3 : (Value.type "list" == Value.type "dict") = false := by decide
        have hl1 : (s.heap.push (emptyOf w)).IsList l items := ⟨_, hol', rfl, nl, rfl⟩
        unfold Builtin.«set.__init__» noKeywords Builtin.Frozenset.updateFrom
        generalize iter_eq : pyIter = it0
        wp_walk
        subst iter_eq

        refine wpAny_pyIter_list hl1 (wpAny_bind (wpAny_runValue ?_))
        have lS : l < s.heap.objs.size := Heap.lt_size hol
        have h3 : A.in1.in1.in1.handled = none := by simp [hh]
        have neI : l ≠ (s.heap.push (emptyOf w)).objs.size := by rw [Heap.size_push]; exact Nat.ne_of_lt (Nat.lt_succ_of_lt lS)
        have nS : s.heap.objs.size ∉ [(s.heap.push (emptyOf w)).objs.size, l] := by
          rw [Heap.size_push]
          simp only [List.mem_cons, List.not_mem_nil, or_false, not_or]
          exact ⟨Nat.ne_of_lt (Nat.lt_succ_self _), Nat.ne_of_gt lS⟩
        have val : ∀ (i : Nat) (v : Value), items[i]? = some v → ∃ p, ks[i]? = some p ∧ v = .ref p.1 := fun i v hv => by
          rw [← Array.getElem?_toList, hit, List.getElem?_map] at hv
          obtain ⟨p, hp, e⟩ := Option.map_eq_some_iff.mp hv
          exact ⟨p, hp, e.symm⟩
        have fresh : ∀ b, s.heap.objs.size ≤ b → s.heap.get? b = none := fun b hb => Heap.get?_none_of_le hb
        refine update_m ((Walks.list h3 _ l neI items).toS) nS ks many few val s.heap hk (fresh _ (Nat.le_refl _)) (fun b hb => fresh b (by
            rw [List.mem_singleton.mp hb, Heap.size_push]
            exact Nat.le_succ _)) hu (items.size - 0) 0 _ (by omega) (Nat.zero_le _)
          ⟨⟨_, Heap.get?_push_size _ rfl, rfl, rfl⟩, (hl1.push _)⟩ (fun b o e => Heap.get?_push_of_some _ (Heap.get?_push_of_some _ e)) ?hS0 ?hR
        case hS0 => exact ⟨[], #[], 0, _, setN_new (Heap.get?_push_of_some _ hS), ⟨fun p hp => (nomatch hp), fun p hp => (by simp at hp), Nat.le_refl _⟩⟩
        case hR =>
          intro s' L es ep t hm N g kp
          obtain ⟨h', g2, d2, tk2, os2⟩ := s'
          obtain rfl : g2 = s.gens := hm.gens
          obtain rfl : d2 = s.drawn := hm.drawn
          obtain rfl : os2 = s.os := hm.os
          show wpAny _ _ _ _ _ _
          refine wpAny_pure ?_
          show wpAny _ _ (ret Value.none) _ _ _
          rw [many] at g
          exact wpAny_pure ⟨rfl, h', tk2, L, es, ep, t, rfl, N, g, kp⟩

      · cases r₂ with
        | error e => exact hr₂
        | ok fl₂ =>
          cases fl₂ with
          | ret r =>
            obtain ⟨rfl, h', tk, L, es, ep, t, rfl, N, g, kp⟩ := hr₂
            repeat (any_goals (first | assumption | wp_step))
            exact h _ _ _ _ _ _ N g kp
          | _ => exact hr₂.elim
    | _ => exact hr.elim
end
end DL

namespace DL
open PySem PySem.Spec PyProof.Rows L2 RZ

theorem perm_of_map {α β : Type} {f : α → β} {l m : List β} (h : m.Perm l) : ∀ {bs : List α}, m = bs.map f → ∃ cs : List α, l = cs.map f ∧ cs.Perm bs := by
  induction h with
  | nil =>
    intro bs e
    cases bs with
    | nil => exact ⟨[], rfl, .nil⟩
    | cons _ _ => cases e
  | cons x _ ih =>
    intro bs e
    cases bs with
    | nil => cases e
    | cons b bs =>
      cases e
      obtain ⟨cs, e, p⟩ := ih rfl
      exact ⟨b :: cs, by rw [e]; rfl, p.cons b⟩
  | swap x y l =>
    intro bs e
    cases bs with
    | nil => cases e
    | cons b bs =>
      cases bs with
      | nil => cases e
      | cons c bs =>
        cases e
        exact ⟨c :: b :: bs, rfl, .swap b c bs⟩
  | trans _ _ ih1 ih2 =>
    intro bs e
    obtain ⟨cs, e1, p1⟩ := ih1 e
    obtain ⟨ds, e2, p2⟩ := ih2 e1
    exact ⟨ds, e2, p2.trans p1⟩
/-- each item once -/
def once {α : Type} [DecidableEq α] : List α → List α
  | [] => []
  | x :: xs => if x ∈ xs then once xs else x :: once xs
theorem mem_once {α : Type} [DecidableEq α] {x : α} : ∀ {l : List α}, x ∈ once l ↔ x ∈ l
  | [] => Iff.rfl
  | y :: l => by
    unfold once
    split
    · rename_i h
      rw [mem_once, List.mem_cons]
      exact ⟨.inr, fun z => z.elim (fun e => e ▸ h) id⟩
    · rw [List.mem_cons, List.mem_cons, mem_once]
theorem once_nodup {α : Type} [DecidableEq α] : ∀ l : List α, (once l).Nodup
  | [] => List.nodup_nil
  | y :: l => by
    unfold once
    split
    · exact once_nodup l
    · rename_i h
      exact List.nodup_cons.mpr ⟨fun z => h (mem_once.mp z), once_nodup l⟩

abbrev PK := Int × Str
def pkK (q : PK) : List Key := [.inl q.1, .inr q.2]
theorem pkK_inj {q r : PK} (h : pkK q = pkK r) : q = r := by
  unfold pkK at h
  simp only [List.cons.injEq, Sum.inl.injEq, Sum.inr.injEq, and_true] at h
  exact Prod.ext h.1 h.2
def pkD (q : PK) : PyData := .tuple [.int q.1, .str q.2]
abbrev Row2 := Addr × PK
def rowOf (b : Row2) : Row := (b.1, pkK b.2)
section
variable {P : Program} {w : World} {A : Around} {E : Value → Shared → Prop} {s : Shared}
theorem reads_m {h : Heap} {b : Addr} {q : PK} (x : IsM P w h (pkK q) b) : Reads h (.ref b) (pkD q) [] := by
  obtain ⟨o, its, n, ho, hc, hd, hi⟩ := x
  generalize hl : its.toList = l at hi
  cases hi with
  | cons h1 h2 =>
    cases h2 with
    | cons h3 h4 =>
      cases h4
      rcases keyIs_shape (show keyIs (.inl q.1) _ = true from h1) with ⟨i, t, e1, rfl⟩ | ⟨z, t, e1, rfl⟩
      · cases e1
        rcases keyIs_shape (show keyIs (.inr q.2) _ = true from h3) with ⟨i, t, e1, rfl⟩ | ⟨z, t, e1, rfl⟩
        · cases e1
        · cases e1
          exact .tuple (as := [] ++ ([] ++ [])) ho hc hd (by rw [hl]; exact .cons (.int _ _) (.cons (.str _ _) .nil))
      · cases e1
theorem sorted_m {a : Addr} {bs : List Row2} {es : Array (Int × Value)} {ep : Nat} {t : SetTable} {Q : Value → Shared → Prop} (R : SetM P w s.heap a (bs.map rowOf) es ep t) (hh : A.handled = none) (hu : A.units + 8 < cLine) (few : bs.length < 300)
    (hQ : ∀ s' p c (cs : List Row2), (∀ b o, s.heap.get? b = some o → s'.heap.get? b = some o) → s'.gens = s.gens → s'.os = s.os → s.heap.objs.size ≤ p → cs.Perm bs →
      s'.heap.get? p = some (seqObj "list" (List.toArray ((cs.mergeSort (PySem.W.dataLe false fun b => pkD b.2)).map fun b => Value.ref b.1)) c) → Q (.ref p) s') :
    wpAny (model P w) A (call (.builtin "sorted") [.ref a]) Q E s := by
  obtain ⟨o, ho, hex, hd⟩ := R.ob
  have many := R.size
  rw [List.length_map] at many
  refine Calls.call_function_entry kind_sorted plain_sorted entry_sorted (args_sorted1 _) ?_
  unfold Builtin.«sorted»
  refine wpAny_bind (m := checkCount "sorted" 1 1 _) (wpAny_pure ?_)
  refine wpAny_bind (collect_set (A := A.in1) hh ⟨o, ho, hex.1, hd⟩ R.fits (by unfold scanBound; omega) R.tab.asc R.led fun s1 vs k1 hz g1 o1 pm => ?_)
  have vals : es.toList.map (·.2) = bs.map fun b => Value.ref b.1 := by
    rw [R.rows, List.map_map, List.map_map]
    rfl
  rw [vals] at pm
  obtain ⟨cs, rfl, pc⟩ := perm_of_map pm.symm (f := fun b : Row2 => Value.ref b.1) rfl
  have len : cs.length = bs.length := pc.length_eq
  have sl : sizeLine = 16777216 := sizeLine_eq
  refine wpAny_bind (wpAny_newList ?_ (by rw [List.length_map]; omega))
  have hoL : (s1.heap.push (seqObj "list" (cs.map fun b => Value.ref b.1).toArray 0)).get? s1.heap.objs.size = some (seqObj "list" (cs.map fun b => Value.ref b.1).toArray 0) := Heap.get?_push_size _ rfl
  have each : ∀ l : List Row2, PySem.W.EachIs (fun (v : Value) (b : Row2) => v = .ref b.1) (l.map fun b => Value.ref b.1) l := fun l => by
    induction l with
    | nil => exact .nil
    | cons b l ih => exact .cons rfl ih
  have back : ∀ {l : List Row2} {vs : List Value}, PySem.W.EachIs (fun (v : Value) (b : Row2) => v = .ref b.1) vs l → vs = l.map fun b => Value.ref b.1 := fun {l} => by
    induction l with
    | nil => intro vs e; cases e; rfl
    | cons b l ih =>
      intro vs e
      cases e with
      | cons h t => rw [h, ih t]; rfl
  have reads : ∀ l : List Row2, (∀ b ∈ l, b ∈ bs) → PySem.W.EachIs (fun (v : Value) (b : Row2) => ∃ as, Reads (s1.heap.push (seqObj "list" (cs.map fun b => Value.ref b.1).toArray 0)) v (pkD b.2) as ∧ s1.heap.objs.size ∉ as) (l.map fun b => Value.ref b.1) l := fun l => by
    induction l with
    | nil => intro _; exact .nil
    | cons b l ih =>
      intro hb
      refine .cons ⟨[], reads_m (P := P) (w := w) (isM_kept (R.tup (rowOf b) (List.mem_map.mpr ⟨b, hb b List.mem_cons_self, rfl⟩)) fun c u e => Heap.get?_push_of_some _ (k1 c u e)), fun z => nomatch z⟩ (ih fun c hc => hb c (List.mem_cons_of_mem _ hc))
  refine wpAny_bind (wpAny_holding ?_)
  refine PySem.W.list_sort_data (s := { s1 with heap := s1.heap.push (seqObj "list" (cs.map fun b => Value.ref b.1).toArray 0) }) (enc := fun b : Row2 => pkD b.2) hoL (each cs) (reads cs fun b hb => pc.mem_iff.mp hb)
    (PySem.W.AllAlike.of fun _ _ => by simp [PySem.W.alike, PySem.W.alikeAll, pkD]) (PySem.W.Sortable.tuples fun _ => ⟨_, _, rfl⟩) (by omega) (fun b _ => ?_) fun out ol eo => ?_
  · have hd : (pkD b.2).depth = 1 := by simp [PyData.depth, PyData.depthAll, pkD]
    rw [hd]
    show A.units + 1 + 1 + 1 < cLine
    omega
  · have eo := back eo
    subst eo
    obtain ⟨c, hc⟩ := sortedHeap_at (vs := cs.map fun b => Value.ref b.1) (out := List.toArray ((cs.mergeSort (PySem.W.dataLe false fun b : Row2 => pkD b.2)).map fun b => Value.ref b.1)) hoL
    refine wpAny_pure ⟨_, rfl, hQ _ s1.heap.objs.size c cs (fun b u e => ?_) g1 o1 hz pc hc⟩
    have q := k1 b u e
    have lt := Heap.lt_size q
    show (sortedHeap (s1.heap.push (seqObj "list" (cs.map fun b => Value.ref b.1).toArray 0)) s1.heap.objs.size (cs.map fun b => Value.ref b.1) _).get? b = some u
    rw [sortedHeap_old (Nat.ne_of_lt lt) (by rw [size_push']; exact Nat.lt_succ_of_lt lt)]
    exact Heap.get?_push_of_some _ q
end
end DL

/-! sorted(set(pairs)), by values and over data. -/
namespace DL
open PySem PySem.Spec PyProof.Rows L2 RZ

/-! ### by values -/
def SetX (P : Program) (w : World) (h : Heap) (a : Addr) (cs : List Row2) : Prop :=
  ∃ (es : Array (Int × Value)) (ep : Nat) (t : SetTable), (∃ o, h.get? a = some o ∧ o.ExactSet ∧ o.data = .set es ep t) ∧ es.toList = (cs.map rowOf).map (rowM P w) ∧ Tab t ((cs.map rowOf).map fun p => mHash P w p.2) ∧ ((cs.map rowOf).map (·.2)).Nodup ∧
    (w.params.followText "set-order" = true ∨ t.led = true) ∧ (cs.map rowOf).length * 5 < t.mask * 3 ∧ t.mask ≤ 511
def SetHO (P : Program) (w : World) (a : Addr) (cs : List Row2) : HO := .ext fun h => SetX P w h a cs
abbrev vPair (q : PK) : List V := [.int q.1, .str q.2]
section
variable {X : Cx}
theorem inv_pair {pins : List (Addr × Obj)} {σ : L2.St} {H : Hp} {s : Shared} {b : Addr} {q : PK} (I : Inv X pins σ H s) (h : SqT X.K H b (vPair q)) : IsM X.prog X.w s.heap (pkK q) b := by
  obtain ⟨its, r, ⟨o, ho, hc, n, hd⟩, _⟩ := I.tuple h
  cases r with
  | cons r1 r2 =>
    cases r2 with
    | cons r3 r4 =>
      cases r4
      obtain ⟨t1, rfl⟩ := r1
      obtain ⟨t2, rfl⟩ := r3
      exact ⟨o, _, n, ho, hc, hd, .cons (mixKind_int _ _ _ _) (.cons (mixKind_str _ _ _ _) .nil)⟩
def rSetP (K : PySem.W.Frag) (P : Program) (w : World) : List V → Hp → VK → Prop := fun xs H Q => ∃ (l : Addr) (bs : List Row2), xs = [V.ref l] ∧ SqL K H l (bs.map fun b => V.ref b.1) ∧ (∀ b ∈ bs, SqT K H b.1 (vPair b.2)) ∧ (∀ cs : List Row2, (cs.map (·.2)).Nodup → (∀ c ∈ cs, c ∈ bs) → cs.length < 300) ∧
  ∀ a cs, H a = none → (∀ c ∈ cs, c ∈ bs) → (∀ b ∈ bs, b.2 ∈ cs.map (·.2)) → (cs.map (·.2)).Nodup → cs.length < 300 → Q (.ref a) (upd H a (SetHO P w a cs))
theorem refs_rows : ∀ {bs : List Row2} {us : List Value}, Vals (bs.map fun b => V.ref b.1) us → us = bs.map fun b => Value.ref b.1
  | [], _, .nil => rfl
  | b :: bs, _, .cons r t => by
    cases r
    rw [refs_rows t]
    rfl
theorem rows_vals : ∀ (bs : List Row2), Vals (bs.map fun b => V.ref b.1) (bs.map fun b => Value.ref b.1)
  | [] => .nil
  | b :: bs => .cons rfl (rows_vals bs)
/-- the rows of a set are rows of pairs -/
theorem rows_back : ∀ {bs : List Row2} {L : List Row}, (∀ p ∈ L, p ∈ bs.map rowOf) → ∃ cs : List Row2, L = cs.map rowOf ∧ ∀ c ∈ cs, c ∈ bs
  | bs, [], _ => ⟨[], rfl, fun c hc => nomatch hc⟩
  | bs, p :: L, h => by
    obtain ⟨c, hc, e⟩ := List.mem_map.mp (h p List.mem_cons_self)
    obtain ⟨cs, e2, h2⟩ := rows_back (L := L) fun q hq => h q (List.mem_cons_of_mem _ hq)
    refine ⟨c :: cs, by rw [List.map_cons, e, e2], fun d hd => ?_⟩
    rcases List.mem_cons.mp hd with z | z
    · rw [z]; exact hc
    · exact h2 d z
theorem cr_setP (hc : X.calm = true) (hu : X.A.units + 64 < cLine) : CallR X (.type "set") (rSetP X.K X.prog X.w) := by
  intro pins s σ H xs us Q I r h
  obtain ⟨l, bs, rfl, hl, hk, hf, q⟩ := h
  rw [Vals.ref1 r]
  obtain ⟨its, rv, pl, hz⟩ := I.list hl
  have hn : H s.heap.objs.size = none := I.hok.fresh (Nat.le_refl _)
  refine call_set_m (P := X.prog) (w := X.w) (bs.map rowOf) (I.ok.hd hc) pl.isList (by rw [List.map_map]; show (List.toArray its).toList = bs.map fun b => Value.ref b.1; exact refs_rows rv) (fun p hp => ?_) (fun L nd sub => ?_) (by omega) fun h' tk L es ep t N g k => ?_
  · obtain ⟨b, hb, rfl⟩ := List.mem_map.mp hp
    exact inv_pair I (hk b hb)
  · obtain ⟨cs, rfl, sub'⟩ := rows_back (bs := bs) (L := L) sub
    rw [List.length_map]
    refine hf cs ?_ sub'
    rw [List.map_map] at nd
    have e : ((fun x => x.2) ∘ rowOf : Row2 → List Key) = pkK ∘ (·.2) := rfl
    rw [e, ← List.map_map] at nd
    exact List.Pairwise.of_map pkK (fun _ _ ne z => ne (congrArg pkK z)) nd
  · obtain ⟨cs, rfl, sub⟩ := rows_back (bs := bs) (L := L) fun p hp => List.mem_of_mem_take (g.sub p hp)
    have R := N.m
    have nd : (cs.map (·.2)).Nodup := by
      have := R.nd
      rw [List.map_map] at this
      have e : ((fun x => x.2) ∘ rowOf : Row2 → List Key) = pkK ∘ (·.2) := rfl
      rw [e, ← List.map_map] at this
      exact List.Pairwise.of_map pkK (fun _ _ ne z => ne (congrArg pkK z)) this
    have len : cs.length < 300 := hf cs nd sub
    refine ⟨.ref s.heap.objs.size, upd H s.heap.objs.size (SetHO X.prog X.w s.heap.objs.size cs), I.laid (t' := tk) k (Nat.le_refl _) ?_, rfl, q _ cs hn sub (fun b hb => ?_) nd len⟩
    · have x : SetX X.prog X.w h' s.heap.objs.size cs := ⟨es, ep, t, R.ob, R.rows, R.tab, R.nd, R.led, R.room, R.small⟩
      have ⟨o, ho, _⟩ := R.ob
      refine ⟨x, ⟨o, ho⟩, fun h1 h2 p kk => ?_⟩
      obtain ⟨es', ep', t', ⟨o', ho', r'⟩, q'⟩ := p
      exact ⟨es', ep', t', ⟨o', kk o' ho', r'⟩, q'⟩
    · have := g.all (rowOf b) (by rw [List.take_length]; exact List.mem_map.mpr ⟨b, hb, rfl⟩)
      rw [List.map_map] at this
      obtain ⟨c, hc, e⟩ := List.mem_map.mp this
      exact List.mem_map.mpr ⟨c, hc, pkK_inj e⟩
def rSortP (K : PySem.W.Frag) (P : Program) (w : World) : List V → Hp → VK → Prop := fun xs H Q => ∃ (a : Addr) (cs : List Row2), xs = [V.ref a] ∧ H a = some (SetHO P w a cs) ∧ (∀ c ∈ cs, SqT K H c.1 (vPair c.2)) ∧ cs.length < 300 ∧
  ∀ (ds : List Row2) (p : Addr), ds.Perm cs → H p = none → Q (.ref p) (upd H p (.lst ((ds.mergeSort (PySem.W.dataLe false fun b => pkD b.2)).map fun b => V.ref b.1)))
theorem cr_sortP (hc : X.calm = true) (hu : X.A.units + 64 < cLine) : CallR X (.builtin "sorted") (rSortP X.K X.prog X.w) := by
  intro pins s σ H xs us Q I r h
  obtain ⟨a, cs, rfl, ha, hk, few, q⟩ := h
  have x : SetX X.prog X.w s.heap a cs := (I.hok a _ ha).1
  obtain ⟨es, ep, t, ob, rows, tab, nd, led, room, small⟩ := x
  have R : SetM X.prog X.w s.heap a (cs.map rowOf) es ep t := ⟨ob, rows, tab, nd, fun p hp => by
    obtain ⟨b, hb, rfl⟩ := List.mem_map.mp hp
    exact inv_pair I (hk b hb), led, room, small⟩
  rw [Vals.ref1 r]
  refine sorted_m R (I.ok.hd hc) (by omega) few fun s' p c ds k g o hp pm hg => ?_
  have sl : sizeLine = 16777216 := sizeLine_eq
  have len : ((ds.mergeSort (PySem.W.dataLe false fun b : Row2 => pkD b.2)).map fun b => V.ref b.1).length ≤ sizeLine := by
    rw [List.length_map, List.length_mergeSort, pm.length_eq]
    omega
  have hn : H p = none := I.hok.fresh hp
  have J : Inv X pins σ (upd H p (.lst ((ds.mergeSort (PySem.W.dataLe false fun b : Row2 => pkD b.2)).map fun b => V.ref b.1))) s' :=
    I.call' (ch := []) o (Un.laid k hp hn) (I.hok.laid k hp ⟨len, _, c, rows_vals _, hg⟩) (by rw [g]; exact I.bare) fun _ z => nomatch z
  exact ⟨.ref p, _, J, rfl, q ds p pm hn⟩
end

/-! ### over data -/
def pairLe (x y : Int × Tx) : Bool := decide (x.1 < y.1 ∨ (x.1 = y.1 ∧ x.2 ≤ y.2))
theorem pair_le (x y : Int × Tx) : PySem.W.dataLe false pkD (x.1, S x.2) (y.1, S y.2) = pairLe x y := by
  unfold pairLe
  rw [PySem.W.dataLe_eq]
  show (!PySem.W.dataLt (.tuple [.int y.1, .str (S y.2)]) (.tuple [.int x.1, .str (S x.2)])) = _
  rw [PySem.W.dataLt_pair (by simp [PySem.W.alike]) (by simp [PySem.W.alike]), PySem.W.dataLt_int, PySem.W.dataLt_str]
  have e1 : (S y.2).cps.toList = y.2 := by unfold S; simp
  have e2 : (S x.2).cps.toList = x.2 := by unfold S; simp
  rw [e1, e2]
  by_cases h1 : y.1 = x.1
  · by_cases h2 : y.2 = x.2
    · simp [PyData.eqv, h1, h2]
    · have h3 : ¬ S y.2 = S x.2 := fun z => h2 (S_inj z)
      by_cases h5 : x.2 ≤ y.2
      · simp [PyData.eqv, h1, h3, h5]
      · simp [PyData.eqv, h1, h3, h5, List.not_le.mp h5]
  · have h6 : ¬ x.1 = y.1 := fun z => h1 z.symm
    by_cases h5 : y.1 < x.1
    · have : ¬ x.1 < y.1 := by omega
      simp [PyData.eqv, h1, h5, this, h6]
    · have : x.1 < y.1 := by omega
      simp [PyData.eqv, h1, h5, this, h6]
theorem pairLe_iff (x y : Int × Tx) : pairLe x y = true ↔ x.1 < y.1 ∨ (x.1 = y.1 ∧ x.2 ≤ y.2) := by
  unfold pairLe
  exact decide_eq_true_iff
theorem pairLe_trans (a b c : Int × Tx) (h : pairLe a b = true) (h' : pairLe b c = true) : pairLe a c = true := by
  rw [pairLe_iff] at *
  rcases h with h | ⟨h, k⟩ <;> rcases h' with h' | ⟨h', k'⟩
  · exact .inl (Int.lt_trans h h')
  · exact .inl (by omega)
  · exact .inl (by omega)
  · exact .inr ⟨h.trans h', List.le_trans k k'⟩
theorem pairLe_total (a b : Int × Tx) : (pairLe a b || pairLe b a) = true := by
  rw [Bool.or_eq_true, pairLe_iff, pairLe_iff]
  rcases Int.lt_trichotomy a.1 b.1 with h | h | h
  · exact .inl (.inl h)
  · rcases List.le_total a.2 b.2 with k | k
    · exact .inl (.inr ⟨h, k⟩)
    · exact .inr (.inr ⟨h.symm, k⟩)
  · exact .inr (.inl h)
theorem pairLe_anti (a b : Int × Tx) (h : pairLe a b = true) (h' : pairLe b a = true) : a = b := by
  rw [pairLe_iff] at *
  rcases h with h | ⟨h, k⟩ <;> rcases h' with h' | ⟨h', k'⟩
  · omega
  · omega
  · omega
  · exact Prod.ext h (List.le_antisymm k k')
theorem sort_perm {l m : List (Int × Tx)} (h : l.Perm m) : l.mergeSort pairLe = m.mergeSort pairLe :=
  List.Perm.eq_of_pairwise (le := fun a b => pairLe a b = true) (fun a b _ _ => pairLe_anti a b) (List.pairwise_mergeSort pairLe_trans pairLe_total l) (List.pairwise_mergeSort pairLe_trans pairLe_total m)
    ((List.mergeSort_perm l pairLe).trans (h.trans (List.mergeSort_perm m pairLe).symm))
theorem len_sub {α : Type} [DecidableEq α] : ∀ {l m : List α}, l.Nodup → (∀ x ∈ l, x ∈ m) → l.length ≤ m.length
  | [], _, _, _ => Nat.zero_le _
  | x :: l, m, nd, h => by
    obtain ⟨h1, h2⟩ := List.nodup_cons.mp nd
    have hx : x ∈ m := h x List.mem_cons_self
    have := len_sub (l := l) (m := m.erase x) h2 fun y hy => (List.mem_erase_of_ne (show y ≠ x from fun e => h1 (by rw [← e]; exact hy))).mpr (h y (List.mem_cons_of_mem _ hy))
    have e := List.length_erase_of_mem hx
    have p := List.length_pos_of_mem hx
    rw [List.length_cons]
    omega
def pairsP : List D → Option (List (Int × Tx))
  | [] => some []
  | .tup [.int i, .str s] :: r => (match pairsP r with | some m => some ((i, s) :: m) | none => none)
  | _ => none
def pairP (q : Int × Tx) : D := .tup [.int q.1, .str q.2]
def uniqP (l : List (Int × Tx)) : List (Int × Tx) := (once l).mergeSort pairLe
def sortSet : D → Option D
  | .lst l => (match pairsP l with
    | some qs => if (once qs).length < 300 then some (.lst ((uniqP qs).map pairP)) else none
    | none => none)
  | _ => none
def keyS (q : Int × Tx) : PK := (q.1, S q.2)
theorem keyS_inj {a b : Int × Tx} (h : keyS a = keyS b) : a = b := by
  unfold keyS at h
  injection h with h1 h2
  exact Prod.ext h1 (S_inj h2)
section
variable {K : PySem.W.Frag} {G : Hp}
theorem pairs_rows : ∀ {ds : List D} {vs : List V} {qs : List (Int × Tx)}, pairsP ds = some qs → RpL K G vs ds → ∃ bs : List Row2, vs = bs.map (fun b => V.ref b.1) ∧ bs.map (·.2) = qs.map keyS ∧ ∀ b ∈ bs, SqT K G b.1 (vPair b.2)
  | [], vs, qs, e, r => by
    cases e
    rw [rpl_nil.mp r]
    exact ⟨[], rfl, rfl, fun b hb => nomatch hb⟩
  | d :: ds, vs, qs, e, r => by
    obtain ⟨v, us, rfl, h1, h2⟩ := rpl_cons.mp r
    unfold pairsP at e
    split at e
    · rename_i eq; cases eq
    · rename_i i z r' eq
      cases eq
      split at e
      · rename_i m hm
        cases e
        obtain ⟨bs, rfl, q1, q2⟩ := pairs_rows hm h2
        obtain ⟨a, xs, rfl, ha, ra⟩ := rp_tup.mp h1
        obtain ⟨x, y, rfl, rx, ry⟩ := rpl_2 ra
        rw [rp_int.mp rx, rp_str.mp ry] at ha
        refine ⟨(a, (i, S z)) :: bs, rfl, by rw [List.map_cons, List.map_cons, q1]; rfl, fun b hb => ?_⟩
        rcases List.mem_cons.mp hb with w | w
        · rw [w]; exact ha
        · exact q2 b w
      · cases e
    · cases e
theorem rows_rpl : ∀ {bs : List Row2} {qs : List (Int × Tx)}, bs.map (·.2) = qs.map keyS → (∀ b ∈ bs, SqT K G b.1 (vPair b.2)) → RpL K G (bs.map fun b => V.ref b.1) (qs.map pairP)
  | [], [], _, _ => rpl_nil.mpr rfl
  | [], _ :: _, e, _ => by cases e
  | _ :: _, [], e, _ => by cases e
  | b :: bs, q :: qs, e, h => by
    rw [List.map_cons, List.map_cons] at e
    injection e with e1 e2
    refine rpl_cons.mpr ⟨_, _, rfl, rp_tup.mpr ⟨b.1, _, rfl, h b List.mem_cons_self, ?_⟩, rows_rpl e2 fun c hc => h c (List.mem_cons_of_mem _ hc)⟩
    rw [e1]
    exact rpl_cons.mpr ⟨_, _, rfl, rp_int.mpr rfl, rpl_one (rp_str.mpr rfl)⟩
end
section
variable {ι : Type} {F : Fm ι} {K : Kx}
theorem do_sortSet {e : Expr} {p p2 pos pos2 : Pos} {φ : Den} (hg : ∀ i, Gl (F.X i) "sorted") (hm : F.mg "sorted" = none) (hg2 : ∀ i, Gl (F.X i) "set") (hm2 : F.mg "set" = none) (ha : DE F e φ)
    (hs : ∀ i, starEach (e :: []) (F.X i).env = (false, eval e (F.X i).env) :: starEach [] (F.X i).env := by intro _; rfl)
    (hs2 : ∀ i, starEach (.Call (.Name "set" p2) [e] [] pos2 :: []) (F.X i).env = (false, eval (.Call (.Name "set" p2) [e] [] pos2) (F.X i).env) :: starEach [] (F.X i).env := by intro _; rfl) :
    DO F (.Call (.Name "sorted" p) [.Call (.Name "set" p2) [e] [] pos2] [] pos) (d1 sortSet φ) := by
  obtain ⟨t, h1, h2⟩ := ha.ex
  refine ⟨tCB (rSortP F.K F.P F.w) (tCons (tCB (rSetP F.K F.P F.w) (tCons t tNil)) tNil), fun i => ?_, ?_⟩
  · have c1 := cr_sortP (F.calm i) (F.room i).units
    have c2 := cr_setP (F.calm i) (F.room i).units
    rw [F.hK i, F.hP i, F.hw i] at c1 c2
    exact pe_callB c1 (hg i) (by rw [F.hmg i]; exact hm) (by decide +kernel) (pa_cons (pe_callTy c2 (hg2 i) (by rw [F.hmg i]; exact hm2) (by decide +kernel) (pa_cons (h1 i) pa_nil (hs i)) (by decide) (by decide) (hs i)) pa_nil (hs2 i)) (by decide) (by decide) (hs2 i)
  · intro ρ d ρ' e G σ H Q S' q
    unfold d1 at e
    split at e
    · rename_i x ρ1 k1
      split at e
      · rename_i z k2
        cases e
        refine h2 ρ x ρ' k1 G σ H _ S' fun v G1 H1 g1 S1 r1 => ?_
        unfold sortSet at k2
        split at k2
        · split at k2
          · rename_i qs hqs
            split at k2
            · rename_i few
              cases k2
              obtain ⟨l, vs, rfl, hl, rl⟩ := rp_lst.mp r1
              obtain ⟨bs, rfl, b1, b2⟩ := pairs_rows hqs rl
              have lb : bs.length = qs.length := by
                have := congrArg List.length b1
                rw [List.length_map, List.length_map] at this
                exact this
              refine ⟨l, bs, rfl, .inl (.inl (S1.sub _ _ hl)), fun b hb => SqT.mono S1.sub (b2 b hb), fun cs nd sub => ?_, fun a cs ha c1 c2 c3 c4 => ?_⟩
              · have : (cs.map (·.2)).length ≤ ((once qs).map keyS).length := len_sub nd fun k hk => by
                  obtain ⟨c, hc, rfl⟩ := List.mem_map.mp hk
                  have : c.2 ∈ bs.map (·.2) := List.mem_map.mpr ⟨c, sub c hc, rfl⟩
                  rw [b1] at this
                  obtain ⟨q0, hq, e0⟩ := List.mem_map.mp this
                  exact List.mem_map.mpr ⟨q0, mem_once.mpr hq, e0⟩
                rw [List.length_map, List.length_map] at this
                omega
              have gn : Go G1 H1 (OwA σ ρ') G1 (upd H1 a (SetHO F.P F.w a cs)) (OwA σ ρ') := Go.newO ha
              have Sn : Sx F.K G1 σ (upd H1 a (SetHO F.P F.w a cs)) ρ' := S1.newO ha
              refine ⟨a, cs, rfl, upd_same, fun c hc => SqT.mono Sn.sub (b2 c (c1 c hc)), c4, fun ds p pm hp => ?_⟩
              -- the keys, as data
              have keys : (ds.map (·.2)).Perm ((once qs).map keyS) := by
                refine (pm.map (·.2)).trans ((List.perm_ext_iff_of_nodup c3 ?_).mpr fun k => ?_)
                · exact List.pairwise_map.mpr (List.Pairwise.imp (fun ne z => ne (keyS_inj z)) (once_nodup qs))
                · constructor
                  · intro hk
                    obtain ⟨c, hc, rfl⟩ := List.mem_map.mp hk
                    have : c.2 ∈ bs.map (·.2) := List.mem_map.mpr ⟨c, c1 c hc, rfl⟩
                    rw [b1] at this
                    obtain ⟨q0, hq, e0⟩ := List.mem_map.mp this
                    exact List.mem_map.mpr ⟨q0, mem_once.mpr hq, e0⟩
                  · intro hk
                    obtain ⟨q0, hq, e0⟩ := List.mem_map.mp hk
                    have : k ∈ bs.map (·.2) := by rw [b1]; exact List.mem_map.mpr ⟨q0, mem_once.mp hq, e0⟩
                    obtain ⟨b, hb, rfl⟩ := List.mem_map.mp this
                    exact c2 b hb
              obtain ⟨ks, ek, pk⟩ := perm_of_map keys.symm (f := keyS) rfl
              have same : (ds.mergeSort (PySem.W.dataLe false fun b : Row2 => pkD b.2)).map (·.2) = (uniqP qs).map keyS := by
                unfold uniqP
                rw [← sort_perm pk, List.map_mergeSort (f := fun b : Row2 => b.2) (r := PySem.W.dataLe false fun b : Row2 => pkD b.2) (s := PySem.W.dataLe false pkD) (fun _ _ _ _ => rfl), ek]
                exact (List.map_mergeSort (fun a _ b _ => (pair_le a b).symm)).symm
              refine newO_lst (Q := fun a H' => Q (.ref a) H') Sn (rows_rpl same fun c hc => b2 c (c1 c (pm.mem_iff.mp (List.mem_mergeSort.mp hc)))) (fun a' G2 H2 g2 S2 n1 n2 o no => q a' G2 H2 ((g1.trans gn).trans g2) S2 ((g1.trans gn).fresh n1) n2 o no) p hp
            · cases k2
          · cases k2
        · cases k2
      · cases e
    · cases e
end
end DL

/-! What printed derivations use. -/
namespace DL
open PySem PySem.Spec PyProof.Rows L2 RZ

section
variable {ι : Type} {F : Fm ι} {K : Kx}
theorem de_strL {x : Str} {j pos} (l : Tx) (h : x.cps.toList = l := by rfl) : DE F (.Constant (.str x) j pos) (d0 (.str l)) := h ▸ de_str
theorem de_gstrL {x y : Str} {pos : Pos} (l : Tx) (hg : ∀ i, Gl (F.X i) x) (hm : ∃ t, F.mg x = some (.str y t)) (h : y.cps.toList = l := by rfl) (hd : (x == ("__debug__" : Str)) = false := by decide) : DE F (.Name x pos) (d0 (.str l)) := by
  obtain ⟨t, hm⟩ := hm
  exact h ▸ de_gstr hg hm hd
theorem de_gintE {x : Str} {n : Int} {pos : Pos} (hg : ∀ i, Gl (F.X i) x) (hm : ∃ t, F.mg x = some (.int n t)) (hd : (x == ("__debug__" : Str)) = false := by decide) : DE F (.Name x pos) (d0 (.int n)) := by
  obtain ⟨t, hm⟩ := hm
  exact de_gint hg hm hd
def sPar3 (i j k : Nat) (φ : DenL) : DenS := fun ρ => match φ ρ with
  | some ([x, y, z], ρ1) => if i < ρ1.length ∧ j < ρ1.length ∧ k < ρ1.length then some (.nx (((ρ1.set i (.sh x)).set j (.sh y)).set k (.sh z))) else none
  | _ => none
theorem rpl_3 {K : PySem.W.Frag} {G : Hp} {vs : List V} {a b c : D} (h : RpL K G vs [a, b, c]) : ∃ x y z, vs = [x, y, z] ∧ Rp K G x a ∧ Rp K G y b ∧ Rp K G z c := by
  obtain ⟨x, r, rfl, h1, h2⟩ := rpl_cons.mp h
  obtain ⟨y, z, rfl, h3, h4⟩ := rpl_2 h2
  exact ⟨x, y, z, rfl, h1, h3, h4⟩
theorem ds_par3 (i j k : Nat) {x y z : Str} {a b c : Expr} {φ : DenL} {px py pz pt pos : Pos} {kt k2 : Nat} {pt2 : Pos} (hi : F.N[i]? = some x) (hj : F.N[j]? = some y) (hk : F.N[k]? = some z) (hij : i ≠ j) (hik : i ≠ k) (hjk : j ≠ k)
    (hx : ∀ l, (F.X l).env.scope.names.lookup x = some .local) (hy : ∀ l, (F.X l).env.scope.names.lookup y = some .local) (hz : ∀ l, (F.X l).env.scope.names.lookup z = some .local) (ha : DA F [a, b, c] φ)
    (hw : ∀ l, swappedStores [.Tuple [.Name x px, .Name y py, .Name z pz] kt pt] (.Tuple [a, b, c] k2 pt2) (F.X l).env = pure (some [x, y, z]) := by intro _; rfl)
    (hs : ∀ l, swapsWithSole [.Tuple [.Name x px, .Name y py, .Name z pz] kt pt] (.Tuple [a, b, c] k2 pt2) pos.line (F.X l).env = pure false := by intro _; rfl) : DS F (.Assign [.Tuple [.Name x px, .Name y py, .Name z pz] kt pt] (.Tuple [a, b, c] k2 pt2) pos) (sPar3 i j k φ) := by
  obtain ⟨t, h1, h2⟩ := ha.ex
  refine ⟨_, fun l => ps_par3 (F.calm l) (by rw [F.hN l]; exact F.nd) (by rw [F.hN l]; exact hi) (by rw [F.hN l]; exact hj) (by rw [F.hN l]; exact hk) hij hik hjk (hx l) (hy l) (hz l) (h1 l) (hw l) (hs l), ?_⟩
  intro ρ o e G σ H E S q
  unfold sPar3 at e
  split at e
  · rename_i u v w ρ1 k1
    split at e
    · rename_i hl
      cases e
      refine h2 ρ _ ρ1 k1 G σ H _ S fun vs G1 H1 g1 S1 r1 => ?_
      obtain ⟨v1, v2, v3, rfl, r2, r3, r4⟩ := rpl_3 r1
      refine ⟨v1, v2, v3, rfl, ?_⟩
      obtain ⟨g2, S2⟩ := S1.store hl.1 r2
      obtain ⟨g3, S3⟩ := S2.store (i := j) (by rw [List.length_set]; exact hl.2.1) r3
      obtain ⟨g4, S4⟩ := S3.store (i := k) (by rw [List.length_set, List.length_set]; exact hl.2.2) r4
      exact q _ G1 H1 (((g1.trans g2).trans g3).trans g4) S4
    · cases e
  · cases e
end

/-- a def of the text as the top has left it -/
structure Def (K : PySem.W.Frag) (mg : Str → Option Value) (x : Str) (st : Stmt) (ps : List Str) : Prop where
  ex : ∃ f fd, Fun K x x st f fd ∧ mg x = some (.ref f) ∧ Binds K fd ps []
/-- .. with its promise -/
structure Cal (P : Program) (w : World) (K : PySem.W.Frag) (mg : Str → Option Value) (base : Heap) (x : Str) (k : Nat) (ps : List Str) (sp : Sp) : Prop where
  ex : ∃ f fd, FnOk P w K mg base CX0 k f fd ps sp ∧ mg x = some (.ref f) ∧ PySem.W.keepIn K (.ref f) = true ∧ Binds K fd ps [] ∧ ∃ o d s, K.lookup f = some ⟨o, d, .func fd, s⟩
section
variable {P : Program} {w : World} {K : PySem.W.Frag} {mg : Str → Option Value} {base : Heap}
theorem lk_of {x : Str} {st : Stmt} {f : Addr} {fd : FuncData} (F : Fun K x x st f fd) : ∃ o d s, K.lookup f = some ⟨o, d, .func fd, s⟩ := by
  obtain ⟨oc, od, kV, doc, pm, an, cdv, ct, osl, rfl, lk, hcd⟩ := F.ex
  exact ⟨_, _, _, lk⟩
theorem cal_D {x : Str} {st : Stmt} {N ps : List Str} {k : Nat} {φ : DenS} (D : Def K mg x st ps) (S : FnScope N ps (defScope st))
    (hbody : ∀ (f : Addr) (cdv : Value) (A : Around) (outer : List Env) (s : Shared) (H : Hp) (E : XK) (pn : Addr) (hr : Room k (A.deeper (envOfC x (defScope st) s.heap.objs.size f cdv))), DSs (fmOf P w K mg base N S.nd x (defScope st) f cdv A outer s H E k pn hr) (defBody st) φ) :
    Cal P w K mg base x (k + 1) ps (spD K ps.length (runD N.length ps.length φ)) := by
  obtain ⟨f, fd, F, m, b⟩ := D.ex
  exact ⟨f, fd, fn_D F S (hbody f), m, F.kp, b, lk_of F⟩
theorem cal_N {x : Str} {st : Stmt} {N ps : List Str} {k : Nat} {φ : DenS} (D : Def K mg x st ps) (S : FnScope N ps (defScope st))
    (hbody : ∀ (f : Addr) (cdv : Value) (A : Around) (outer : List Env) (s : Shared) (H : Hp) (E : XK) (pn : Addr) (hr : Room k (A.deeper (envOfC x (defScope st) s.heap.objs.size f cdv))), DSs (fmOf P w K mg base N S.nd x (defScope st) f cdv A outer s H E k pn hr) (defBody st) φ) :
    Cal P w K mg base x (k + 1) ps (spN K ps.length (runN N.length ps.length φ)) := by
  obtain ⟨f, fd, F, m, b⟩ := D.ex
  exact ⟨f, fd, fn_N F S (hbody f), m, F.kp, b, lk_of F⟩
theorem cal_IO {x p0 : Str} {st : Stmt} {N ps : List Str} {k : Nat} {φ : DenS} (D : Def K mg x st (p0 :: ps)) (S : FnScope N (p0 :: ps) (defScope st))
    (hbody : ∀ (f : Addr) (cdv : Value) (A : Around) (outer : List Env) (s : Shared) (H : Hp) (E : XK) (pn : Addr) (hr : Room k (A.deeper (envOfC x (defScope st) s.heap.objs.size f cdv))), DSs (fmOf P w K mg base N S.nd x (defScope st) f cdv A outer s H E k pn hr) (defBody st) φ) :
    Cal P w K mg base x (k + 1) (p0 :: ps) (spIO K ps.length (runIO N.length ps.length φ)) := by
  obtain ⟨f, fd, F, m, b⟩ := D.ex
  exact ⟨f, fd, fn_IO F S (hbody f), m, F.kp, b, lk_of F⟩
end
section
variable {ι : Type} {F : Fm ι} {K : Kx}
theorem de_callC {x : Str} {p pos : Pos} {e : Expr} {es : List Expr} {k : Nat} {ps : List Str} {n : Nat} {Φ : List D → Option D} {φ : DenL} (C : Cal F.P F.w F.K F.mg F.base x k ps (spD F.K n Φ)) (hk : k ≤ F.k) (hn : ∀ ds d, Φ ds = some d → ds.length = n)
    (hg : ∀ i, Gl (F.X i) x) (ha : DA F (e :: es) φ)
    (hdb : (x == ("__debug__" : Str)) = false := by decide) (he : ∀ i, starEach (e :: es) (F.X i).env = (false, eval e (F.X i).env) :: starEach es (F.X i).env := by intro _; rfl) (hpl : ∀ i, (backTo pos (starEach es (F.X i).env)).any (·.1) = false := by intro _; rfl) :
    DE F (.Call (.Name x p) (e :: es) [] pos) (dC Φ φ) := by
  obtain ⟨f, fd, c, m, kp, b, _⟩ := C.ex
  exact de_call c hk hn hg m kp b ha hdb he hpl
theorem do_callC {x : Str} {p pos : Pos} {e : Expr} {es : List Expr} {k : Nat} {ps : List Str} {n : Nat} {Φ : List D → Option D} {φ : DenL} (C : Cal F.P F.w F.K F.mg F.base x k ps (spN F.K n Φ)) (hk : k ≤ F.k) (hn : ∀ ds d, Φ ds = some d → ds.length = n)
    (hg : ∀ i, Gl (F.X i) x) (ha : DA F (e :: es) φ)
    (hdb : (x == ("__debug__" : Str)) = false := by decide) (he : ∀ i, starEach (e :: es) (F.X i).env = (false, eval e (F.X i).env) :: starEach es (F.X i).env := by intro _; rfl) (hpl : ∀ i, (backTo pos (starEach es (F.X i).env)).any (·.1) = false := by intro _; rfl) :
    DO F (.Call (.Name x p) (e :: es) [] pos) (dC Φ φ) := by
  obtain ⟨f, fd, c, m, kp, b, _⟩ := C.ex
  exact do_call c hk hn hg m kp b ha hdb he hpl
theorem de_callIOC (i : Nat) {x y : Str} {p py pos : Pos} {es : List Expr} {k : Nat} {ps : List Str} {n : Nat} {Φ : D → List D → Option (D × D)} {φ : DenL} (C : Cal F.P F.w F.K F.mg F.base x k ps (spIO F.K n Φ)) (hk : k ≤ F.k) (hn : ∀ io ds d, Φ io ds = some d → ds.length = n)
    (hg : ∀ i, Gl (F.X i) x) (hN : F.N[i]? = some y) (hv : ∀ j, Vis (F.X j).env.scope y) (ha : DA F es φ)
    (hdb : (x == ("__debug__" : Str)) = false := by decide) (hdy : (y == ("__debug__" : Str)) = false := by decide) (hcd : (y == ("__classdict__" : Str)) = false := by decide)
    (he : ∀ i, starEach (.Name y py :: es) (F.X i).env = (false, eval (.Name y py) (F.X i).env) :: starEach es (F.X i).env := by intro _; rfl) (hpl : ∀ i, (backTo pos (starEach es (F.X i).env)).any (·.1) = false := by intro _; rfl) :
    DE F (.Call (.Name x p) (.Name y py :: es) [] pos) (dCio i Φ φ) := by
  obtain ⟨f, fd, c, m, kp, b, _⟩ := C.ex
  exact de_callIO i c hk hn hg m kp b hN hv ha hdb hdy hcd he hpl
theorem do_sortRankC {e : Expr} {p p2 kpos pos : Pos} {φ : Den} {st : Stmt} {k : Nat} {p1 q2 p3 p4 p5 p6 : Pos} {kk : Nat} (D : Def F.K F.mg "word_rank" st ["word"]) (sc : FnScope ["word"] ["word"] (defScope st))
    (hb : defBody st = [.Return (some (.Tuple [.Call (.Name "len" p1) [.Name "word" q2] [] p3, .Name "word" p4] kk p5)) p6]) (hl : List.lookup ("len" : Str) (defScope st).names = some .globalImplicit) (hw : List.lookup ("word" : Str) (defScope st).names = some .local)
    (hm : F.mg "len" = none) (hk : k + 3 ≤ F.k) (hg : ∀ i, Gl (F.X i) "sorted") (hms : F.mg "sorted" = none) (hgr : ∀ i, Gl (F.X i) "word_rank") (ha : DE F e φ)
    (hst : ∀ i, starEach [e] (F.X i).env = [(false, eval e (F.X i).env)] := by intro _; rfl)
    (he : ∀ i, backTo pos (starEach (e :: []) (F.X i).env) = (false, eval e (F.X i).env) :: backTo pos (starEach [] (F.X i).env) := by intro _; rfl) (hpl : ∀ i, (backTo pos (starEach (e :: []) (F.X i).env)).any (·.1) = false := by intro _; rfl) :
    DO F (.Call (.Name "sorted" p) [e] [⟨some "key", .Name "word_rank" p2, kpos⟩] pos) (d1 sortRank φ) := by
  obtain ⟨f, fd, C, m, b⟩ := D.ex
  exact do_sortRank C sc hb hl hw b hm hk hg hms hgr m ha hst he hpl
end
section
variable {P : Program} {w : World} {K : PySem.W.Frag} {mg : Str → Option Value} {base : Heap}
/-- a def of the text, as the head has left it -/
theorem def_mk {h : Heap} {x : Str} {st : Stmt} {ps : List Str} {f : Addr} {oc : Value} {od an : Option Addr} {sl : Array (Option Value)} {kV dc pm cd ct : Value} (X : K.In h) (G : h.Ns mainGlobals mg)
    (a : PySem.W.nsIn K mainGlobals x = some (some (.ref f))) (l : K.lookup f = some ⟨oc, od, .func (PySem.W.fnOf x x (defArgs st) (defBody st) (defScope st) .none kV dc pm an cd ct), sl⟩) (c : PySem.W.codeIn K cd x = true) (k : PySem.W.keepIn K (.ref f) = true)
    (hb : ∀ (kV doc pm : Value) (an : Option Addr) (cdv ct : Value) (us : List Value), us.length = ps.length → bindArgs (PySem.W.fnOf x x (defArgs st) (defBody st) (defScope st) .none kV doc pm an cdv ct) ⟨us, []⟩ = pure (ps.zip us)) : Def K mg x st ps :=
  ⟨_, _, fun_mk (st := st) l c k, PySem.W.mg_of X G a, (fun_mk (st := st) l c k).binds fun kV dc pm an cd ct us hl => hb kV dc pm an cd ct us hl⟩
/-- the promise of a def whose object is known -/
theorem Cal.at {x : Str} {k : Nat} {ps : List Str} {sp : Sp} (C : Cal P w K mg base x k ps sp) {f : Addr} {fd : FuncData} {o : Value} {d : Option Addr} {s : Array (Option Value)} (m : mg x = some (.ref f)) (l : K.lookup f = some ⟨o, d, .func fd, s⟩) : FnOk P w K mg base CX0 k f fd ps sp := by
  obtain ⟨f', fd', c, m', _, _, o', d', s', l'⟩ := C.ex
  rw [m] at m'
  cases m'
  rw [l] at l'
  cases l'
  exact c
end
end DL

set_option maxHeartbeats 4000000
/-! Printed by gen.py: the defs of the program and of the law over data. -/
namespace DLP
open PySem PySem.Spec PyProof.Rows L2 RZ DL
def topS (i : Nat) : Stmt := PySem.Challenge.pw_mendwide_k43_whole_outs_puts_and_runs.main.body.getD i (.Pass ⟨0, 0, 0, 0⟩)
structure Gm (mg : Str → Option Value) : Prop where
  b_abs : mg "abs" = none
  b_all : mg "all" = none
  b_bool : mg "bool" = none
  b_dict : mg "dict" = none
  b_enumerate : mg "enumerate" = none
  b_int : mg "int" = none
  b_isinstance : mg "isinstance" = none
  b_len : mg "len" = none
  b_list : mg "list" = none
  b_max : mg "max" = none
  b_min : mg "min" = none
  b_range : mg "range" = none
  b_set : mg "set" = none
  b_sorted : mg "sorted" = none
  b_str : mg "str" = none
  b_sum : mg "sum" = none
  b_tuple : mg "tuple" = none
  b_zip : mg "zip" = none
  g_GREATEST : ∃ t : Tok, mg "GREATEST" = some (.int 1000000000000000000000000000000000000000000000000000000000000 t)
  g_MOST_COUNTED : ∃ t : Tok, mg "MOST_COUNTED" = some (.int 60 t)
  g_MOST_LENGTH : ∃ t : Tok, mg "MOST_LENGTH" = some (.int 8 t)
  g_MOST_MANY : ∃ t : Tok, mg "MOST_MANY" = some (.int 3 t)
  g_MOST_SIGNS : ∃ t : Tok, mg "MOST_SIGNS" = some (.int 5 t)
  g_SIGNS : ∃ t : Tok, mg "SIGNS" = some (.str (Str.ofString "abcde") t)
abbrev s_word_rank : Stmt := topS 13
abbrev N_word_rank : List Str := ["word"]
theorem sc_word_rank : FnScope N_word_rank ["word"] (defScope s_word_rank) := ⟨rfl, rfl, rfl, by decide +kernel, rfl, by decide +kernel, by decide +kernel⟩
abbrev s_is_integer : Stmt := topS 7
abbrev N_is_integer : List Str := ["value"]
theorem sc_is_integer : FnScope N_is_integer ["value"] (defScope s_is_integer) := ⟨rfl, rfl, rfl, by decide +kernel, rfl, by decide +kernel, by decide +kernel⟩
def m_is_integer : DenS := (sRet (dAndV (d1 (isiT "int") (dV 0)) (dAndV (d1 notD (d1 (isiT "bool") (dV 0))) (dChain ltD ltD (d1 negI (d0 (.int 1000000000000000000000000000000000000000000000000000000000000))) (dV 0) (d0 (.int 1000000000000000000000000000000000000000000000000000000000000))))))
theorem cal_is_integer {P : Program} {w : World} {K : PySem.W.Frag} {mg : Str → Option Value} {base : Heap} (M : Gm mg) (D : Def K mg "is_integer" s_is_integer ["value"])  : Cal P w K mg base "is_integer" 1 ["value"] (spD K 1 (runD 1 1 m_is_integer)) :=
  cal_D D sc_is_integer fun f cdv A outer s H E pn hr =>
    (ds_one (ds_ret (de_and (de_isi (fun _ => rfl) M.b_isinstance (fun _ => rfl) M.b_int (by decide +kernel) (de_var 0 rfl (fun _ => .inl rfl))) (de_and (de_not (de_isi (fun _ => rfl) M.b_isinstance (fun _ => rfl) M.b_bool (by decide +kernel) (de_var 0 rfl (fun _ => .inl rfl)))) (de_one (de_ltlt (de_neg (de_gintE (fun _ => rfl) M.g_GREATEST)) (de_var 0 rfl (fun _ => .inl rfl)) (de_gintE (fun _ => rfl) M.g_GREATEST)))))))
abbrev s_is_sign : Stmt := topS 8
abbrev N_is_sign : List Str := ["value"]
theorem sc_is_sign : FnScope N_is_sign ["value"] (defScope s_is_sign) := ⟨rfl, rfl, rfl, by decide +kernel, rfl, by decide +kernel, by decide +kernel⟩
def m_is_sign : DenS := (sRet (dAndV (d1 (isiT "str") (dV 0)) (dAndV (d2 eqD (dC lenD (dCons (dV 0) dNil)) (d0 (.int 1))) (dIn (dV 0) (d0 (.str [97, 98, 99, 100, 101]))))))
theorem cal_is_sign {P : Program} {w : World} {K : PySem.W.Frag} {mg : Str → Option Value} {base : Heap} (M : Gm mg) (D : Def K mg "is_sign" s_is_sign ["value"])  : Cal P w K mg base "is_sign" 1 ["value"] (spD K 1 (runD 1 1 m_is_sign)) :=
  cal_D D sc_is_sign fun f cdv A outer s H E pn hr =>
    (ds_one (ds_ret (de_and (de_isi (fun _ => rfl) M.b_isinstance (fun _ => rfl) M.b_str (by decide +kernel) (de_var 0 rfl (fun _ => .inl rfl))) (de_and (de_eq (de_len (fun _ => rfl) M.b_len (de_var 0 rfl (fun _ => .inl rfl))) de_int) (de_one (de_in (de_var 0 rfl (fun _ => .inl rfl)) (de_gstrL [97, 98, 99, 100, 101] (fun _ => rfl) M.g_SIGNS)))))))
abbrev s_is_word : Stmt := topS 9
abbrev N_is_word : List Str := ["value", "sign"]
theorem sc_is_word : FnScope N_is_word ["value"] (defScope s_is_word) := ⟨rfl, rfl, rfl, by decide +kernel, rfl, by decide +kernel, by decide +kernel⟩
def m_is_word : DenS := (sRet (dAndV (d1 (isiT "str") (dV 0)) (dC allD (dCons (dLc (dL seqD (dV 0)) (gN 1) tYesD (dIn (dV 1) (d0 (.str [97, 98, 99, 100, 101]))) [1]) dNil))))
theorem cal_is_word {P : Program} {w : World} {K : PySem.W.Frag} {mg : Str → Option Value} {base : Heap} (M : Gm mg) (D : Def K mg "is_word" s_is_word ["value"])  : Cal P w K mg base "is_word" 1 ["value"] (spD K 1 (runD 2 1 m_is_word)) :=
  cal_D D sc_is_word fun f cdv A outer s H E pn hr =>
    (ds_one (ds_ret (de_and (de_isi (fun _ => rfl) M.b_isinstance (fun _ => rfl) M.b_str (by decide +kernel) (de_var 0 rfl (fun _ => .inl rfl))) (de_one (de_all (fun _ => rfl) M.b_all (DO.de (do_lc (own := [("sign", 1)]) (di_seq (de_var 0 rfl (fun _ => .inl rfl))) (fun _ => (show BlkOk N_is_word (defScope s_is_word) _ [("sign", 1)] from ⟨rfl, by decide +kernel, by decide +kernel, by decide +kernel, by decide +kernel⟩)) (dg_name 1 rfl (fun _ => .inl rfl)) dts_nil (de_in (de_var 1 rfl (fun _ => .inl rfl)) (de_gstrL [97, 98, 99, 100, 101] (fun _ => rfl) M.g_SIGNS)))))))))
abbrev s_are_signs : Stmt := topS 10
abbrev N_are_signs : List Str := ["value", "one", "other", "sign"]
theorem sc_are_signs : FnScope N_are_signs ["value"] (defScope s_are_signs) := ⟨rfl, rfl, rfl, by decide +kernel, rfl, by decide +kernel, by decide +kernel⟩
def m_are_signs : DenS := (sSeq (sIf (dOrT (dNotT (dBl (d1 (isiT "tuple") (dV 0)))) (dOrT (dBl (d2 eqD (dC lenD (dCons (dV 0) dNil)) (d0 (.int 0)))) (dNotT (dBl (dC allD (dCons (dLc (dL seqD (dV 0)) (gN 3) tYesD (dC (runD 1 1 m_is_sign) (dCons (dV 3) dNil)) [3]) dNil)))))) (sRet (d0 (.bl false))) sNil)
    (sRet (dC allD (dCons (dLc (dLL zipL (dCons (dV 0) (dCons (dSl (dV 0) (pSome (d0 (.int 1))) pNone) dNil))) (gT (gsCons (gN 1) (gsCons (gN 2) gsNil))) tYesD (d2 ltD (dV 1) (dV 2)) [1, 2]) dNil))))
theorem cal_are_signs {P : Program} {w : World} {K : PySem.W.Frag} {mg : Str → Option Value} {base : Heap} (M : Gm mg) (D : Def K mg "are_signs" s_are_signs ["value"]) (c_is_sign : Cal P w K mg base "is_sign" 1 ["value"] (spD K 1 (runD 1 1 m_is_sign))) : Cal P w K mg base "are_signs" 2 ["value"] (spD K 1 (runD 4 1 m_are_signs)) :=
  cal_D D sc_are_signs fun f cdv A outer s H E pn hr =>
    (ds_cons (ds_if (DW.dt (dw_or (dt_not (dt_val (de_isi (fun _ => rfl) M.b_isinstance (fun _ => rfl) M.b_tuple (by decide +kernel) (de_var 0 rfl (fun _ => .inl rfl))))) (dw_or (dt_eq (de_len (fun _ => rfl) M.b_len (de_var 0 rfl (fun _ => .inl rfl))) de_int) (dw_or1 (dt_not (dt_val (de_all (fun _ => rfl) M.b_all (DO.de (do_lc (own := [("sign", 3)]) (di_seq (de_var 0 rfl (fun _ => .inl rfl))) (fun _ => (show BlkOk N_are_signs (defScope s_are_signs) _ [("sign", 3)] from ⟨rfl, by decide +kernel, by decide +kernel, by decide +kernel, by decide +kernel⟩)) (dg_name 3 rfl (fun _ => .inl rfl)) dts_nil (de_callC c_is_sign (show (1 : Nat) ≤ 1 by decide) runD_len (fun _ => rfl) (da_cons (de_var 3 rfl (fun _ => .inl rfl)) da_nil))))))))))) (ds_one (ds_ret de_bl)) ds_nil)
    (ds_one (ds_ret (de_all (fun _ => rfl) M.b_all (DO.de (do_lc (own := [("one", 1), ("other", 2)]) (di_zip (fun _ => rfl) M.b_zip (da_cons (de_var 0 rfl (fun _ => .inl rfl)) (da_cons (de_slice (de_var 0 rfl (fun _ => .inl rfl)) (dp_some de_int) dp_none) da_nil))) (fun _ => (show BlkOk N_are_signs (defScope s_are_signs) _ [("one", 1), ("other", 2)] from ⟨rfl, by decide +kernel, by decide +kernel, by decide +kernel, by decide +kernel⟩)) (dg_tup (dgs_cons (dg_name 1 rfl (fun _ => .inl rfl)) (dgs_cons (dg_name 2 rfl (fun _ => .inl rfl)) dgs_nil)) gs2) dts_nil (de_lt (de_var 1 rfl (fun _ => .inl rfl)) (de_var 2 rfl (fun _ => .inl rfl)))))))))
abbrev s_require_signs : Stmt := topS 11
abbrev N_require_signs : List Str := ["value"]
theorem sc_require_signs : FnScope N_require_signs ["value"] (defScope s_require_signs) := ⟨rfl, rfl, rfl, by decide +kernel, rfl, by decide +kernel, by decide +kernel⟩
def m_require_signs : DenS := (sIf (dNotT (dBl (dC (runD 4 1 m_are_signs) (dCons (dV 0) dNil)))) sBad sNil)
theorem cal_require_signs {P : Program} {w : World} {K : PySem.W.Frag} {mg : Str → Option Value} {base : Heap} (M : Gm mg) (D : Def K mg "require_signs" s_require_signs ["value"]) (c_are_signs : Cal P w K mg base "are_signs" 2 ["value"] (spD K 1 (runD 4 1 m_are_signs))) : Cal P w K mg base "require_signs" 3 ["value"] (spD K 1 (runD 1 1 m_require_signs)) :=
  cal_D D sc_require_signs fun f cdv A outer s H E pn hr =>
    (ds_one (ds_if (dt_not (dt_val (de_callC c_are_signs (show (2 : Nat) ≤ 2 by decide) runD_len (fun _ => rfl) (da_cons (de_var 0 rfl (fun _ => .inl rfl)) da_nil)))) (ds_one ds_never) ds_nil))
abbrev s_require_number : Stmt := topS 12
abbrev N_require_number : List Str := ["value", "low", "high"]
theorem sc_require_number : FnScope N_require_number ["value", "low", "high"] (defScope s_require_number) := ⟨rfl, rfl, rfl, by decide +kernel, rfl, by decide +kernel, by decide +kernel⟩
def m_require_number : DenS := (sIf (dOrT (dNotT (dBl (dC (runD 1 1 m_is_integer) (dCons (dV 0) dNil)))) (dNotT (dBl (dChain leD leD (dV 1) (dV 0) (dV 2))))) sBad sNil)
theorem cal_require_number {P : Program} {w : World} {K : PySem.W.Frag} {mg : Str → Option Value} {base : Heap} (M : Gm mg) (D : Def K mg "require_number" s_require_number ["value", "low", "high"]) (c_is_integer : Cal P w K mg base "is_integer" 1 ["value"] (spD K 1 (runD 1 1 m_is_integer))) : Cal P w K mg base "require_number" 2 ["value", "low", "high"] (spD K 3 (runD 3 3 m_require_number)) :=
  cal_D D sc_require_number fun f cdv A outer s H E pn hr =>
    (ds_one (ds_if (DW.dt (dw_or (dt_not (dt_val (de_callC c_is_integer (show (1 : Nat) ≤ 1 by decide) runD_len (fun _ => rfl) (da_cons (de_var 0 rfl (fun _ => .inl rfl)) da_nil)))) (dw_or1 (dt_not (dt_lele (de_var 1 rfl (fun _ => .inl rfl)) (de_var 0 rfl (fun _ => .inl rfl)) (de_var 2 rfl (fun _ => .inl rfl))))))) (ds_one ds_never) ds_nil))
abbrev s_by_words : Stmt := topS 14
abbrev N_by_words : List Str := ["words", "word"]
theorem sc_by_words : FnScope N_by_words ["words"] (defScope s_by_words) := ⟨rfl, rfl, rfl, by decide +kernel, rfl, by decide +kernel, by decide +kernel⟩
def m_by_words : DenS := (sRet (d1 sortRank (dC listK (dCons (dDc (dL seqD (dV 0)) (gN 1) tYesD (dV 1) (d0 (.bl true)) [1]) dNil))))
theorem cal_by_words {P : Program} {w : World} {K : PySem.W.Frag} {mg : Str → Option Value} {base : Heap} (M : Gm mg) (D : Def K mg "by_words" s_by_words ["words"]) (R : Def K mg "word_rank" s_word_rank ["word"])  : Cal P w K mg base "by_words" 4 ["words"] (spD K 1 (runD 2 1 m_by_words)) :=
  cal_D D sc_by_words fun f cdv A outer s H E pn hr =>
    (ds_one (ds_ret (DO.de (do_sortRankC (k := 0) R sc_word_rank rfl rfl rfl M.b_len (show (3 : Nat) ≤ 3 by decide) (fun _ => rfl) M.b_sorted (fun _ => rfl) (DO.de (do_listK (fun _ => rfl) M.b_list (DO.de (do_dc (own := [("word", 1)]) (di_seq (de_var 0 rfl (fun _ => .inl rfl))) (fun _ => (show BlkOk N_by_words (defScope s_by_words) _ [("word", 1)] from ⟨rfl, by decide +kernel, by decide +kernel, by decide +kernel, by decide +kernel⟩)) (dg_name 1 rfl (fun _ => .inl rfl)) dts_nil (de_var 1 rfl (fun _ => .inl rfl)) de_bl))))))))
abbrev s_below_in : Stmt := topS 20
abbrev N_below_in : List Str := ["word", "many", "found", "turn", "later", "one", "at"]
theorem sc_below_in : FnScope N_below_in ["word", "many"] (defScope s_below_in) := ⟨rfl, rfl, rfl, by decide +kernel, rfl, by decide +kernel, by decide +kernel⟩
def m_below_in : DenS := (sSeq (sSet 2 (dC mkLst (dCons (dV 0) dNil)))
    (sSeq (sFor (dLL range1L (dCons (dV 1) dNil)) (gN 3) (sSeq (sSetO 4 (dC mkLst dNil))
    (sSeq (sFor (dL seqD (dV 2)) (gN 5) (sExt 4 (dLc (dLL range1L (dCons (dC lenD (dCons (dV 5) dNil)) dNil)) (gN 6) tYesD (dAdd (dSl (dV 5) pNone (pSome (dV 6))) (dSl (dV 5) (pSome (dAdd (dV 6) (d0 (.int 1)))) pNone)) [6])))
    (sSet 2 (dC (runD 2 1 m_by_words) (dCons (dV 4) dNil))))))
    (sRet (dV 2))))
theorem cal_below_in {P : Program} {w : World} {K : PySem.W.Frag} {mg : Str → Option Value} {base : Heap} (M : Gm mg) (D : Def K mg "below_in" s_below_in ["word", "many"]) (c_by_words : Cal P w K mg base "by_words" 4 ["words"] (spD K 1 (runD 2 1 m_by_words))) : Cal P w K mg base "below_in" 5 ["word", "many"] (spD K 2 (runD 7 2 m_below_in)) :=
  cal_D D sc_below_in fun f cdv A outer s H E pn hr =>
    (ds_cons (ds_set 2 rfl (fun _ => .inl rfl) (DO.de (do_lst (da_cons (de_var 0 rfl (fun _ => .inl rfl)) da_nil))))
    (ds_cons (ds_for (di_range1 (fun _ => rfl) M.b_range (da_cons (de_var 1 rfl (fun _ => .inl rfl)) da_nil)) (dg_name 3 rfl (fun _ => .inl rfl)) (ds_cons (ds_setO 4 rfl (fun _ => .inl rfl) (do_lst da_nil))
    (ds_cons (ds_for (di_seq (de_var 2 rfl (fun _ => .inl rfl))) (dg_name 5 rfl (fun _ => .inr rfl)) (ds_one (ds_extend 4 rfl (fun _ => .inl rfl) (DO.de (do_lc (own := [("at", 6)]) (di_range1 (fun _ => rfl) M.b_range (da_cons (de_len (fun _ => rfl) M.b_len (de_var 5 rfl (fun _ => .inr (.inl rfl)))) da_nil)) (fun _ => (show BlkOk N_below_in (defScope s_below_in) _ [("at", 6)] from ⟨rfl, by decide +kernel, by decide +kernel, by decide +kernel, by decide +kernel⟩)) (dg_name 6 rfl (fun _ => .inl rfl)) dts_nil (de_add (de_slice (de_var 5 rfl (by intro _; first | exact .inr (.inl rfl) | exact .inr (.inr rfl))) dp_none (dp_some (de_var 6 rfl (fun _ => .inl rfl)))) (de_slice (de_var 5 rfl (by intro _; first | exact .inr (.inl rfl) | exact .inr (.inr rfl))) (dp_some (de_add (de_var 6 rfl (fun _ => .inl rfl)) de_int)) dp_none)))))))
    (ds_one (ds_set 2 rfl (fun _ => .inl rfl) (de_callC c_by_words (show (4 : Nat) ≤ 4 by decide) runD_len (fun _ => rfl) (da_cons (de_var 4 rfl (fun _ => .inl rfl)) da_nil)))))))
    (ds_one (ds_ret (de_var 2 rfl (fun _ => .inl rfl))))))
abbrev s_above_in : Stmt := topS 21
abbrev N_above_in : List Str := ["word", "signs", "many", "found", "turn", "later", "one", "at", "sign"]
theorem sc_above_in : FnScope N_above_in ["word", "signs", "many"] (defScope s_above_in) := ⟨rfl, rfl, rfl, by decide +kernel, rfl, by decide +kernel, by decide +kernel⟩
def m_above_in : DenS := (sSeq (sSet 3 (dC mkLst (dCons (dV 0) dNil)))
    (sSeq (sFor (dLL range1L (dCons (dV 2) dNil)) (gN 4) (sSeq (sSetO 5 (dC mkLst dNil))
    (sSeq (sFor (dL seqD (dV 3)) (gN 6) (sFor (dLL range1L (dCons (dAdd (dC lenD (dCons (dV 6) dNil)) (d0 (.int 1))) dNil)) (gN 7) (sExt 5 (dLc (dL seqD (dV 1)) (gN 8) tYesD (dAdd (dAdd (dSl (dV 6) pNone (pSome (dV 7))) (dV 8)) (dSl (dV 6) (pSome (dV 7)) pNone)) [8]))))
    (sSet 3 (dC (runD 2 1 m_by_words) (dCons (dV 5) dNil))))))
    (sRet (dV 3))))
theorem cal_above_in {P : Program} {w : World} {K : PySem.W.Frag} {mg : Str → Option Value} {base : Heap} (M : Gm mg) (D : Def K mg "above_in" s_above_in ["word", "signs", "many"]) (c_by_words : Cal P w K mg base "by_words" 4 ["words"] (spD K 1 (runD 2 1 m_by_words))) : Cal P w K mg base "above_in" 5 ["word", "signs", "many"] (spD K 3 (runD 9 3 m_above_in)) :=
  cal_D D sc_above_in fun f cdv A outer s H E pn hr =>
    (ds_cons (ds_set 3 rfl (fun _ => .inl rfl) (DO.de (do_lst (da_cons (de_var 0 rfl (fun _ => .inl rfl)) da_nil))))
    (ds_cons (ds_for (di_range1 (fun _ => rfl) M.b_range (da_cons (de_var 2 rfl (fun _ => .inl rfl)) da_nil)) (dg_name 4 rfl (fun _ => .inl rfl)) (ds_cons (ds_setO 5 rfl (fun _ => .inl rfl) (do_lst da_nil))
    (ds_cons (ds_for (di_seq (de_var 3 rfl (fun _ => .inl rfl))) (dg_name 6 rfl (fun _ => .inr rfl)) (ds_one (ds_for (di_range1 (fun _ => rfl) M.b_range (da_cons (de_add (de_len (fun _ => rfl) M.b_len (de_var 6 rfl (fun _ => .inr (.inl rfl)))) de_int) da_nil)) (dg_name 7 rfl (fun _ => .inr rfl)) (ds_one (ds_extend 5 rfl (fun _ => .inl rfl) (DO.de (do_lc (own := [("sign", 8)]) (di_seq (de_var 1 rfl (fun _ => .inl rfl))) (fun _ => (show BlkOk N_above_in (defScope s_above_in) _ [("sign", 8)] from ⟨rfl, by decide +kernel, by decide +kernel, by decide +kernel, by decide +kernel⟩)) (dg_name 8 rfl (fun _ => .inl rfl)) dts_nil (de_add (de_add (de_slice (de_var 6 rfl (by intro _; first | exact .inr (.inl rfl) | exact .inr (.inr rfl))) dp_none (dp_some (de_var 7 rfl (by intro _; first | exact .inr (.inl rfl) | exact .inr (.inr rfl))))) (de_var 8 rfl (fun _ => .inl rfl))) (de_slice (de_var 6 rfl (by intro _; first | exact .inr (.inl rfl) | exact .inr (.inr rfl))) (dp_some (de_var 7 rfl (by intro _; first | exact .inr (.inl rfl) | exact .inr (.inr rfl)))) dp_none)))))))))
    (ds_one (ds_set 3 rfl (fun _ => .inl rfl) (de_callC c_by_words (show (4 : Nat) ≤ 4 by decide) runD_len (fun _ => rfl) (da_cons (de_var 5 rfl (fun _ => .inl rfl)) da_nil)))))))
    (ds_one (ds_ret (de_var 3 rfl (fun _ => .inl rfl))))))
abbrev s_choose_in : Stmt := topS 22
abbrev N_choose_in : List Str := ["total", "many", "found", "at"]
theorem sc_choose_in : FnScope N_choose_in ["total", "many"] (defScope s_choose_in) := ⟨rfl, rfl, rfl, by decide +kernel, rfl, by decide +kernel, by decide +kernel⟩
def m_choose_in : DenS := (sSeq (sSet 2 (d0 (.int 1)))
    (sSeq (sFor (dLL range1L (dCons (dV 1) dNil)) (gN 3) (sSet 2 (d2 divW (dMul (dV 2) (d2 subI (dV 0) (dV 3))) (dAdd (dV 3) (d0 (.int 1))))))
    (sRet (dV 2))))
theorem cal_choose_in {P : Program} {w : World} {K : PySem.W.Frag} {mg : Str → Option Value} {base : Heap} (M : Gm mg) (D : Def K mg "choose_in" s_choose_in ["total", "many"])  : Cal P w K mg base "choose_in" 1 ["total", "many"] (spD K 2 (runD 4 2 m_choose_in)) :=
  cal_D D sc_choose_in fun f cdv A outer s H E pn hr =>
    (ds_cons (ds_set 2 rfl (fun _ => .inl rfl) de_int)
    (ds_cons (ds_for (di_range1 (fun _ => rfl) M.b_range (da_cons (de_var 1 rfl (fun _ => .inl rfl)) da_nil)) (dg_name 3 rfl (fun _ => .inl rfl)) (ds_one (ds_set 2 rfl (fun _ => .inl rfl) (de_divW (de_mul (de_var 2 rfl (fun _ => .inl rfl)) (de_sub (de_var 0 rfl (fun _ => .inl rfl)) (de_var 3 rfl (fun _ => .inl rfl)))) (de_add (de_var 3 rfl (fun _ => .inl rfl)) de_int)))))
    (ds_one (ds_ret (de_var 2 rfl (fun _ => .inl rfl))))))
abbrev s_shared_word : Stmt := topS 23
abbrev N_shared_word : List Str := ["one", "other", "rows", "sign", "row", "at", "far", "best"]
theorem sc_shared_word : FnScope N_shared_word ["one", "other"] (defScope s_shared_word) := ⟨rfl, rfl, rfl, by decide +kernel, rfl, by decide +kernel, by decide +kernel⟩
def m_shared_word : DenS := (sSeq (sSetO 2 (dC mkLst (dCons (dMul (dC mkLst (dCons (d0 (.str [])) dNil)) (dAdd (dC lenD (dCons (dV 1) dNil)) (d0 (.int 1)))) dNil)))
    (sSeq (sFor (dL seqD (dV 0)) (gN 3) (sSeq (sSetO 4 (dC mkLst (dCons (d0 (.str [])) dNil)))
    (sSeq (sFor (dLL enumSD (dCons (dV 1) dNil)) (gT (gsCons (gN 5) (gsCons (gN 6) gsNil))) (sSeq (sSet 7 (dIf (dBl (d2 eqD (dV 3) (dV 6))) (dAdd (d2 ixD (dAtN 2 (d1 negI (d0 (.int 1)))) (dV 5)) (dV 3)) (dC maxLen (dCons (d2 ixD (dAtN 2 (d1 negI (d0 (.int 1)))) (dAdd (dV 5) (d0 (.int 1)))) (dCons (dAtN 4 (dV 5)) dNil)))))
    (sApp 4 (dV 7))))
    (sApp 2 (dV 4)))))
    (sRet (d2 ixD (dAtN 2 (d1 negI (d0 (.int 1)))) (d1 negI (d0 (.int 1)))))))
theorem cal_shared_word {P : Program} {w : World} {K : PySem.W.Frag} {mg : Str → Option Value} {base : Heap} (M : Gm mg) (D : Def K mg "shared_word" s_shared_word ["one", "other"])  : Cal P w K mg base "shared_word" 1 ["one", "other"] (spD K 2 (runD 8 2 m_shared_word)) :=
  cal_D D sc_shared_word fun f cdv A outer s H E pn hr =>
    (ds_cons (ds_setO 2 rfl (fun _ => .inl rfl) (do_lst (da_cons (de_mul (DO.de (do_lst (da_cons (de_strL []) da_nil))) (de_add (de_len (fun _ => rfl) M.b_len (de_var 1 rfl (fun _ => .inl rfl))) de_int)) da_nil)))
    (ds_cons (ds_for (di_seq (de_var 0 rfl (fun _ => .inl rfl))) (dg_name 3 rfl (fun _ => .inl rfl)) (ds_cons (ds_setO 4 rfl (fun _ => .inl rfl) (do_lst (da_cons (de_strL []) da_nil)))
    (ds_cons (ds_for (di_enumS (fun _ => rfl) M.b_enumerate (da_cons (de_var 1 rfl (fun _ => .inl rfl)) da_nil)) (dg_tup (dgs_cons (dg_name 5 rfl (fun _ => .inl rfl)) (dgs_cons (dg_name 6 rfl (fun _ => .inl rfl)) dgs_nil)) gs2) (ds_cons (ds_set 7 rfl (fun _ => .inl rfl) (de_ifExp (dt_eq (de_var 3 rfl (fun _ => .inl rfl)) (de_var 6 rfl (fun _ => .inl rfl))) (de_add (de_at (de_atN 2 rfl (fun _ => .inl rfl) (de_neg de_int)) (de_var 5 rfl (fun _ => .inl rfl))) (de_var 3 rfl (fun _ => .inl rfl))) (de_maxLen (fun _ => rfl) M.b_max (fun _ => rfl) M.b_len (da_cons (de_at (de_atN 2 rfl (fun _ => .inl rfl) (de_neg de_int)) (de_add (de_var 5 rfl (fun _ => .inl rfl)) de_int)) (da_cons (de_atN 4 rfl (fun _ => .inl rfl) (de_var 5 rfl (fun _ => .inl rfl))) da_nil)))))
    (ds_one (ds_append 4 rfl (fun _ => .inl rfl) (de_var 7 rfl (fun _ => .inl rfl))))))
    (ds_one (ds_append 2 rfl (fun _ => .inl rfl) (de_var 4 rfl (fun _ => .inl rfl)))))))
    (ds_one (ds_ret (de_at (de_atN 2 rfl (fun _ => .inl rfl) (de_neg de_int)) (de_neg de_int))))))
abbrev s_runs_in : Stmt := topS 24
abbrev N_runs_in : List Str := ["word", "at", "sign"]
theorem sc_runs_in : FnScope N_runs_in ["word"] (defScope s_runs_in) := ⟨rfl, rfl, rfl, by decide +kernel, rfl, by decide +kernel, by decide +kernel⟩
def m_runs_in : DenS := (sRet (dC sumB (dCons (dLc (dLL enumSD (dCons (dV 0) dNil)) (gT (gsCons (gN 1) (gsCons (gN 2) gsNil))) tYesD (dOrV (d2 eqD (dV 1) (d0 (.int 0))) (d2 neD (dAtN 0 (d2 subI (dV 1) (d0 (.int 1)))) (dV 2))) [1, 2]) dNil)))
theorem cal_runs_in {P : Program} {w : World} {K : PySem.W.Frag} {mg : Str → Option Value} {base : Heap} (M : Gm mg) (D : Def K mg "runs_in" s_runs_in ["word"])  : Cal P w K mg base "runs_in" 1 ["word"] (spD K 1 (runD 3 1 m_runs_in)) :=
  cal_D D sc_runs_in fun f cdv A outer s H E pn hr =>
    (ds_one (ds_ret (de_sumB (fun _ => rfl) M.b_sum (DO.de (do_lc (own := [("at", 1), ("sign", 2)]) (di_enumS (fun _ => rfl) M.b_enumerate (da_cons (de_var 0 rfl (fun _ => .inr (.inl rfl))) da_nil)) (fun _ => (show BlkOk N_runs_in (defScope s_runs_in) _ [("at", 1), ("sign", 2)] from ⟨rfl, by decide +kernel, by decide +kernel, by decide +kernel, by decide +kernel⟩)) (dg_tup (dgs_cons (dg_name 1 rfl (fun _ => .inl rfl)) (dgs_cons (dg_name 2 rfl (fun _ => .inl rfl)) dgs_nil)) gs2) dts_nil (de_or (de_eq (de_var 1 rfl (fun _ => .inl rfl)) de_int) (de_one (de_ne (de_atN 0 rfl (by intro _; first | exact .inr (.inl rfl) | exact .inr (.inr rfl)) (de_sub (de_var 1 rfl (fun _ => .inl rfl)) de_int)) (de_var 2 rfl (fun _ => .inl rfl))))))))))
abbrev s_require_short : Stmt := topS 25
abbrev N_require_short : List Str := ["value"]
theorem sc_require_short : FnScope N_require_short ["value"] (defScope s_require_short) := ⟨rfl, rfl, rfl, by decide +kernel, rfl, by decide +kernel, by decide +kernel⟩
def m_require_short : DenS := (sIf (dOrT (dNotT (dBl (dC (runD 2 1 m_is_word) (dCons (dV 0) dNil)))) (dBl (d2 gtD (dC lenD (dCons (dV 0) dNil)) (d0 (.int 8))))) sBad sNil)
theorem cal_require_short {P : Program} {w : World} {K : PySem.W.Frag} {mg : Str → Option Value} {base : Heap} (M : Gm mg) (D : Def K mg "require_short" s_require_short ["value"]) (c_is_word : Cal P w K mg base "is_word" 1 ["value"] (spD K 1 (runD 2 1 m_is_word))) : Cal P w K mg base "require_short" 2 ["value"] (spD K 1 (runD 1 1 m_require_short)) :=
  cal_D D sc_require_short fun f cdv A outer s H E pn hr =>
    (ds_one (ds_if (DW.dt (dw_or (dt_not (dt_val (de_callC c_is_word (show (1 : Nat) ≤ 1 by decide) runD_len (fun _ => rfl) (da_cons (de_var 0 rfl (fun _ => .inl rfl)) da_nil)))) (dw_or1 (dt_gt (de_len (fun _ => rfl) M.b_len (de_var 0 rfl (fun _ => .inl rfl))) (de_gintE (fun _ => rfl) M.g_MOST_LENGTH))))) (ds_one ds_never) ds_nil))
abbrev s_outs_of : Stmt := topS 26
abbrev N_outs_of : List Str := ["word", "many"]
theorem sc_outs_of : FnScope N_outs_of ["word", "many"] (defScope s_outs_of) := ⟨rfl, rfl, rfl, by decide +kernel, rfl, by decide +kernel, by decide +kernel⟩
def m_outs_of : DenS := (sSeq (sDrop (dC (runD 1 1 m_require_short) (dCons (dV 0) dNil)))
    (sSeq (sDrop (dC (runD 3 3 m_require_number) (dCons (dV 1) (dCons (d0 (.int 0)) (dCons (d0 (.int 3)) dNil)))))
    (sRet (dC tupleD (dCons (dC (runD 7 2 m_below_in) (dCons (dV 0) (dCons (dV 1) dNil))) dNil)))))
theorem cal_outs_of {P : Program} {w : World} {K : PySem.W.Frag} {mg : Str → Option Value} {base : Heap} (M : Gm mg) (D : Def K mg "outs_of" s_outs_of ["word", "many"]) (c_require_number : Cal P w K mg base "require_number" 2 ["value", "low", "high"] (spD K 3 (runD 3 3 m_require_number))) (c_below_in : Cal P w K mg base "below_in" 5 ["word", "many"] (spD K 2 (runD 7 2 m_below_in))) (c_require_short : Cal P w K mg base "require_short" 2 ["value"] (spD K 1 (runD 1 1 m_require_short))) : Cal P w K mg base "outs_of" 6 ["word", "many"] (spD K 2 (runD 2 2 m_outs_of)) :=
  cal_D D sc_outs_of fun f cdv A outer s H E pn hr =>
    (ds_cons (ds_expr (de_callC c_require_short (show (2 : Nat) ≤ 5 by decide) runD_len (fun _ => rfl) (da_cons (de_var 0 rfl (fun _ => .inl rfl)) da_nil)))
    (ds_cons (ds_expr (de_callC c_require_number (show (2 : Nat) ≤ 5 by decide) runD_len (fun _ => rfl) (da_cons (de_var 1 rfl (fun _ => .inl rfl)) (da_cons de_int (da_cons (de_gintE (fun _ => rfl) M.g_MOST_MANY) da_nil)))))
    (ds_one (ds_ret (de_tupleOf (fun _ => rfl) M.b_tuple (de_callC c_below_in (show (5 : Nat) ≤ 5 by decide) runD_len (fun _ => rfl) (da_cons (de_var 0 rfl (fun _ => .inl rfl)) (da_cons (de_var 1 rfl (fun _ => .inl rfl)) da_nil))))))))
abbrev s_puts_of : Stmt := topS 27
abbrev N_puts_of : List Str := ["word", "signs", "many"]
theorem sc_puts_of : FnScope N_puts_of ["word", "signs", "many"] (defScope s_puts_of) := ⟨rfl, rfl, rfl, by decide +kernel, rfl, by decide +kernel, by decide +kernel⟩
def m_puts_of : DenS := (sSeq (sDrop (dC (runD 1 1 m_require_short) (dCons (dV 0) dNil)))
    (sSeq (sDrop (dC (runD 1 1 m_require_signs) (dCons (dV 1) dNil)))
    (sSeq (sDrop (dC (runD 3 3 m_require_number) (dCons (dV 2) (dCons (d0 (.int 0)) (dCons (d0 (.int 3)) dNil)))))
    (sRet (dC tupleD (dCons (dC (runD 9 3 m_above_in) (dCons (dV 0) (dCons (dV 1) (dCons (dV 2) dNil)))) dNil))))))
theorem cal_puts_of {P : Program} {w : World} {K : PySem.W.Frag} {mg : Str → Option Value} {base : Heap} (M : Gm mg) (D : Def K mg "puts_of" s_puts_of ["word", "signs", "many"]) (c_require_signs : Cal P w K mg base "require_signs" 3 ["value"] (spD K 1 (runD 1 1 m_require_signs))) (c_require_number : Cal P w K mg base "require_number" 2 ["value", "low", "high"] (spD K 3 (runD 3 3 m_require_number))) (c_above_in : Cal P w K mg base "above_in" 5 ["word", "signs", "many"] (spD K 3 (runD 9 3 m_above_in))) (c_require_short : Cal P w K mg base "require_short" 2 ["value"] (spD K 1 (runD 1 1 m_require_short))) : Cal P w K mg base "puts_of" 6 ["word", "signs", "many"] (spD K 3 (runD 3 3 m_puts_of)) :=
  cal_D D sc_puts_of fun f cdv A outer s H E pn hr =>
    (ds_cons (ds_expr (de_callC c_require_short (show (2 : Nat) ≤ 5 by decide) runD_len (fun _ => rfl) (da_cons (de_var 0 rfl (fun _ => .inl rfl)) da_nil)))
    (ds_cons (ds_expr (de_callC c_require_signs (show (3 : Nat) ≤ 5 by decide) runD_len (fun _ => rfl) (da_cons (de_var 1 rfl (fun _ => .inl rfl)) da_nil)))
    (ds_cons (ds_expr (de_callC c_require_number (show (2 : Nat) ≤ 5 by decide) runD_len (fun _ => rfl) (da_cons (de_var 2 rfl (fun _ => .inl rfl)) (da_cons de_int (da_cons (de_gintE (fun _ => rfl) M.g_MOST_MANY) da_nil)))))
    (ds_one (ds_ret (de_tupleOf (fun _ => rfl) M.b_tuple (de_callC c_above_in (show (5 : Nat) ≤ 5 by decide) runD_len (fun _ => rfl) (da_cons (de_var 0 rfl (fun _ => .inl rfl)) (da_cons (de_var 1 rfl (fun _ => .inl rfl)) (da_cons (de_var 2 rfl (fun _ => .inl rfl)) da_nil))))))))))
abbrev s_count_puts : Stmt := topS 28
abbrev N_count_puts : List Str := ["length", "size", "many", "found", "power", "at"]
theorem sc_count_puts : FnScope N_count_puts ["length", "size", "many"] (defScope s_count_puts) := ⟨rfl, rfl, rfl, by decide +kernel, rfl, by decide +kernel, by decide +kernel⟩
def m_count_puts : DenS := (sSeq (sDrop (dC (runD 3 3 m_require_number) (dCons (dV 0) (dCons (d0 (.int 0)) (dCons (d0 (.int 60)) dNil)))))
    (sSeq (sDrop (dC (runD 3 3 m_require_number) (dCons (dV 1) (dCons (d0 (.int 1)) (dCons (d0 (.int 5)) dNil)))))
    (sSeq (sDrop (dC (runD 3 3 m_require_number) (dCons (dV 2) (dCons (d0 (.int 0)) (dCons (d0 (.int 60)) dNil)))))
    (sSeq (sTgt (dC mkTup (dCons (d0 (.int 0)) (dCons (d0 (.int 1)) dNil))) (gT (gsCons (gN 3) (gsCons (gN 4) gsNil))))
    (sSeq (sFor (dLL range1L (dCons (dAdd (dV 2) (d0 (.int 1))) dNil)) (gN 5) (sSeq (sAug 3 addI (dMul (dC (runD 4 2 m_choose_in) (dCons (dAdd (dV 0) (dV 2)) (dCons (dV 5) dNil))) (dV 4)))
    (sSet 4 (dMul (dV 4) (d2 subI (dV 1) (d0 (.int 1)))))))
    (sRet (dV 3)))))))
theorem cal_count_puts {P : Program} {w : World} {K : PySem.W.Frag} {mg : Str → Option Value} {base : Heap} (M : Gm mg) (D : Def K mg "count_puts" s_count_puts ["length", "size", "many"]) (c_require_number : Cal P w K mg base "require_number" 2 ["value", "low", "high"] (spD K 3 (runD 3 3 m_require_number))) (c_choose_in : Cal P w K mg base "choose_in" 1 ["total", "many"] (spD K 2 (runD 4 2 m_choose_in))) : Cal P w K mg base "count_puts" 3 ["length", "size", "many"] (spD K 3 (runD 6 3 m_count_puts)) :=
  cal_D D sc_count_puts fun f cdv A outer s H E pn hr =>
    (ds_cons (ds_expr (de_callC c_require_number (show (2 : Nat) ≤ 2 by decide) runD_len (fun _ => rfl) (da_cons (de_var 0 rfl (fun _ => .inl rfl)) (da_cons de_int (da_cons (de_gintE (fun _ => rfl) M.g_MOST_COUNTED) da_nil)))))
    (ds_cons (ds_expr (de_callC c_require_number (show (2 : Nat) ≤ 2 by decide) runD_len (fun _ => rfl) (da_cons (de_var 1 rfl (fun _ => .inl rfl)) (da_cons de_int (da_cons (de_gintE (fun _ => rfl) M.g_MOST_SIGNS) da_nil)))))
    (ds_cons (ds_expr (de_callC c_require_number (show (2 : Nat) ≤ 2 by decide) runD_len (fun _ => rfl) (da_cons (de_var 2 rfl (fun _ => .inl rfl)) (da_cons de_int (da_cons (de_gintE (fun _ => rfl) M.g_MOST_COUNTED) da_nil)))))
    (ds_cons (ds_tgt (de_tup (da_cons de_int (da_cons de_int da_nil))) (dg_tup (dgs_cons (dg_name 3 rfl (fun _ => .inl rfl)) (dgs_cons (dg_name 4 rfl (fun _ => .inl rfl)) dgs_nil)) gs2))
    (ds_cons (ds_for (di_range1 (fun _ => rfl) M.b_range (da_cons (de_add (de_var 2 rfl (fun _ => .inl rfl)) de_int) da_nil)) (dg_name 5 rfl (fun _ => .inl rfl)) (ds_cons (ds_iadd 3 rfl (fun _ => .inl rfl) (de_mul (de_callC c_choose_in (show (1 : Nat) ≤ 2 by decide) runD_len (fun _ => rfl) (da_cons (de_add (de_var 0 rfl (fun _ => .inl rfl)) (de_var 2 rfl (fun _ => .inl rfl))) (da_cons (de_var 5 rfl (fun _ => .inl rfl)) da_nil))) (de_var 4 rfl (fun _ => .inl rfl))))
    (ds_one (ds_set 4 rfl (fun _ => .inl rfl) (de_mul (de_var 4 rfl (fun _ => .inl rfl)) (de_sub (de_var 1 rfl (fun _ => .inl rfl)) de_int))))))
    (ds_one (ds_ret (de_var 3 rfl (fun _ => .inl rfl)))))))))
abbrev s_runs_of : Stmt := topS 29
abbrev N_runs_of : List Str := ["word"]
theorem sc_runs_of : FnScope N_runs_of ["word"] (defScope s_runs_of) := ⟨rfl, rfl, rfl, by decide +kernel, rfl, by decide +kernel, by decide +kernel⟩
def m_runs_of : DenS := (sSeq (sDrop (dC (runD 1 1 m_require_short) (dCons (dV 0) dNil)))
    (sRet (dC (runD 3 1 m_runs_in) (dCons (dV 0) dNil))))
theorem cal_runs_of {P : Program} {w : World} {K : PySem.W.Frag} {mg : Str → Option Value} {base : Heap} (M : Gm mg) (D : Def K mg "runs_of" s_runs_of ["word"]) (c_runs_in : Cal P w K mg base "runs_in" 1 ["word"] (spD K 1 (runD 3 1 m_runs_in))) (c_require_short : Cal P w K mg base "require_short" 2 ["value"] (spD K 1 (runD 1 1 m_require_short))) : Cal P w K mg base "runs_of" 3 ["word"] (spD K 1 (runD 1 1 m_runs_of)) :=
  cal_D D sc_runs_of fun f cdv A outer s H E pn hr =>
    (ds_cons (ds_expr (de_callC c_require_short (show (2 : Nat) ≤ 2 by decide) runD_len (fun _ => rfl) (da_cons (de_var 0 rfl (fun _ => .inl rfl)) da_nil)))
    (ds_one (ds_ret (de_callC c_runs_in (show (1 : Nat) ≤ 2 by decide) runD_len (fun _ => rfl) (da_cons (de_var 0 rfl (fun _ => .inl rfl)) da_nil)))))
abbrev s_shared_part : Stmt := topS 30
abbrev N_shared_part : List Str := ["one", "other"]
theorem sc_shared_part : FnScope N_shared_part ["one", "other"] (defScope s_shared_part) := ⟨rfl, rfl, rfl, by decide +kernel, rfl, by decide +kernel, by decide +kernel⟩
def m_shared_part : DenS := (sSeq (sDrop (dC (runD 1 1 m_require_short) (dCons (dV 0) dNil)))
    (sSeq (sDrop (dC (runD 1 1 m_require_short) (dCons (dV 1) dNil)))
    (sRet (dC lenD (dCons (dC (runD 8 2 m_shared_word) (dCons (dV 0) (dCons (dV 1) dNil))) dNil)))))
theorem cal_shared_part {P : Program} {w : World} {K : PySem.W.Frag} {mg : Str → Option Value} {base : Heap} (M : Gm mg) (D : Def K mg "shared_part" s_shared_part ["one", "other"]) (c_shared_word : Cal P w K mg base "shared_word" 1 ["one", "other"] (spD K 2 (runD 8 2 m_shared_word))) (c_require_short : Cal P w K mg base "require_short" 2 ["value"] (spD K 1 (runD 1 1 m_require_short))) : Cal P w K mg base "shared_part" 3 ["one", "other"] (spD K 2 (runD 2 2 m_shared_part)) :=
  cal_D D sc_shared_part fun f cdv A outer s H E pn hr =>
    (ds_cons (ds_expr (de_callC c_require_short (show (2 : Nat) ≤ 2 by decide) runD_len (fun _ => rfl) (da_cons (de_var 0 rfl (fun _ => .inl rfl)) da_nil)))
    (ds_cons (ds_expr (de_callC c_require_short (show (2 : Nat) ≤ 2 by decide) runD_len (fun _ => rfl) (da_cons (de_var 1 rfl (fun _ => .inl rfl)) da_nil)))
    (ds_one (ds_ret (de_len (fun _ => rfl) M.b_len (de_callC c_shared_word (show (1 : Nat) ≤ 2 by decide) runD_len (fun _ => rfl) (da_cons (de_var 0 rfl (fun _ => .inl rfl)) (da_cons (de_var 1 rfl (fun _ => .inl rfl)) da_nil))))))))
abbrev s__law_sack : Stmt := topS 32
abbrev N__law_sack : List Str := ["script", "spot", "cell", "great", "mixed"]
theorem sc__law_sack : FnScope N__law_sack ["script", "spot"] (defScope s__law_sack) := ⟨rfl, rfl, rfl, by decide +kernel, rfl, by decide +kernel, by decide +kernel⟩
def m__law_sack : DenS := (sSeq (sSet 2 (dIf (dBl (d2 ltD (dV 1) (dC lenD (dCons (dV 0) dNil)))) (dC intD (dCons (dAtN 0 (dV 1)) dNil)) (dAdd (dMul (d0 (.int 389)) (dV 1)) (d0 (.int 23)))))
    (sSeq (sSet 3 (d2 modI (dC intD (dCons (dC absD (dCons (dV 2) dNil)) dNil)) (d2 powI (d2 powI (d0 (.int 10)) (d0 (.int 53))) (d0 (.int 6)))))
    (sSeq (sSet 4 (dAdd (dAdd (dAdd (dMul (d2 modI (dV 3) (d0 (.int 2305843009213693951))) (d0 (.int 97))) (dMul (d0 (.int 613)) (dV 1))) (dMul (d0 (.int 41)) (dC intD (dCons (d2 ltD (dV 2) (d0 (.int 0))) dNil)))) (d0 (.int 67))))
    (sRetO (dC mkLst (dCons (dC max2D (dCons (d0 (.int 0)) (dCons (d2 subI (dV 3) (d2 powI (d0 (.int 10)) (d0 (.int 15)))) dNil))) (dCons (dV 4) (dCons (d0 (.int 0)) dNil))))))))
theorem cal__law_sack {P : Program} {w : World} {K : PySem.W.Frag} {mg : Str → Option Value} {base : Heap} (M : Gm mg) (D : Def K mg "_law_sack" s__law_sack ["script", "spot"])  : Cal P w K mg base "_law_sack" 1 ["script", "spot"] (spN K 2 (runN 5 2 m__law_sack)) :=
  cal_N D sc__law_sack fun f cdv A outer s H E pn hr =>
    (ds_cons (ds_set 2 rfl (fun _ => .inl rfl) (de_ifExp (dt_lt (de_var 1 rfl (fun _ => .inl rfl)) (de_len (fun _ => rfl) M.b_len (de_var 0 rfl (fun _ => .inl rfl)))) (de_intOf (fun _ => rfl) M.b_int (de_atN 0 rfl (fun _ => .inl rfl) (de_var 1 rfl (fun _ => .inl rfl)))) (de_add (de_mul de_int (de_var 1 rfl (fun _ => .inl rfl))) de_int)))
    (ds_cons (ds_set 3 rfl (fun _ => .inl rfl) (de_mod (de_intOf (fun _ => rfl) M.b_int (de_abs (fun _ => rfl) M.b_abs (de_var 2 rfl (fun _ => .inl rfl)))) (de_pow (de_pow de_int de_int) de_int)))
    (ds_cons (ds_set 4 rfl (fun _ => .inl rfl) (de_add (de_add (de_add (de_mul (de_mod (de_var 3 rfl (fun _ => .inl rfl)) de_int) de_int) (de_mul de_int (de_var 1 rfl (fun _ => .inl rfl)))) (de_mul de_int (de_intOf (fun _ => rfl) M.b_int (de_lt (de_var 2 rfl (fun _ => .inl rfl)) de_int)))) de_int))
    (ds_one (ds_retO (do_lst (da_cons (de_max2 (fun _ => rfl) M.b_max (da_cons de_int (da_cons (de_sub (de_var 3 rfl (fun _ => .inl rfl)) (de_pow de_int de_int)) da_nil))) (da_cons (de_var 4 rfl (fun _ => .inl rfl)) (da_cons de_int da_nil)))))))))
abbrev s__law_dip : Stmt := topS 33
abbrev N__law_dip : List Str := ["sack", "total", "found", "one", "two"]
theorem sc__law_dip : FnScope N__law_dip ["sack", "total"] (defScope s__law_dip) := ⟨rfl, rfl, rfl, by decide +kernel, rfl, by decide +kernel, by decide +kernel⟩
def m__law_dip : DenS := (sSeq (sIf (dBl (d2 gtD (dAtN 0 (d0 (.int 0))) (d0 (.int 0)))) (sSeq (sSet 2 (d2 modI (dC intD (dCons (dAtN 0 (d0 (.int 0))) dNil)) (dV 1)))
    (sSeq (sSetAt 0 (d2 divW (dAtN 0 (d0 (.int 0))) (dV 1)) (d0 (.int 0)))
    (sRet (dV 2)))) sNil)
    (sSeq (sSetAt 0 (dAdd (dAtN 0 (d0 (.int 2))) (d0 (.int 1))) (d0 (.int 2)))
    (sSeq (sSet 3 (d2 modI (dC intD (dCons (dAdd (dAtN 0 (d0 (.int 1))) (dMul (d0 (.int 10000121)) (dAtN 0 (d0 (.int 2))))) dNil)) (d0 (.int 2305843009213693951))))
    (sSeq (sSet 4 (dAdd (dMul (d2 modI (dC intD (dCons (dAdd (dMul (dV 3) (dV 3)) (dMul (d0 (.int 587)) (dAtN 0 (d0 (.int 2))))) dNil)) (d0 (.int 2305843009213693951))) (d0 (.int 8589934609))) (dV 3)))
    (sRet (d2 modI (dC intD (dCons (d2 divW (dV 4) (d0 (.int 131072))) dNil)) (dV 1)))))))
theorem cal__law_dip {P : Program} {w : World} {K : PySem.W.Frag} {mg : Str → Option Value} {base : Heap} (M : Gm mg) (D : Def K mg "_law_dip" s__law_dip ["sack", "total"])  : Cal P w K mg base "_law_dip" 1 ["sack", "total"] (spIO K 1 (runIO 5 1 m__law_dip)) :=
  cal_IO D sc__law_dip fun f cdv A outer s H E pn hr =>
    (ds_cons (ds_if (dt_gt (de_atN 0 rfl (fun _ => .inl rfl) de_int) de_int) (ds_cons (ds_set 2 rfl (fun _ => .inl rfl) (de_mod (de_intOf (fun _ => rfl) M.b_int (de_atN 0 rfl (fun _ => .inl rfl) de_int)) (de_var 1 rfl (fun _ => .inl rfl))))
    (ds_cons (ds_setAt 0 rfl (fun _ => .inl rfl) (de_divW (de_atN 0 rfl (fun _ => .inl rfl) de_int) (de_var 1 rfl (fun _ => .inl rfl))) de_int)
    (ds_one (ds_ret (de_var 2 rfl (fun _ => .inl rfl)))))) ds_nil)
    (ds_cons (ds_setAt 0 rfl (fun _ => .inl rfl) (de_add (de_atN 0 rfl (fun _ => .inl rfl) de_int) de_int) de_int)
    (ds_cons (ds_set 3 rfl (fun _ => .inl rfl) (de_mod (de_intOf (fun _ => rfl) M.b_int (de_add (de_atN 0 rfl (fun _ => .inl rfl) de_int) (de_mul de_int (de_atN 0 rfl (fun _ => .inl rfl) de_int)))) de_int))
    (ds_cons (ds_set 4 rfl (fun _ => .inl rfl) (de_add (de_mul (de_mod (de_intOf (fun _ => rfl) M.b_int (de_add (de_mul (de_var 3 rfl (fun _ => .inl rfl)) (de_var 3 rfl (fun _ => .inl rfl))) (de_mul de_int (de_atN 0 rfl (fun _ => .inl rfl) de_int)))) de_int) de_int) (de_var 3 rfl (fun _ => .inl rfl))))
    (ds_one (ds_ret (de_mod (de_intOf (fun _ => rfl) M.b_int (de_divW (de_var 4 rfl (fun _ => .inl rfl)) de_int)) (de_var 1 rfl (fun _ => .inl rfl)))))))))
abbrev s__law_one : Stmt := topS 34
abbrev N__law_one : List Str := ["sack", "items"]
theorem sc__law_one : FnScope N__law_one ["sack", "items"] (defScope s__law_one) := ⟨rfl, rfl, rfl, by decide +kernel, rfl, by decide +kernel, by decide +kernel⟩
def m__law_one : DenS := (sRet (dAtN 1 (dCio 0 (runIO 5 1 m__law_dip) (dCons (dC lenD (dCons (dV 1) dNil)) dNil))))
theorem cal__law_one {P : Program} {w : World} {K : PySem.W.Frag} {mg : Str → Option Value} {base : Heap} (M : Gm mg) (D : Def K mg "_law_one" s__law_one ["sack", "items"]) (c__law_dip : Cal P w K mg base "_law_dip" 1 ["sack", "total"] (spIO K 1 (runIO 5 1 m__law_dip))) : Cal P w K mg base "_law_one" 2 ["sack", "items"] (spIO K 1 (runIO 2 1 m__law_one)) :=
  cal_IO D sc__law_one fun f cdv A outer s H E pn hr =>
    (ds_one (ds_ret (de_atN 1 rfl (fun _ => .inl rfl) (de_callIOC 0 c__law_dip (show (1 : Nat) ≤ 1 by decide) runIO_len (fun _ => rfl) rfl (fun _ => .inl rfl) (da_cons (de_len (fun _ => rfl) M.b_len (de_var 1 rfl (fun _ => .inl rfl))) da_nil)))))
abbrev s__law_ordered : Stmt := topS 37
abbrev N__law_ordered : List Str := ["words", "size", "word"]
theorem sc__law_ordered : FnScope N__law_ordered ["words"] (defScope s__law_ordered) := ⟨rfl, rfl, rfl, by decide +kernel, rfl, by decide +kernel, by decide +kernel⟩
def m__law_ordered : DenS := (sRet (dLc (dL seqD (d1 sortSet (dLc (dL seqD (dV 0)) (gN 2) tYesD (dC mkTup (dCons (dC lenD (dCons (dV 2) dNil)) (dCons (dV 2) dNil))) [2]))) (gT (gsCons (gN 1) (gsCons (gN 2) gsNil))) tYesD (dV 2) [1, 2]))
theorem cal__law_ordered {P : Program} {w : World} {K : PySem.W.Frag} {mg : Str → Option Value} {base : Heap} (M : Gm mg) (D : Def K mg "_law_ordered" s__law_ordered ["words"])  : Cal P w K mg base "_law_ordered" 1 ["words"] (spD K 1 (runD 3 1 m__law_ordered)) :=
  cal_D D sc__law_ordered fun f cdv A outer s H E pn hr =>
    (ds_one (ds_ret (DO.de (do_lc (own := [("size", 1), ("word", 2)]) (di_seq (DO.de (do_sortSet (fun _ => rfl) M.b_sorted (fun _ => rfl) M.b_set (DO.de (do_lc (own := [("word", 2)]) (di_seq (de_var 0 rfl (fun _ => .inl rfl))) (fun _ => (show BlkOk N__law_ordered (defScope s__law_ordered) _ [("word", 2)] from ⟨rfl, by decide +kernel, by decide +kernel, by decide +kernel, by decide +kernel⟩)) (dg_name 2 rfl (fun _ => .inl rfl)) dts_nil (de_tup (da_cons (de_len (fun _ => rfl) M.b_len (de_var 2 rfl (fun _ => .inl rfl))) (da_cons (de_var 2 rfl (fun _ => .inl rfl)) da_nil)))))))) (fun _ => (show BlkOk N__law_ordered (defScope s__law_ordered) _ [("size", 1), ("word", 2)] from ⟨rfl, by decide +kernel, by decide +kernel, by decide +kernel, by decide +kernel⟩)) (dg_tup (dgs_cons (dg_name 1 rfl (fun _ => .inl rfl)) (dgs_cons (dg_name 2 rfl (fun _ => .inl rfl)) dgs_nil)) gs2) dts_nil (de_var 2 rfl (fun _ => .inl rfl))))))
abbrev s__law_outs : Stmt := topS 35
abbrev N__law_outs : List Str := ["words", "found", "word", "at"]
theorem sc__law_outs : FnScope N__law_outs ["words"] (defScope s__law_outs) := ⟨rfl, rfl, rfl, by decide +kernel, rfl, by decide +kernel, by decide +kernel⟩
def m__law_outs : DenS := (sSeq (sSet 1 (dC mkLst dNil))
    (sSeq (sFor (dL seqD (dV 0)) (gN 2) (sSet 1 (dAdd (dV 1) (dLc (dLL range1L (dCons (dC lenD (dCons (dV 2) dNil)) dNil)) (gN 3) tYesD (dAdd (dSl (dV 2) pNone (pSome (dV 3))) (dSl (dV 2) (pSome (dAdd (dV 3) (d0 (.int 1)))) pNone)) [3]))))
    (sRet (dC (runD 3 1 m__law_ordered) (dCons (dV 1) dNil)))))
theorem cal__law_outs {P : Program} {w : World} {K : PySem.W.Frag} {mg : Str → Option Value} {base : Heap} (M : Gm mg) (D : Def K mg "_law_outs" s__law_outs ["words"]) (c__law_ordered : Cal P w K mg base "_law_ordered" 1 ["words"] (spD K 1 (runD 3 1 m__law_ordered))) : Cal P w K mg base "_law_outs" 2 ["words"] (spD K 1 (runD 4 1 m__law_outs)) :=
  cal_D D sc__law_outs fun f cdv A outer s H E pn hr =>
    (ds_cons (ds_set 1 rfl (fun _ => .inl rfl) (DO.de (do_lst da_nil)))
    (ds_cons (ds_for (di_seq (de_var 0 rfl (fun _ => .inl rfl))) (dg_name 2 rfl (fun _ => .inr rfl)) (ds_one (ds_set 1 rfl (fun _ => .inl rfl) (de_add (de_var 1 rfl (fun _ => .inl rfl)) (DO.de (do_lc (own := [("at", 3)]) (di_range1 (fun _ => rfl) M.b_range (da_cons (de_len (fun _ => rfl) M.b_len (de_var 2 rfl (fun _ => .inr (.inl rfl)))) da_nil)) (fun _ => (show BlkOk N__law_outs (defScope s__law_outs) _ [("at", 3)] from ⟨rfl, by decide +kernel, by decide +kernel, by decide +kernel, by decide +kernel⟩)) (dg_name 3 rfl (fun _ => .inl rfl)) dts_nil (de_add (de_slice (de_var 2 rfl (by intro _; first | exact .inr (.inl rfl) | exact .inr (.inr rfl))) dp_none (dp_some (de_var 3 rfl (fun _ => .inl rfl)))) (de_slice (de_var 2 rfl (by intro _; first | exact .inr (.inl rfl) | exact .inr (.inr rfl))) (dp_some (de_add (de_var 3 rfl (fun _ => .inl rfl)) de_int)) dp_none))))))))
    (ds_one (ds_ret (de_callC c__law_ordered (show (1 : Nat) ≤ 1 by decide) runD_len (fun _ => rfl) (da_cons (de_var 1 rfl (fun _ => .inl rfl)) da_nil))))))
abbrev s__law_puts : Stmt := topS 36
abbrev N__law_puts : List Str := ["words", "signs", "found", "word", "sign", "at"]
theorem sc__law_puts : FnScope N__law_puts ["words", "signs"] (defScope s__law_puts) := ⟨rfl, rfl, rfl, by decide +kernel, rfl, by decide +kernel, by decide +kernel⟩
def m__law_puts : DenS := (sSeq (sSet 2 (dC mkLst dNil))
    (sSeq (sFor (dL seqD (dV 0)) (gN 3) (sFor (dL seqD (dV 1)) (gN 4) (sSet 2 (dAdd (dV 2) (dLc (dLL range1L (dCons (dAdd (dC lenD (dCons (dV 3) dNil)) (d0 (.int 1))) dNil)) (gN 5) tYesD (dAdd (dAdd (dSl (dV 3) pNone (pSome (dV 5))) (dV 4)) (dSl (dV 3) (pSome (dV 5)) pNone)) [5])))))
    (sRet (dC (runD 3 1 m__law_ordered) (dCons (dV 2) dNil)))))
theorem cal__law_puts {P : Program} {w : World} {K : PySem.W.Frag} {mg : Str → Option Value} {base : Heap} (M : Gm mg) (D : Def K mg "_law_puts" s__law_puts ["words", "signs"]) (c__law_ordered : Cal P w K mg base "_law_ordered" 1 ["words"] (spD K 1 (runD 3 1 m__law_ordered))) : Cal P w K mg base "_law_puts" 2 ["words", "signs"] (spD K 2 (runD 6 2 m__law_puts)) :=
  cal_D D sc__law_puts fun f cdv A outer s H E pn hr =>
    (ds_cons (ds_set 2 rfl (fun _ => .inl rfl) (DO.de (do_lst da_nil)))
    (ds_cons (ds_for (di_seq (de_var 0 rfl (fun _ => .inl rfl))) (dg_name 3 rfl (fun _ => .inr rfl)) (ds_one (ds_for (di_seq (de_var 1 rfl (fun _ => .inl rfl))) (dg_name 4 rfl (fun _ => .inr rfl)) (ds_one (ds_set 2 rfl (fun _ => .inl rfl) (de_add (de_var 2 rfl (fun _ => .inl rfl)) (DO.de (do_lc (own := [("at", 5)]) (di_range1 (fun _ => rfl) M.b_range (da_cons (de_add (de_len (fun _ => rfl) M.b_len (de_var 3 rfl (fun _ => .inr (.inl rfl)))) de_int) da_nil)) (fun _ => (show BlkOk N__law_puts (defScope s__law_puts) _ [("at", 5)] from ⟨rfl, by decide +kernel, by decide +kernel, by decide +kernel, by decide +kernel⟩)) (dg_name 5 rfl (fun _ => .inl rfl)) dts_nil (de_add (de_add (de_slice (de_var 3 rfl (by intro _; first | exact .inr (.inl rfl) | exact .inr (.inr rfl))) dp_none (dp_some (de_var 5 rfl (fun _ => .inl rfl)))) (de_var 4 rfl (by intro _; first | exact .inr (.inl rfl) | exact .inr (.inr rfl)))) (de_slice (de_var 3 rfl (by intro _; first | exact .inr (.inl rfl) | exact .inr (.inr rfl))) (dp_some (de_var 5 rfl (fun _ => .inl rfl))) dp_none))))))))))
    (ds_one (ds_ret (de_callC c__law_ordered (show (1 : Nat) ≤ 1 by decide) runD_len (fun _ => rfl) (da_cons (de_var 2 rfl (fun _ => .inl rfl)) da_nil))))))
abbrev s__law_choose : Stmt := topS 38
abbrev N__law_choose : List Str := ["top", "low", "found", "step"]
theorem sc__law_choose : FnScope N__law_choose ["top", "low"] (defScope s__law_choose) := ⟨rfl, rfl, rfl, by decide +kernel, rfl, by decide +kernel, by decide +kernel⟩
def m__law_choose : DenS := (sSeq (sSet 2 (d0 (.int 1)))
    (sSeq (sFor (dLL range1L (dCons (dV 1) dNil)) (gN 3) (sSet 2 (d2 divW (dMul (dV 2) (d2 subI (dV 0) (dV 3))) (dAdd (dV 3) (d0 (.int 1))))))
    (sRet (dV 2))))
theorem cal__law_choose {P : Program} {w : World} {K : PySem.W.Frag} {mg : Str → Option Value} {base : Heap} (M : Gm mg) (D : Def K mg "_law_choose" s__law_choose ["top", "low"])  : Cal P w K mg base "_law_choose" 1 ["top", "low"] (spD K 2 (runD 4 2 m__law_choose)) :=
  cal_D D sc__law_choose fun f cdv A outer s H E pn hr =>
    (ds_cons (ds_set 2 rfl (fun _ => .inl rfl) de_int)
    (ds_cons (ds_for (di_range1 (fun _ => rfl) M.b_range (da_cons (de_var 1 rfl (fun _ => .inl rfl)) da_nil)) (dg_name 3 rfl (fun _ => .inl rfl)) (ds_one (ds_set 2 rfl (fun _ => .inl rfl) (de_divW (de_mul (de_var 2 rfl (fun _ => .inl rfl)) (de_sub (de_var 0 rfl (fun _ => .inl rfl)) (de_var 3 rfl (fun _ => .inl rfl)))) (de_add (de_var 3 rfl (fun _ => .inl rfl)) de_int)))))
    (ds_one (ds_ret (de_var 2 rfl (fun _ => .inl rfl))))))
abbrev s__law_right : Stmt := topS 39
abbrev N__law_right : List Str := ["sack", "signs", "word", "other", "low", "high", "many", "runs", "parts", "layer", "own", "length", "size", "due", "worth", "turn", "at", "part"]
theorem sc__law_right : FnScope N__law_right ["sack"] (defScope s__law_right) := ⟨rfl, rfl, rfl, by decide +kernel, rfl, by decide +kernel, by decide +kernel⟩
def m__law_right : DenS := (sSeq (sSet 1 (dCio 0 (runIO 2 1 m__law_one) (dCons (dC mkLst (dCons (dC mkTup (dCons (d0 (.str [97])) (dCons (d0 (.str [98])) dNil))) (dCons (dC mkTup (dCons (d0 (.str [97])) (dCons (d0 (.str [98])) dNil))) (dCons (dC mkTup (dCons (d0 (.str [97])) dNil)) (dCons (dC mkTup (dCons (d0 (.str [97])) (dCons (d0 (.str [98])) (dCons (d0 (.str [99])) dNil)))) (dCons (dC mkTup (dCons (d0 (.str [98])) (dCons (d0 (.str [101])) dNil))) dNil)))))) dNil)))
    (sSeq (sSet 2 (d2 joinD (d0 (.str [])) (dLc (dLL range1L (dCons (dCio 0 (runIO 5 1 m__law_dip) (dCons (d0 (.int 7)) dNil)) dNil)) (gN 15) tYesD (dCio 0 (runIO 2 1 m__law_one) (dCons (dV 1) dNil)) [15])))
    (sSeq (sSet 3 (d2 joinD (d0 (.str [])) (dLc (dLL range1L (dCons (dCio 0 (runIO 5 1 m__law_dip) (dCons (d0 (.int 7)) dNil)) dNil)) (gN 15) tYesD (dCio 0 (runIO 2 1 m__law_one) (dCons (dV 1) dNil)) [15])))
    (sSeq (sPar 4 5 (dCons (dC mkLst (dCons (dV 2) dNil)) (dCons (dC mkLst (dCons (dV 2) dNil)) dNil)))
    (sSeq (sFor (dLL range1L (dCons (d0 (.int 4)) dNil)) (gN 6) (sSeq (sIf (dBl (d2 neD (dC (runD 2 2 m_outs_of) (dCons (dV 2) (dCons (dV 6) dNil))) (dC tupleD (dCons (dV 4) dNil)))) (sRet (d0 (.bl false))) sNil)
    (sSeq (sIf (dAndT (dBl (d2 ltD (dV 6) (d0 (.int 3)))) (dOrT (dBl (d2 neD (dC (runD 3 3 m_puts_of) (dCons (dV 2) (dCons (dV 1) (dCons (dV 6) dNil)))) (dC tupleD (dCons (dV 5) dNil)))) (dBl (d2 neD (dC lenD (dCons (dV 5) dNil)) (dC (runD 6 3 m_count_puts) (dCons (dC lenD (dCons (dV 2) dNil)) (dCons (dC lenD (dCons (dV 1) dNil)) (dCons (dV 6) dNil)))))))) (sRet (d0 (.bl false))) sNil)
    (sPar 4 5 (dCons (dC (runD 4 1 m__law_outs) (dCons (dV 4) dNil)) (dCons (dIf (dBl (d2 ltD (dV 6) (d0 (.int 2)))) (dC (runD 6 2 m__law_puts) (dCons (dV 5) (dCons (dV 1) dNil))) (dC mkLst dNil)) dNil))))))
    (sSeq (sSet 7 (dC lenD (dCons (dLc (dLL range1L (dCons (dC lenD (dCons (dV 2) dNil)) dNil)) (gN 16) (dOrT (dBl (d2 eqD (dV 16) (d0 (.int 0)))) (dBl (d2 neD (dAtN 2 (d2 subI (dV 16) (d0 (.int 1)))) (dAtN 2 (dV 16))))) (dV 16) [16]) dNil)))
    (sSeq (sIf (dOrT (dBl (d2 neD (dC (runD 1 1 m_runs_of) (dCons (dV 2) dNil)) (dV 7))) (dBl (d2 neD (dC lenD (dCons (dC (runD 2 2 m_outs_of) (dCons (dV 2) (dCons (d0 (.int 1)) dNil))) dNil)) (dV 7)))) (sRet (d0 (.bl false))) sNil)
    (sSeq (sPar 8 9 (dCons (dC mkLst (dCons (dV 2) dNil)) (dCons (dC mkLst (dCons (dV 2) dNil)) dNil)))
    (sSeq (whD (dBl (d2 neD (dV 9) (dC mkLst dNil))) (sSeq (sSet 9 (dC (runD 4 1 m__law_outs) (dCons (dV 9) dNil)))
    (sSet 8 (dAdd (dV 8) (dV 9)))) 12)
    (sSeq (sTgt (dC mkTup (dCons (dC dictP (dCons (dLc (dL seqD (dV 8)) (gN 17) tYesD (dC mkTup (dCons (dV 17) (dCons (d0 (.bl true)) dNil))) [17]) dNil)) (dCons (dC mkLst (dCons (dV 3) dNil)) dNil))) (gT (gsCons (gN 10) (gsCons (gN 9) gsNil))))
    (sSeq (whD (dBl (d2 eqD (dLc (dL seqD (dV 9)) (gN 17) (dBl (dIn (dV 17) (dV 10))) (dV 17) [17]) (dC mkLst dNil))) (sSet 9 (dC (runD 4 1 m__law_outs) (dCons (dV 9) dNil))) 12)
    (sSeq (sIf (dBl (d2 neD (dC (runD 2 2 m_shared_part) (dCons (dV 2) (dCons (dV 3) dNil))) (dC maxD (dCons (dLc (dL seqD (dV 9)) (gN 17) (dBl (dIn (dV 17) (dV 10))) (dC lenD (dCons (dV 17) dNil)) [17]) dNil)))) (sRet (d0 (.bl false))) sNil)
    (sSeq (sPar3 11 12 6 (dCons (dCio 0 (runIO 5 1 m__law_dip) (dCons (d0 (.int 61)) dNil)) (dCons (dAdd (d0 (.int 1)) (dCio 0 (runIO 5 1 m__law_dip) (dCons (d0 (.int 5)) dNil))) (dCons (dCio 0 (runIO 5 1 m__law_dip) (dCons (d0 (.int 61)) dNil)) dNil))))
    (sSeq (sTgt (dC mkTup (dCons (d0 (.int 0)) (dCons (d0 (.int 1)) dNil))) (gT (gsCons (gN 13) (gsCons (gN 14) gsNil))))
    (sSeq (sFor (dLL range1L (dCons (dAdd (dV 6) (d0 (.int 1))) dNil)) (gN 4) (sPar 13 14 (dCons (dAdd (dV 13) (dMul (dC (runD 4 2 m__law_choose) (dCons (dAdd (dV 11) (dV 6)) (dCons (dV 4) dNil))) (dV 14))) (dCons (dMul (dV 14) (d2 subI (dV 12) (d0 (.int 1)))) dNil))))
    (sRet (d2 eqD (dC (runD 6 3 m_count_puts) (dCons (dV 11) (dCons (dV 12) (dCons (dV 6) dNil)))) (dV 13))))))))))))))))))
theorem cal__law_right {P : Program} {w : World} {K : PySem.W.Frag} {mg : Str → Option Value} {base : Heap} (M : Gm mg) (D : Def K mg "_law_right" s__law_right ["sack"]) (c_outs_of : Cal P w K mg base "outs_of" 6 ["word", "many"] (spD K 2 (runD 2 2 m_outs_of))) (c_puts_of : Cal P w K mg base "puts_of" 6 ["word", "signs", "many"] (spD K 3 (runD 3 3 m_puts_of))) (c_count_puts : Cal P w K mg base "count_puts" 3 ["length", "size", "many"] (spD K 3 (runD 6 3 m_count_puts))) (c_runs_of : Cal P w K mg base "runs_of" 3 ["word"] (spD K 1 (runD 1 1 m_runs_of))) (c_shared_part : Cal P w K mg base "shared_part" 3 ["one", "other"] (spD K 2 (runD 2 2 m_shared_part))) (c__law_dip : Cal P w K mg base "_law_dip" 1 ["sack", "total"] (spIO K 1 (runIO 5 1 m__law_dip))) (c__law_one : Cal P w K mg base "_law_one" 2 ["sack", "items"] (spIO K 1 (runIO 2 1 m__law_one))) (c__law_outs : Cal P w K mg base "_law_outs" 2 ["words"] (spD K 1 (runD 4 1 m__law_outs))) (c__law_puts : Cal P w K mg base "_law_puts" 2 ["words", "signs"] (spD K 2 (runD 6 2 m__law_puts))) (c__law_choose : Cal P w K mg base "_law_choose" 1 ["top", "low"] (spD K 2 (runD 4 2 m__law_choose))) : Cal P w K mg base "_law_right" 7 ["sack"] (spIO K 0 (runIO 18 0 m__law_right)) :=
  cal_IO D sc__law_right fun f cdv A outer s H E pn hr =>
    (ds_cons (ds_set 1 rfl (fun _ => .inr rfl) (de_callIOC 0 c__law_one (show (2 : Nat) ≤ 6 by decide) runIO_len (fun _ => rfl) rfl (fun _ => .inr (.inl rfl)) (da_cons (DO.de (do_lst (da_cons (de_tup (da_cons (de_strL [97]) (da_cons (de_strL [98]) da_nil))) (da_cons (de_tup (da_cons (de_strL [97]) (da_cons (de_strL [98]) da_nil))) (da_cons (de_tup (da_cons (de_strL [97]) da_nil)) (da_cons (de_tup (da_cons (de_strL [97]) (da_cons (de_strL [98]) (da_cons (de_strL [99]) da_nil)))) (da_cons (de_tup (da_cons (de_strL [98]) (da_cons (de_strL [101]) da_nil))) da_nil))))))) da_nil)))
    (ds_cons (ds_set 2 rfl (fun _ => .inr rfl) (de_join (de_strL []) (DO.de (do_lc (own := [("turn", 15)]) (di_range1 (fun _ => rfl) M.b_range (da_cons (de_callIOC 0 c__law_dip (show (1 : Nat) ≤ 6 by decide) runIO_len (fun _ => rfl) rfl (fun _ => .inr (.inl rfl)) (da_cons de_int da_nil)) da_nil)) (fun _ => (show BlkOk N__law_right (defScope s__law_right) _ [("turn", 15)] from ⟨rfl, by decide +kernel, by decide +kernel, by decide +kernel, by decide +kernel⟩)) (dg_name 15 rfl (fun _ => .inl rfl)) dts_nil (de_callIOC 0 c__law_one (show (2 : Nat) ≤ 6 by decide) runIO_len (fun _ => rfl) rfl (by intro _; first | exact .inr (.inl rfl) | exact .inr (.inr rfl)) (da_cons (de_var 1 rfl (by intro _; first | exact .inr (.inl rfl) | exact .inr (.inr rfl))) da_nil))))))
    (ds_cons (ds_set 3 rfl (fun _ => .inl rfl) (de_join (de_strL []) (DO.de (do_lc (own := [("turn", 15)]) (di_range1 (fun _ => rfl) M.b_range (da_cons (de_callIOC 0 c__law_dip (show (1 : Nat) ≤ 6 by decide) runIO_len (fun _ => rfl) rfl (fun _ => .inr (.inl rfl)) (da_cons de_int da_nil)) da_nil)) (fun _ => (show BlkOk N__law_right (defScope s__law_right) _ [("turn", 15)] from ⟨rfl, by decide +kernel, by decide +kernel, by decide +kernel, by decide +kernel⟩)) (dg_name 15 rfl (fun _ => .inl rfl)) dts_nil (de_callIOC 0 c__law_one (show (2 : Nat) ≤ 6 by decide) runIO_len (fun _ => rfl) rfl (by intro _; first | exact .inr (.inl rfl) | exact .inr (.inr rfl)) (da_cons (de_var 1 rfl (by intro _; first | exact .inr (.inl rfl) | exact .inr (.inr rfl))) da_nil))))))
    (ds_cons (ds_par 4 5 rfl rfl (by decide) (fun _ => rfl) (fun _ => rfl) (da_cons (DO.de (do_lst (da_cons (de_var 2 rfl (fun _ => .inr (.inl rfl))) da_nil))) (da_cons (DO.de (do_lst (da_cons (de_var 2 rfl (fun _ => .inr (.inl rfl))) da_nil))) da_nil)))
    (ds_cons (ds_for (di_range1 (fun _ => rfl) M.b_range (da_cons de_int da_nil)) (dg_name 6 rfl (fun _ => .inl rfl)) (ds_cons (ds_if (dt_ne (de_callC c_outs_of (show (6 : Nat) ≤ 6 by decide) runD_len (fun _ => rfl) (da_cons (de_var 2 rfl (fun _ => .inr (.inl rfl))) (da_cons (de_var 6 rfl (fun _ => .inl rfl)) da_nil))) (de_tupleOf (fun _ => rfl) M.b_tuple (de_var 4 rfl (fun _ => .inl rfl)))) (ds_one (ds_ret de_bl)) ds_nil)
    (ds_cons (ds_if (DW.dt (dw_and (dt_lt (de_var 6 rfl (fun _ => .inl rfl)) de_int) (dw_and1 (DW.dt (dw_or (dt_ne (de_callC c_puts_of (show (6 : Nat) ≤ 6 by decide) runD_len (fun _ => rfl) (da_cons (de_var 2 rfl (fun _ => .inr (.inl rfl))) (da_cons (de_var 1 rfl (fun _ => .inr (.inl rfl))) (da_cons (de_var 6 rfl (fun _ => .inl rfl)) da_nil)))) (de_tupleOf (fun _ => rfl) M.b_tuple (de_var 5 rfl (fun _ => .inl rfl)))) (dw_or1 (dt_ne (de_len (fun _ => rfl) M.b_len (de_var 5 rfl (fun _ => .inl rfl))) (de_callC c_count_puts (show (3 : Nat) ≤ 6 by decide) runD_len (fun _ => rfl) (da_cons (de_len (fun _ => rfl) M.b_len (de_var 2 rfl (fun _ => .inr (.inl rfl)))) (da_cons (de_len (fun _ => rfl) M.b_len (de_var 1 rfl (fun _ => .inr (.inl rfl)))) (da_cons (de_var 6 rfl (fun _ => .inl rfl)) da_nil))))))))))) (ds_one (ds_ret de_bl)) ds_nil)
    (ds_one (ds_par 4 5 rfl rfl (by decide) (fun _ => rfl) (fun _ => rfl) (da_cons (de_callC c__law_outs (show (2 : Nat) ≤ 6 by decide) runD_len (fun _ => rfl) (da_cons (de_var 4 rfl (fun _ => .inl rfl)) da_nil)) (da_cons (de_ifExp (dt_lt (de_var 6 rfl (fun _ => .inl rfl)) de_int) (de_callC c__law_puts (show (2 : Nat) ≤ 6 by decide) runD_len (fun _ => rfl) (da_cons (de_var 5 rfl (fun _ => .inl rfl)) (da_cons (de_var 1 rfl (fun _ => .inr (.inl rfl))) da_nil))) (DO.de (do_lst da_nil))) da_nil)))))))
    (ds_cons (ds_set 7 rfl (fun _ => .inl rfl) (de_len (fun _ => rfl) M.b_len (DO.de (do_lc (own := [("at", 16)]) (di_range1 (fun _ => rfl) M.b_range (da_cons (de_len (fun _ => rfl) M.b_len (de_var 2 rfl (fun _ => .inr (.inl rfl)))) da_nil)) (fun _ => (show BlkOk N__law_right (defScope s__law_right) _ [("at", 16)] from ⟨rfl, by decide +kernel, by decide +kernel, by decide +kernel, by decide +kernel⟩)) (dg_name 16 rfl (fun _ => .inl rfl)) (dts_one (DW.dt (dw_or (dt_eq (de_var 16 rfl (fun _ => .inl rfl)) de_int) (dw_or1 (dt_ne (de_atN 2 rfl (by intro _; first | exact .inr (.inl rfl) | exact .inr (.inr rfl)) (de_sub (de_var 16 rfl (fun _ => .inl rfl)) de_int)) (de_atN 2 rfl (by intro _; first | exact .inr (.inl rfl) | exact .inr (.inr rfl)) (de_var 16 rfl (fun _ => .inl rfl)))))))) (de_var 16 rfl (fun _ => .inl rfl))))))
    (ds_cons (ds_if (DW.dt (dw_or (dt_ne (de_callC c_runs_of (show (3 : Nat) ≤ 6 by decide) runD_len (fun _ => rfl) (da_cons (de_var 2 rfl (fun _ => .inr (.inl rfl))) da_nil)) (de_var 7 rfl (fun _ => .inl rfl))) (dw_or1 (dt_ne (de_len (fun _ => rfl) M.b_len (de_callC c_outs_of (show (6 : Nat) ≤ 6 by decide) runD_len (fun _ => rfl) (da_cons (de_var 2 rfl (fun _ => .inr (.inl rfl))) (da_cons de_int da_nil)))) (de_var 7 rfl (fun _ => .inl rfl)))))) (ds_one (ds_ret de_bl)) ds_nil)
    (ds_cons (ds_par 8 9 rfl rfl (by decide) (fun _ => rfl) (fun _ => rfl) (da_cons (DO.de (do_lst (da_cons (de_var 2 rfl (fun _ => .inr (.inl rfl))) da_nil))) (da_cons (DO.de (do_lst (da_cons (de_var 2 rfl (fun _ => .inr (.inl rfl))) da_nil))) da_nil)))
    (ds_cons (ds_while 12 (dt_ne (de_var 9 rfl (fun _ => .inl rfl)) (DO.de (do_lst da_nil))) (ds_cons (ds_set 9 rfl (fun _ => .inl rfl) (de_callC c__law_outs (show (2 : Nat) ≤ 6 by decide) runD_len (fun _ => rfl) (da_cons (de_var 9 rfl (fun _ => .inl rfl)) da_nil)))
    (ds_one (ds_set 8 rfl (fun _ => .inl rfl) (de_add (de_var 8 rfl (fun _ => .inl rfl)) (de_var 9 rfl (fun _ => .inl rfl)))))))
    (ds_cons (ds_tgt (de_tup (da_cons (DO.de (do_dictP (fun _ => rfl) M.b_dict (DO.de (do_lc (own := [("part", 17)]) (di_seq (de_var 8 rfl (fun _ => .inl rfl))) (fun _ => (show BlkOk N__law_right (defScope s__law_right) _ [("part", 17)] from ⟨rfl, by decide +kernel, by decide +kernel, by decide +kernel, by decide +kernel⟩)) (dg_name 17 rfl (fun _ => .inl rfl)) dts_nil (de_tup (da_cons (de_var 17 rfl (fun _ => .inl rfl)) (da_cons de_bl da_nil))))))) (da_cons (DO.de (do_lst (da_cons (de_var 3 rfl (fun _ => .inl rfl)) da_nil))) da_nil))) (dg_tup (dgs_cons (dg_name 10 rfl (fun _ => .inr rfl)) (dgs_cons (dg_name 9 rfl (fun _ => .inl rfl)) dgs_nil)) gs2))
    (ds_cons (ds_while 12 (dt_eq (DO.de (do_lc (own := [("part", 17)]) (di_seq (de_var 9 rfl (fun _ => .inl rfl))) (fun _ => (show BlkOk N__law_right (defScope s__law_right) _ [("part", 17)] from ⟨rfl, by decide +kernel, by decide +kernel, by decide +kernel, by decide +kernel⟩)) (dg_name 17 rfl (fun _ => .inl rfl)) (dts_one (dt_in (de_var 17 rfl (fun _ => .inl rfl)) (de_var 10 rfl (by intro _; first | exact .inr (.inl rfl) | exact .inr (.inr rfl))))) (de_var 17 rfl (fun _ => .inl rfl)))) (DO.de (do_lst da_nil))) (ds_one (ds_set 9 rfl (fun _ => .inl rfl) (de_callC c__law_outs (show (2 : Nat) ≤ 6 by decide) runD_len (fun _ => rfl) (da_cons (de_var 9 rfl (fun _ => .inl rfl)) da_nil)))))
    (ds_cons (ds_if (dt_ne (de_callC c_shared_part (show (3 : Nat) ≤ 6 by decide) runD_len (fun _ => rfl) (da_cons (de_var 2 rfl (fun _ => .inr (.inl rfl))) (da_cons (de_var 3 rfl (fun _ => .inl rfl)) da_nil))) (de_max (fun _ => rfl) M.b_max (DO.de (do_lc (own := [("part", 17)]) (di_seq (de_var 9 rfl (fun _ => .inl rfl))) (fun _ => (show BlkOk N__law_right (defScope s__law_right) _ [("part", 17)] from ⟨rfl, by decide +kernel, by decide +kernel, by decide +kernel, by decide +kernel⟩)) (dg_name 17 rfl (fun _ => .inl rfl)) (dts_one (dt_in (de_var 17 rfl (fun _ => .inl rfl)) (de_var 10 rfl (by intro _; first | exact .inr (.inl rfl) | exact .inr (.inr rfl))))) (de_len (fun _ => rfl) M.b_len (de_var 17 rfl (fun _ => .inl rfl))))))) (ds_one (ds_ret de_bl)) ds_nil)
    (ds_cons (ds_par3 11 12 6 rfl rfl rfl (by decide) (by decide) (by decide) (fun _ => rfl) (fun _ => rfl) (fun _ => rfl) (da_cons (de_callIOC 0 c__law_dip (show (1 : Nat) ≤ 6 by decide) runIO_len (fun _ => rfl) rfl (fun _ => .inr (.inl rfl)) (da_cons de_int da_nil)) (da_cons (de_add de_int (de_callIOC 0 c__law_dip (show (1 : Nat) ≤ 6 by decide) runIO_len (fun _ => rfl) rfl (fun _ => .inr (.inl rfl)) (da_cons de_int da_nil))) (da_cons (de_callIOC 0 c__law_dip (show (1 : Nat) ≤ 6 by decide) runIO_len (fun _ => rfl) rfl (fun _ => .inr (.inl rfl)) (da_cons de_int da_nil)) da_nil))))
    (ds_cons (ds_tgt (de_tup (da_cons de_int (da_cons de_int da_nil))) (dg_tup (dgs_cons (dg_name 13 rfl (fun _ => .inl rfl)) (dgs_cons (dg_name 14 rfl (fun _ => .inl rfl)) dgs_nil)) gs2))
    (ds_cons (ds_for (di_range1 (fun _ => rfl) M.b_range (da_cons (de_add (de_var 6 rfl (fun _ => .inl rfl)) de_int) da_nil)) (dg_name 4 rfl (fun _ => .inl rfl)) (ds_one (ds_par 13 14 rfl rfl (by decide) (fun _ => rfl) (fun _ => rfl) (da_cons (de_add (de_var 13 rfl (fun _ => .inl rfl)) (de_mul (de_callC c__law_choose (show (1 : Nat) ≤ 6 by decide) runD_len (fun _ => rfl) (da_cons (de_add (de_var 11 rfl (fun _ => .inl rfl)) (de_var 6 rfl (fun _ => .inl rfl))) (da_cons (de_var 4 rfl (fun _ => .inl rfl)) da_nil))) (de_var 14 rfl (fun _ => .inl rfl)))) (da_cons (de_mul (de_var 14 rfl (fun _ => .inl rfl)) (de_sub (de_var 12 rfl (fun _ => .inl rfl)) de_int)) da_nil)))))
    (ds_one (ds_ret (de_eq (de_callC c_count_puts (show (3 : Nat) ≤ 6 by decide) runD_len (fun _ => rfl) (da_cons (de_var 11 rfl (fun _ => .inl rfl)) (da_cons (de_var 12 rfl (fun _ => .inl rfl)) (da_cons (de_var 6 rfl (fun _ => .inl rfl)) da_nil)))) (de_var 13 rfl (fun _ => .inl rfl))))))))))))))))))))
abbrev s_law : Stmt := topS 40
abbrev N_law : List Str := ["script", "spot", "sack", "turn"]
theorem sc_law : FnScope N_law ["script"] (defScope s_law) := ⟨rfl, rfl, rfl, by decide +kernel, rfl, by decide +kernel, by decide +kernel⟩
def m_law : DenS := (sSeq (sFor (dLL range1L (dCons (dC max2D (dCons (d0 (.int 1)) (dCons (dC min2D (dCons (d0 (.int 3)) (dCons (dC lenD (dCons (dV 0) dNil)) dNil))) dNil))) dNil)) (gN 1) (sSeq (sSetO 2 (dC (runN 5 2 m__law_sack) (dCons (dV 0) (dCons (dV 1) dNil))))
    (sFor (dLL range1L (dCons (d0 (.int 5)) dNil)) (gN 3) (sIf (dNotT (dBl (dCio 2 (runIO 18 0 m__law_right) dNil))) (sRet (d0 (.bl false))) sNil))))
    (sRet (d2 eqD (dC mkLst (dCons (dC (runD 2 2 m_outs_of) (dCons (d0 (.str [])) (dCons (d0 (.int 1)) dNil))) (dCons (dC (runD 2 2 m_outs_of) (dCons (d0 (.str [])) (dCons (d0 (.int 0)) dNil))) (dCons (dC (runD 2 2 m_outs_of) (dCons (d0 (.str [97, 98])) (dCons (d0 (.int 3)) dNil))) (dCons (dC (runD 1 1 m_runs_of) (dCons (d0 (.str [])) dNil)) (dCons (dC (runD 2 2 m_shared_part) (dCons (d0 (.str [97, 98, 99, 100, 101])) (dCons (d0 (.str [101, 100, 99, 98, 97])) dNil))) (dCons (dC (runD 6 3 m_count_puts) (dCons (d0 (.int 60)) (dCons (d0 (.int 1)) (dCons (d0 (.int 60)) dNil)))) dNil))))))) (dC mkLst (dCons (dC mkTup dNil) (dCons (dC mkTup (dCons (d0 (.str [])) dNil)) (dCons (dC mkTup dNil) (dCons (d0 (.int 0)) (dCons (d0 (.int 1)) (dCons (d0 (.int 1)) dNil))))))))))
theorem cal_law {P : Program} {w : World} {K : PySem.W.Frag} {mg : Str → Option Value} {base : Heap} (M : Gm mg) (D : Def K mg "law" s_law ["script"]) (c_outs_of : Cal P w K mg base "outs_of" 6 ["word", "many"] (spD K 2 (runD 2 2 m_outs_of))) (c_count_puts : Cal P w K mg base "count_puts" 3 ["length", "size", "many"] (spD K 3 (runD 6 3 m_count_puts))) (c_runs_of : Cal P w K mg base "runs_of" 3 ["word"] (spD K 1 (runD 1 1 m_runs_of))) (c_shared_part : Cal P w K mg base "shared_part" 3 ["one", "other"] (spD K 2 (runD 2 2 m_shared_part))) (c__law_sack : Cal P w K mg base "_law_sack" 1 ["script", "spot"] (spN K 2 (runN 5 2 m__law_sack))) (c__law_right : Cal P w K mg base "_law_right" 7 ["sack"] (spIO K 0 (runIO 18 0 m__law_right))) : Cal P w K mg base "law" 8 ["script"] (spD K 1 (runD 4 1 m_law)) :=
  cal_D D sc_law fun f cdv A outer s H E pn hr =>
    (ds_cons (ds_for (di_range1 (fun _ => rfl) M.b_range (da_cons (de_max2 (fun _ => rfl) M.b_max (da_cons de_int (da_cons (de_min2 (fun _ => rfl) M.b_min (da_cons de_int (da_cons (de_len (fun _ => rfl) M.b_len (de_var 0 rfl (fun _ => .inl rfl))) da_nil))) da_nil))) da_nil)) (dg_name 1 rfl (fun _ => .inl rfl)) (ds_cons (ds_setO 2 rfl (fun _ => .inl rfl) (do_callC c__law_sack (show (1 : Nat) ≤ 7 by decide) runN_len (fun _ => rfl) (da_cons (de_var 0 rfl (fun _ => .inl rfl)) (da_cons (de_var 1 rfl (fun _ => .inl rfl)) da_nil))))
    (ds_one (ds_for (di_range1 (fun _ => rfl) M.b_range (da_cons de_int da_nil)) (dg_name 3 rfl (fun _ => .inl rfl)) (ds_one (ds_if (dt_not (dt_val (de_callIOC 2 c__law_right (show (7 : Nat) ≤ 7 by decide) runIO_len (fun _ => rfl) rfl (fun _ => .inl rfl) da_nil))) (ds_one (ds_ret de_bl)) ds_nil))))))
    (ds_one (ds_ret (de_eq (DO.de (do_lst (da_cons (de_callC c_outs_of (show (6 : Nat) ≤ 7 by decide) runD_len (fun _ => rfl) (da_cons (de_strL []) (da_cons de_int da_nil))) (da_cons (de_callC c_outs_of (show (6 : Nat) ≤ 7 by decide) runD_len (fun _ => rfl) (da_cons (de_strL []) (da_cons de_int da_nil))) (da_cons (de_callC c_outs_of (show (6 : Nat) ≤ 7 by decide) runD_len (fun _ => rfl) (da_cons (de_strL [97, 98]) (da_cons de_int da_nil))) (da_cons (de_callC c_runs_of (show (3 : Nat) ≤ 7 by decide) runD_len (fun _ => rfl) (da_cons (de_strL []) da_nil)) (da_cons (de_callC c_shared_part (show (3 : Nat) ≤ 7 by decide) runD_len (fun _ => rfl) (da_cons (de_strL [97, 98, 99, 100, 101]) (da_cons (de_strL [101, 100, 99, 98, 97]) da_nil))) (da_cons (de_callC c_count_puts (show (3 : Nat) ≤ 7 by decide) runD_len (fun _ => rfl) (da_cons de_int (da_cons de_int (da_cons de_int da_nil)))) da_nil)))))))) (DO.de (do_lst (da_cons (de_tup da_nil) (da_cons (de_tup (da_cons (de_strL []) da_nil)) (da_cons (de_tup da_nil) (da_cons de_int (da_cons de_int (da_cons de_int da_nil))))))))))))
end DLP

/-! Computing denotations: each combinator at a list of slots, step by step. -/
namespace DLP
open PySem PySem.Spec PyProof.Rows L2 RZ DL

/-! ### steps -/
def bnd {α β : Type} : Option α → (α → Option β) → Option β
  | some x, k => k x
  | none, _ => none
theorem bnd_s {α β : Type} {x : α} {k : α → Option β} : bnd (some x) k = k x := rfl
theorem bnd_n {α β : Type} {k : α → Option β} : bnd none k = none := rfl
def vAt (i : Nat) (ρ : Rho) : Option Sl → Option (D × Rho)
  | some (.sh d) => some (d, ρ)
  | some (.ow false d) => some (d, ρ.set i (.sh d))
  | _ => none
theorem dV_ap {i : Nat} {ρ : Rho} : dV i ρ = vAt i ρ ρ[i]? := by unfold dV vAt; rfl
theorem vAt_s {i : Nat} {ρ : Rho} {d : D} : vAt i ρ (some (.sh d)) = some (d, ρ) := rfl
theorem vAt_o {i : Nat} {ρ : Rho} {d : D} : vAt i ρ (some (.ow false d)) = some (d, ρ.set i (.sh d)) := rfl
theorem d0_ap {d : D} {ρ : Rho} : d0 d ρ = some (d, ρ) := rfl
def kV (z : Option D) (ρ : Rho) : Option (D × Rho) := match z with | some d => some (d, ρ) | none => none
theorem kV_s {d : D} {ρ : Rho} : kV (some d) ρ = some (d, ρ) := rfl
theorem kV_n {ρ : Rho} : kV none ρ = none := rfl
def kF (f : D → Option D) : D × Rho → Option (D × Rho) := fun p => kV (f p.1) p.2
theorem kF_ap {f : D → Option D} {x : D} {ρ : Rho} : kF f (x, ρ) = kV (f x) ρ := rfl
theorem d1_ap {f : D → Option D} {φ : Den} {ρ : Rho} : d1 f φ ρ = bnd (φ ρ) (kF f) := by
  unfold d1
  cases φ ρ with
  | none => rfl
  | some p => rfl
def k2 (f : D → D → Option D) (ψ : Den) : D × Rho → Option (D × Rho) := fun p => bnd (ψ p.2) (kF (f p.1))
theorem k2_ap {f : D → D → Option D} {ψ : Den} {x : D} {ρ : Rho} : k2 f ψ (x, ρ) = bnd (ψ ρ) (kF (f x)) := rfl
theorem d2_ap {f : D → D → Option D} {φ ψ : Den} {ρ : Rho} : d2 f φ ψ ρ = bnd (φ ρ) (k2 f ψ) := by
  unfold d2
  cases φ ρ with
  | none => rfl
  | some p =>
    obtain ⟨x, ρ1⟩ := p
    rw [bnd_s, k2_ap]
    dsimp only
    cases ψ ρ1 with
    | none => rfl
    | some q => rfl
def kBl : D × Rho → Option (Bool × Rho)
  | (.bl b, ρ) => some (b, ρ)
  | _ => none
theorem kBl_b {b : Bool} {ρ : Rho} : kBl (.bl b, ρ) = some (b, ρ) := rfl
theorem dBl_ap {φ : Den} {ρ : Rho} : dBl φ ρ = bnd (φ ρ) kBl := by
  unfold dBl
  cases φ ρ with
  | none => rfl
  | some p =>
    obtain ⟨x, ρ1⟩ := p
    cases x <;> rfl
def kAndT (ψ : DenT) : Bool × Rho → Option (Bool × Rho) := fun p => if p.1 = true then ψ p.2 else some (false, p.2)
theorem kAndT_ap {ψ : DenT} {b : Bool} {ρ : Rho} : kAndT ψ (b, ρ) = if b = true then ψ ρ else some (false, ρ) := rfl
theorem dAndT_ap {φ ψ : DenT} {ρ : Rho} : dAndT φ ψ ρ = bnd (φ ρ) (kAndT ψ) := by
  unfold dAndT
  cases φ ρ with
  | none => rfl
  | some p =>
    obtain ⟨x, ρ1⟩ := p
    cases x <;> rfl
def kOrT (ψ : DenT) : Bool × Rho → Option (Bool × Rho) := fun p => if p.1 = true then some (true, p.2) else ψ p.2
theorem kOrT_ap {ψ : DenT} {b : Bool} {ρ : Rho} : kOrT ψ (b, ρ) = if b = true then some (true, ρ) else ψ ρ := rfl
theorem dOrT_ap {φ ψ : DenT} {ρ : Rho} : dOrT φ ψ ρ = bnd (φ ρ) (kOrT ψ) := by
  unfold dOrT
  cases φ ρ with
  | none => rfl
  | some p =>
    obtain ⟨x, ρ1⟩ := p
    cases x <;> rfl
def kNotT : Bool × Rho → Option (Bool × Rho) := fun p => some (!p.1, p.2)
theorem kNotT_ap {b : Bool} {ρ : Rho} : kNotT (b, ρ) = some (!b, ρ) := rfl
theorem dNotT_ap {φ : DenT} {ρ : Rho} : dNotT φ ρ = bnd (φ ρ) kNotT := by
  unfold dNotT
  cases φ ρ with
  | none => rfl
  | some p => rfl
def kIf {α : Type} (φ ψ : Rho → Option α) : Bool × Rho → Option α := fun p => if p.1 = true then φ p.2 else ψ p.2
theorem kIf_ap {α : Type} {φ ψ : Rho → Option α} {b : Bool} {ρ : Rho} : kIf φ ψ (b, ρ) = if b = true then φ ρ else ψ ρ := rfl
theorem dIf_ap {c : DenT} {φ ψ : Den} {ρ : Rho} : dIf c φ ψ ρ = bnd (c ρ) (kIf φ ψ) := by
  unfold dIf
  cases c ρ with
  | none => rfl
  | some p =>
    obtain ⟨x, ρ1⟩ := p
    cases x <;> rfl
def kAndV (ψ : Den) : D × Rho → Option (D × Rho)
  | (.bl b, ρ) => if b = true then ψ ρ else some (.bl false, ρ)
  | _ => none
theorem kAndV_b {ψ : Den} {b : Bool} {ρ : Rho} : kAndV ψ (.bl b, ρ) = if b = true then ψ ρ else some (.bl false, ρ) := rfl
theorem dAndV_ap {φ ψ : Den} {ρ : Rho} : dAndV φ ψ ρ = bnd (φ ρ) (kAndV ψ) := by
  unfold dAndV
  cases φ ρ with
  | none => rfl
  | some p =>
    obtain ⟨x, ρ1⟩ := p
    cases x with
    | bl b => cases b <;> rfl
    | _ => rfl
def kOrV (ψ : Den) : D × Rho → Option (D × Rho)
  | (.bl b, ρ) => if b = true then some (.bl true, ρ) else ψ ρ
  | _ => none
theorem kOrV_b {ψ : Den} {b : Bool} {ρ : Rho} : kOrV ψ (.bl b, ρ) = if b = true then some (.bl true, ρ) else ψ ρ := rfl
theorem dOrV_ap {φ ψ : Den} {ρ : Rho} : dOrV φ ψ ρ = bnd (φ ρ) (kOrV ψ) := by
  unfold dOrV
  cases φ ρ with
  | none => rfl
  | some p =>
    obtain ⟨x, ρ1⟩ := p
    cases x with
    | bl b => cases b <;> rfl
    | _ => rfl
theorem dNil_ap {ρ : Rho} : dNil ρ = some ([], ρ) := rfl
def kApp (x : D) : List D × Rho → Option (List D × Rho) := fun p => some (x :: p.1, p.2)
theorem kApp_ap {x : D} {l : List D} {ρ : Rho} : kApp x (l, ρ) = some (x :: l, ρ) := rfl
def kCons (ψ : DenL) : D × Rho → Option (List D × Rho) := fun p => bnd (ψ p.2) (kApp p.1)
theorem kCons_ap {ψ : DenL} {x : D} {ρ : Rho} : kCons ψ (x, ρ) = bnd (ψ ρ) (kApp x) := rfl
theorem dCons_ap {φ : Den} {ψ : DenL} {ρ : Rho} : dCons φ ψ ρ = bnd (φ ρ) (kCons ψ) := by
  unfold dCons
  cases φ ρ with
  | none => rfl
  | some p =>
    obtain ⟨x, ρ1⟩ := p
    rw [bnd_s, kCons_ap]
    dsimp only
    cases ψ ρ1 with
    | none => rfl
    | some q => rfl
def kC (f : List D → Option D) : List D × Rho → Option (D × Rho) := fun p => kV (f p.1) p.2
theorem kC_ap {f : List D → Option D} {l : List D} {ρ : Rho} : kC f (l, ρ) = kV (f l) ρ := rfl
theorem dC_ap {f : List D → Option D} {φ : DenL} {ρ : Rho} : dC f φ ρ = bnd (φ ρ) (kC f) := by
  unfold dC
  cases φ ρ with
  | none => rfl
  | some p => rfl
def alt {α : Type} (ψ : Rho → Option α) (ρ : Rho) : Option α → Option α
  | some z => some z
  | none => ψ ρ
theorem alt_s {α : Type} {ψ : Rho → Option α} {ρ : Rho} {z : α} : alt ψ ρ (some z) = some z := rfl
theorem alt_n {α : Type} {ψ : Rho → Option α} {ρ : Rho} : alt ψ ρ none = ψ ρ := rfl
theorem dAlt_ap {α : Type} {φ ψ : Rho → Option α} {ρ : Rho} : dAlt φ ψ ρ = alt ψ ρ (φ ρ) := by
  unfold dAlt
  cases φ ρ <;> rfl
theorem dAdd_ap {φ ψ : Den} {ρ : Rho} : dAdd φ ψ ρ = alt (dAlt (d2 addS φ ψ) (d2 addL φ ψ)) ρ (d2 addI φ ψ ρ) := dAlt_ap
theorem dMul_ap {φ ψ : Den} {ρ : Rho} : dMul φ ψ ρ = alt (d2 repL φ ψ) ρ (d2 mulI φ ψ ρ) := dAlt_ap
theorem dIn_ap {φ ψ : Den} {ρ : Rho} : dIn φ ψ ρ = alt (dAlt (d2 inDk φ ψ) (d2 inLst φ ψ)) ρ (d2 inSign φ ψ ρ) := dAlt_ap
theorem dAtN_ap {i : Nat} {φ : Den} {ρ : Rho} : dAtN i φ ρ = alt (d2 ixD (dV i) φ) ρ (dAtO i φ ρ) := dAlt_ap
def kCh2 (f' : D → D → Option D) (y : D) (χ : Den) (ρ : Rho) : Option D → Option (D × Rho)
  | some (.bl b) => if b = true then bnd (χ ρ) (kF (f' y)) else some (.bl false, ρ)
  | _ => none
theorem kCh2_b {f' : D → D → Option D} {y : D} {χ : Den} {ρ : Rho} {b : Bool} : kCh2 f' y χ ρ (some (.bl b)) = if b = true then bnd (χ ρ) (kF (f' y)) else some (.bl false, ρ) := rfl
def kCh1 (f f' : D → D → Option D) (x : D) (χ : Den) : D × Rho → Option (D × Rho) := fun p => kCh2 f' p.1 χ p.2 (f x p.1)
theorem kCh1_ap {f f' : D → D → Option D} {x y : D} {χ : Den} {ρ : Rho} : kCh1 f f' x χ (y, ρ) = kCh2 f' y χ ρ (f x y) := rfl
def kCh (f f' : D → D → Option D) (ψ χ : Den) : D × Rho → Option (D × Rho) := fun p => bnd (ψ p.2) (kCh1 f f' p.1 χ)
theorem kCh_ap {f f' : D → D → Option D} {ψ χ : Den} {x : D} {ρ : Rho} : kCh f f' ψ χ (x, ρ) = bnd (ψ ρ) (kCh1 f f' x χ) := rfl
theorem dChain_ap {f f' : D → D → Option D} {φ ψ χ : Den} {ρ : Rho} : dChain f f' φ ψ χ ρ = bnd (φ ρ) (kCh f f' ψ χ) := by
  unfold dChain
  cases φ ρ with
  | none => rfl
  | some p =>
    obtain ⟨x, ρ1⟩ := p
    rw [bnd_s, kCh_ap]
    dsimp only
    cases ψ ρ1 with
    | none => rfl
    | some q =>
      obtain ⟨y, ρ2⟩ := q
      rw [bnd_s, kCh1_ap]
      dsimp only
      cases f x y with
      | none => rfl
      | some z =>
        cases z with
        | bl b =>
          cases b with
          | false => rfl
          | true =>
            rw [kCh2_b, if_pos rfl]
            dsimp only
            cases χ ρ2 with
            | none => rfl
            | some u => rfl
        | _ => rfl
theorem pNone_ap {ρ : Rho} : pNone ρ = some (none, ρ) := rfl
def kP : D × Rho → Option (Option Int × Rho)
  | (.int i, ρ) => some (some i, ρ)
  | _ => none
theorem kP_i {i : Int} {ρ : Rho} : kP (.int i, ρ) = some (some i, ρ) := rfl
theorem pSome_ap {φ : Den} {ρ : Rho} : pSome φ ρ = bnd (φ ρ) kP := by
  unfold pSome
  cases φ ρ with
  | none => rfl
  | some p =>
    obtain ⟨x, ρ1⟩ := p
    cases x <;> rfl
def kSl2 (x : D) (lo : Option Int) : Option Int × Rho → Option (D × Rho) := fun p => kV (slD x lo p.1) p.2
theorem kSl2_ap {x : D} {lo hi : Option Int} {ρ : Rho} : kSl2 x lo (hi, ρ) = kV (slD x lo hi) ρ := rfl
def kSl1 (x : D) (hi : DenP) : Option Int × Rho → Option (D × Rho) := fun p => bnd (hi p.2) (kSl2 x p.1)
theorem kSl1_ap {x : D} {hi : DenP} {lo : Option Int} {ρ : Rho} : kSl1 x hi (lo, ρ) = bnd (hi ρ) (kSl2 x lo) := rfl
def kSl (lo hi : DenP) : D × Rho → Option (D × Rho) := fun p => bnd (lo p.2) (kSl1 p.1 hi)
theorem kSl_ap {lo hi : DenP} {x : D} {ρ : Rho} : kSl lo hi (x, ρ) = bnd (lo ρ) (kSl1 x hi) := rfl
theorem dSl_ap {φ : Den} {lo hi : DenP} {ρ : Rho} : dSl φ lo hi ρ = bnd (φ ρ) (kSl lo hi) := by
  unfold dSl
  cases φ ρ with
  | none => rfl
  | some p =>
    obtain ⟨x, ρ1⟩ := p
    rw [bnd_s, kSl_ap]
    dsimp only
    cases lo ρ1 with
    | none => rfl
    | some q =>
      obtain ⟨l, ρ2⟩ := q
      rw [bnd_s, kSl1_ap]
      dsimp only
      cases hi ρ2 with
      | none => rfl
      | some u => rfl
def kL (f : D → Option (List D)) : D × Rho → Option (List D × Rho) := fun p => match f p.1 with | some ds => some (ds, p.2) | none => none
theorem kL_ap {f : D → Option (List D)} {x : D} {ρ : Rho} {ds : List D} (h : f x = some ds) : kL f (x, ρ) = some (ds, ρ) := by unfold kL; rw [h]
theorem dL_ap {f : D → Option (List D)} {φ : Den} {ρ : Rho} : dL f φ ρ = bnd (φ ρ) (kL f) := by
  unfold dL
  cases φ ρ with
  | none => rfl
  | some p => rfl
def kVL (z : Option (List D)) (ρ : Rho) : Option (List D × Rho) := match z with | some d => some (d, ρ) | none => none
theorem kVL_s {d : List D} {ρ : Rho} : kVL (some d) ρ = some (d, ρ) := rfl
theorem kL_v {f : D → Option (List D)} {x : D} {ρ : Rho} : kL f (x, ρ) = kVL (f x) ρ := rfl
def kLL (f : List D → Option (List D)) : List D × Rho → Option (List D × Rho) := fun p => kVL (f p.1) p.2
theorem kLL_ap {f : List D → Option (List D)} {l : List D} {ρ : Rho} : kLL f (l, ρ) = kVL (f l) ρ := rfl
theorem dLL_ap {f : List D → Option (List D)} {φ : DenL} {ρ : Rho} : dLL f φ ρ = bnd (φ ρ) (kLL f) := by
  unfold dLL
  cases φ ρ with
  | none => rfl
  | some p => rfl
def kLcE : List D × Rho → Option (D × Rho) := fun p => if p.1.length ≤ 16777216 then some (.lst p.1, p.2) else none
theorem kLcE_ap {ys : List D} {ρ : Rho} : kLcE (ys, ρ) = if ys.length ≤ 16777216 then some (.lst ys, ρ) else none := rfl
def kLc (γ : DenG) (tt : DenT) (te : Den) (own : List Nat) : List D × Rho → Option (D × Rho) := fun p => bnd (lcD γ tt te own p.1 p.2) kLcE
theorem kLc_ap {γ : DenG} {tt : DenT} {te : Den} {own : List Nat} {ds : List D} {ρ : Rho} : kLc γ tt te own (ds, ρ) = bnd (lcD γ tt te own ds ρ) kLcE := rfl
theorem dLc_ap {it : DenL} {γ : DenG} {tt : DenT} {te : Den} {own : List Nat} {ρ : Rho} : dLc it γ tt te own ρ = bnd (it ρ) (kLc γ tt te own) := by
  unfold dLc
  cases it ρ with
  | none => rfl
  | some p =>
    obtain ⟨ds, ρ1⟩ := p
    rw [bnd_s, kLc_ap]
    dsimp only
    cases lcD γ tt te own ds ρ1 with
    | none => rfl
    | some q => rfl
def kAtO (l : List D) (ρ : Rho) : D → Option (D × Rho)
  | .int k => kV (atI l k) ρ
  | _ => none
theorem kAtO_i {l : List D} {ρ : Rho} {k : Int} : kAtO l ρ (.int k) = kV (atI l k) ρ := rfl
def kAtS (ρ : Rho) (x : D) : Option Sl → Option (D × Rho)
  | some (.ow _ (.lst l)) => kAtO l ρ x
  | _ => none
theorem kAtS_o {ρ : Rho} {x : D} {t : Bool} {l : List D} : kAtS ρ x (some (.ow t (.lst l))) = kAtO l ρ x := rfl
def kAt (i : Nat) : D × Rho → Option (D × Rho) := fun p => kAtS p.2 p.1 p.2[i]?
theorem kAt_ap {i : Nat} {x : D} {ρ : Rho} : kAt i (x, ρ) = kAtS ρ x ρ[i]? := rfl
def kOw (i : Nat) (φ : Den) (ρ : Rho) : Option Sl → Option (D × Rho)
  | some (.ow _ _) => bnd (φ ρ) (kAt i)
  | _ => none
theorem kOw_o {i : Nat} {φ : Den} {ρ : Rho} {t : Bool} {d : D} : kOw i φ ρ (some (.ow t d)) = bnd (φ ρ) (kAt i) := rfl
theorem kOw_s {i : Nat} {φ : Den} {ρ : Rho} {d : D} : kOw i φ ρ (some (.sh d)) = none := rfl
theorem dAtO_ap {i : Nat} {φ : Den} {ρ : Rho} : dAtO i φ ρ = kOw i φ ρ ρ[i]? := by
  unfold dAtO kOw
  cases ρ[i]? with
  | none => rfl
  | some s =>
    cases s with
    | no => rfl
    | sh d => rfl
    | ow t d =>
      dsimp only
      cases φ ρ with
      | none => rfl
      | some p =>
        obtain ⟨x, ρ1⟩ := p
        rw [bnd_s, kAt_ap]
        cases h : ρ1[i]? with
        | none => cases x <;> simp [kAtS, h]
        | some u =>
          cases u with
          | no => cases x <;> simp [kAtS, h]
          | sh d => cases x <;> simp [kAtS, h]
          | ow t d =>
            cases x with
            | int k =>
              cases d with
              | lst l =>
                simp only [kAtS, kAtO, h]
                cases atI l k <;> rfl
              | _ => simp [kAtS, h]
            | _ => cases d <;> simp [kAtS, kAtO]
def kIo3 (i : Nat) (t : Bool) (ρ : Rho) : Option (D × D) → Option (D × Rho)
  | some (d, io) => some (d, ρ.set i (.ow t io))
  | none => none
theorem kIo3_s {i : Nat} {t : Bool} {ρ : Rho} {d io : D} : kIo3 i t ρ (some (d, io)) = some (d, ρ.set i (.ow t io)) := rfl
def kIo2 (i : Nat) (Φ : D → List D → Option (D × D)) (ds : List D) (ρ : Rho) : Option Sl → Option (D × Rho)
  | some (.ow t io) => kIo3 i t ρ (Φ io ds)
  | _ => none
theorem kIo2_o {i : Nat} {Φ : D → List D → Option (D × D)} {ds : List D} {ρ : Rho} {t : Bool} {io : D} : kIo2 i Φ ds ρ (some (.ow t io)) = kIo3 i t ρ (Φ io ds) := rfl
def kIo1 (i : Nat) (Φ : D → List D → Option (D × D)) : List D × Rho → Option (D × Rho) := fun p => kIo2 i Φ p.1 p.2 p.2[i]?
theorem kIo1_ap {i : Nat} {Φ : D → List D → Option (D × D)} {ds : List D} {ρ : Rho} : kIo1 i Φ (ds, ρ) = kIo2 i Φ ds ρ ρ[i]? := rfl
def kIo (i : Nat) (Φ : D → List D → Option (D × D)) (φ : DenL) (ρ : Rho) : Option Sl → Option (D × Rho)
  | some (.ow _ _) => bnd (φ ρ) (kIo1 i Φ)
  | _ => none
theorem kIo_o {i : Nat} {Φ : D → List D → Option (D × D)} {φ : DenL} {ρ : Rho} {t : Bool} {d : D} : kIo i Φ φ ρ (some (.ow t d)) = bnd (φ ρ) (kIo1 i Φ) := rfl
theorem dCio_ap {i : Nat} {Φ : D → List D → Option (D × D)} {φ : DenL} {ρ : Rho} : dCio i Φ φ ρ = kIo i Φ φ ρ ρ[i]? := by
  unfold dCio kIo
  cases ρ[i]? with
  | none => rfl
  | some s =>
    cases s with
    | no => rfl
    | sh d => rfl
    | ow t d =>
      dsimp only
      cases φ ρ with
      | none => rfl
      | some p =>
        obtain ⟨ds, ρ1⟩ := p
        rw [bnd_s, kIo1_ap]
        unfold kIo2
        dsimp only
        cases ρ1[i]? with
        | none => rfl
        | some u =>
          cases u with
          | no => rfl
          | sh d => rfl
          | ow t d =>
            dsimp only
            cases Φ d ds with
            | none => rfl
            | some q => rfl

/-! ### statements -/
def kSq (ψ : DenS) : Out → Option Out
  | .nx ρ => ψ ρ
  | o => some o
theorem kSq_n {ψ : DenS} {ρ : Rho} : kSq ψ (.nx ρ) = ψ ρ := rfl
theorem kSq_r {ψ : DenS} {d : D} {ρ : Rho} : kSq ψ (.rt d ρ) = some (.rt d ρ) := rfl
theorem sSeq_ap {φ ψ : DenS} {ρ : Rho} : sSeq φ ψ ρ = bnd (φ ρ) (kSq ψ) := by
  unfold sSeq
  cases φ ρ with
  | none => rfl
  | some o => cases o <;> rfl
theorem sNil_ap {ρ : Rho} : sNil ρ = some (.nx ρ) := rfl
def kRt : D × Rho → Option Out := fun p => some (.rt p.1 p.2)
theorem kRt_ap {d : D} {ρ : Rho} : kRt (d, ρ) = some (.rt d ρ) := rfl
theorem sRet_ap {φ : Den} {ρ : Rho} : sRet φ ρ = bnd (φ ρ) kRt := by
  unfold sRet
  cases φ ρ with
  | none => rfl
  | some o => rfl
def kRo : D × Rho → Option Out := fun p => some (.ro p.1 p.2)
theorem kRo_ap {d : D} {ρ : Rho} : kRo (d, ρ) = some (.ro d ρ) := rfl
theorem sRetO_ap {φ : Den} {ρ : Rho} : sRetO φ ρ = bnd (φ ρ) kRo := by
  unfold sRetO
  cases φ ρ with
  | none => rfl
  | some o => rfl
def kDr : D × Rho → Option Out := fun p => some (.nx p.2)
theorem kDr_ap {d : D} {ρ : Rho} : kDr (d, ρ) = some (.nx ρ) := rfl
theorem sDrop_ap {φ : Den} {ρ : Rho} : sDrop φ ρ = bnd (φ ρ) kDr := by
  unfold sDrop
  cases φ ρ with
  | none => rfl
  | some o => rfl
theorem sIf_ap {c : DenT} {φ ψ : DenS} {ρ : Rho} : sIf c φ ψ ρ = bnd (c ρ) (kIf φ ψ) := by
  unfold sIf
  cases c ρ with
  | none => rfl
  | some p =>
    obtain ⟨x, ρ1⟩ := p
    cases x <;> rfl
def kSet (i : Nat) : D × Rho → Option Out := fun p => if i < p.2.length then some (.nx (p.2.set i (.sh p.1))) else none
theorem kSet_ap {i : Nat} {d : D} {ρ : Rho} : kSet i (d, ρ) = if i < ρ.length then some (.nx (ρ.set i (.sh d))) else none := rfl
theorem sSet_ap {i : Nat} {φ : Den} {ρ : Rho} : sSet i φ ρ = bnd (φ ρ) (kSet i) := by
  unfold sSet
  cases φ ρ with
  | none => rfl
  | some p => rfl
def kSetO (i : Nat) : D × Rho → Option Out := fun p => if i < p.2.length then some (.nx (p.2.set i (.ow false p.1))) else none
theorem kSetO_ap {i : Nat} {d : D} {ρ : Rho} : kSetO i (d, ρ) = if i < ρ.length then some (.nx (ρ.set i (.ow false d))) else none := rfl
theorem sSetO_ap {i : Nat} {φ : Den} {ρ : Rho} : sSetO i φ ρ = bnd (φ ρ) (kSetO i) := by
  unfold sSetO
  cases φ ρ with
  | none => rfl
  | some p => rfl
def kPar (i j : Nat) : List D × Rho → Option Out
  | ([x, y], ρ) => if i < ρ.length ∧ j < ρ.length then some (.nx ((ρ.set i (.sh x)).set j (.sh y))) else none
  | _ => none
theorem kPar_ap {i j : Nat} {x y : D} {ρ : Rho} : kPar i j ([x, y], ρ) = if i < ρ.length ∧ j < ρ.length then some (.nx ((ρ.set i (.sh x)).set j (.sh y))) else none := rfl
theorem sPar_ap {i j : Nat} {φ : DenL} {ρ : Rho} : sPar i j φ ρ = bnd (φ ρ) (kPar i j) := by
  unfold sPar
  cases φ ρ with
  | none => rfl
  | some p =>
    obtain ⟨l, ρ1⟩ := p
    match l with
    | [] => rfl
    | [_] => rfl
    | [_, _] => rfl
    | _ :: _ :: _ :: _ => rfl
def kPar3 (i j k : Nat) : List D × Rho → Option Out
  | ([x, y, z], ρ) => if i < ρ.length ∧ j < ρ.length ∧ k < ρ.length then some (.nx (((ρ.set i (.sh x)).set j (.sh y)).set k (.sh z))) else none
  | _ => none
theorem kPar3_ap {i j k : Nat} {x y z : D} {ρ : Rho} : kPar3 i j k ([x, y, z], ρ) = if i < ρ.length ∧ j < ρ.length ∧ k < ρ.length then some (.nx (((ρ.set i (.sh x)).set j (.sh y)).set k (.sh z))) else none := rfl
theorem sPar3_ap {i j k : Nat} {φ : DenL} {ρ : Rho} : sPar3 i j k φ ρ = bnd (φ ρ) (kPar3 i j k) := by
  unfold sPar3
  cases φ ρ with
  | none => rfl
  | some p =>
    obtain ⟨l, ρ1⟩ := p
    match l with
    | [] => rfl
    | [_] => rfl
    | [_, _] => rfl
    | [_, _, _] => rfl
    | _ :: _ :: _ :: _ :: _ => rfl
def kNx : Option Rho → Option Out
  | some ρ => some (.nx ρ)
  | none => none
theorem kNx_s {ρ : Rho} : kNx (some ρ) = some (.nx ρ) := rfl
def kTg (γ : DenG) : D × Rho → Option Out := fun p => kNx (γ p.1 p.2)
theorem kTg_ap {γ : DenG} {d : D} {ρ : Rho} : kTg γ (d, ρ) = kNx (γ d ρ) := rfl
theorem sTgt_ap {φ : Den} {γ : DenG} {ρ : Rho} : sTgt φ γ ρ = bnd (φ ρ) (kTg γ) := by
  unfold sTgt
  cases φ ρ with
  | none => rfl
  | some p =>
    obtain ⟨d, ρ1⟩ := p
    rw [bnd_s, kTg_ap]
    dsimp only
    cases γ d ρ1 <;> rfl
theorem gN_ap {i : Nat} {d : D} {ρ : Rho} : gN i d ρ = if i < ρ.length then some (ρ.set i (.sh d)) else none := rfl
theorem gT_ap {δ : DenGs} {ds : List D} {ρ : Rho} : gT δ (.tup ds) ρ = δ ds ρ := rfl
theorem gsNil_ap {ρ : Rho} : gsNil [] ρ = some ρ := rfl
theorem gsCons_ap {γ : DenG} {δ : DenGs} {d : D} {ds : List D} {ρ : Rho} : gsCons γ δ (d :: ds) ρ = bnd (γ d ρ) (δ ds) := by
  unfold gsCons
  dsimp only
  cases γ d ρ <;> rfl
def kAu2 (i : Nat) (ρ : Rho) : Option D → Option Out
  | some z => if i < ρ.length then some (.nx (ρ.set i (.sh z))) else none
  | none => none
theorem kAu2_s {i : Nat} {ρ : Rho} {z : D} : kAu2 i ρ (some z) = if i < ρ.length then some (.nx (ρ.set i (.sh z))) else none := rfl
def kAu1 (i : Nat) (f : D → Option D) : D × Rho → Option Out := fun p => kAu2 i p.2 (f p.1)
theorem kAu1_ap {i : Nat} {f : D → Option D} {y : D} {ρ : Rho} : kAu1 i f (y, ρ) = kAu2 i ρ (f y) := rfl
def kAu (i : Nat) (f : D → D → Option D) (φ : Den) (ρ : Rho) : Option Sl → Option Out
  | some (.sh x) => bnd (φ ρ) (kAu1 i (f x))
  | _ => none
theorem kAu_s {i : Nat} {f : D → D → Option D} {φ : Den} {ρ : Rho} {x : D} : kAu i f φ ρ (some (.sh x)) = bnd (φ ρ) (kAu1 i (f x)) := rfl
theorem sAug_ap {i : Nat} {f : D → D → Option D} {φ : Den} {ρ : Rho} : sAug i f φ ρ = kAu i f φ ρ ρ[i]? := by
  unfold sAug kAu
  cases ρ[i]? with
  | none => rfl
  | some s =>
    cases s with
    | no => rfl
    | ow t d => rfl
    | sh x =>
      dsimp only
      cases φ ρ with
      | none => rfl
      | some p =>
        obtain ⟨y, ρ1⟩ := p
        rw [bnd_s, kAu1_ap]
        dsimp only
        cases f x y <;> rfl
def kEx2 (i : Nat) (m : List D) (ρ : Rho) : Option Sl → Option Out
  | some (.ow t (.lst l)) => if l.length + m.length ≤ 16777216 then some (.nx (ρ.set i (.ow t (.lst (l ++ m))))) else none
  | _ => none
theorem kEx2_o {i : Nat} {m l : List D} {ρ : Rho} {t : Bool} : kEx2 i m ρ (some (.ow t (.lst l))) = if l.length + m.length ≤ 16777216 then some (.nx (ρ.set i (.ow t (.lst (l ++ m))))) else none := rfl
def kEx1 (i : Nat) : D × Rho → Option Out
  | (.lst m, ρ) => kEx2 i m ρ ρ[i]?
  | _ => none
theorem kEx1_l {i : Nat} {m : List D} {ρ : Rho} : kEx1 i (.lst m, ρ) = kEx2 i m ρ ρ[i]? := rfl
def kEx (i : Nat) (φ : Den) (ρ : Rho) : Option Sl → Option Out
  | some (.ow _ (.lst _)) => bnd (φ ρ) (kEx1 i)
  | _ => none
theorem kEx_o {i : Nat} {φ : Den} {ρ : Rho} {t : Bool} {l : List D} : kEx i φ ρ (some (.ow t (.lst l))) = bnd (φ ρ) (kEx1 i) := rfl
theorem sExt_ap {i : Nat} {φ : Den} {ρ : Rho} : sExt i φ ρ = kEx i φ ρ ρ[i]? := by
  unfold sExt kEx
  cases ρ[i]? with
  | none => rfl
  | some s =>
    cases s with
    | no => rfl
    | sh d => rfl
    | ow t d =>
      cases d with
      | lst l =>
        dsimp only
        cases φ ρ with
        | none => rfl
        | some p =>
          obtain ⟨y, ρ1⟩ := p
          cases y with
          | lst m =>
            rw [bnd_s, kEx1_l]
            unfold kEx2
            dsimp only
            all_goals cases ρ1[i]? with
            | none => rfl
            | some u =>
              cases u with
              | ow t d => cases d <;> rfl
              | _ => rfl
          | _ => rfl
      | _ => rfl
def kAp2 (i : Nat) (d : D) (ρ : Rho) : Option Sl → Option Out
  | some (.ow t (.lst l)) => if l.length < 16777216 then some (.nx (ρ.set i (.ow t (.lst (l ++ [d]))))) else none
  | _ => none
theorem kAp2_o {i : Nat} {d : D} {l : List D} {ρ : Rho} {t : Bool} : kAp2 i d ρ (some (.ow t (.lst l))) = if l.length < 16777216 then some (.nx (ρ.set i (.ow t (.lst (l ++ [d]))))) else none := rfl
def kAp1 (i : Nat) : D × Rho → Option Out := fun p => kAp2 i p.1 p.2 p.2[i]?
theorem kAp1_ap {i : Nat} {d : D} {ρ : Rho} : kAp1 i (d, ρ) = kAp2 i d ρ ρ[i]? := rfl
def kAp (i : Nat) (φ : Den) (ρ : Rho) : Option Sl → Option Out
  | some (.ow _ (.lst _)) => bnd (φ ρ) (kAp1 i)
  | _ => none
theorem kAp_o {i : Nat} {φ : Den} {ρ : Rho} {t : Bool} {l : List D} : kAp i φ ρ (some (.ow t (.lst l))) = bnd (φ ρ) (kAp1 i) := rfl
theorem sApp_ap {i : Nat} {φ : Den} {ρ : Rho} : sApp i φ ρ = kAp i φ ρ ρ[i]? := by
  unfold sApp kAp
  cases ρ[i]? with
  | none => rfl
  | some s =>
    cases s with
    | no => rfl
    | sh d => rfl
    | ow t d =>
      cases d with
      | lst l =>
        dsimp only
        cases φ ρ with
        | none => rfl
        | some p =>
          obtain ⟨y, ρ1⟩ := p
          rw [bnd_s, kAp1_ap]
          unfold kAp2
          dsimp only
          all_goals cases ρ1[i]? with
          | none => rfl
          | some u =>
            cases u with
            | ow t d => cases d <;> rfl
            | _ => rfl
      | _ => rfl
def kSt4 (i : Nat) (t : Bool) (l : List D) (d : D) (ρ : Rho) : Option Nat → Option Out
  | some j => some (.nx (ρ.set i (.ow t (.lst (l.set j d)))))
  | none => none
theorem kSt4_s {i : Nat} {t : Bool} {l : List D} {d : D} {ρ : Rho} {j : Nat} : kSt4 i t l d ρ (some j) = some (.nx (ρ.set i (.ow t (.lst (l.set j d))))) := rfl
def kSt3 (i : Nat) (d : D) (k : Int) (ρ : Rho) : Option Sl → Option Out
  | some (.ow t (.lst l)) => kSt4 i t l d ρ (ixN l.length k)
  | _ => none
theorem kSt3_o {i : Nat} {d : D} {k : Int} {ρ : Rho} {t : Bool} {l : List D} : kSt3 i d k ρ (some (.ow t (.lst l))) = kSt4 i t l d ρ (ixN l.length k) := rfl
def kSt2 (i : Nat) (d : D) : D × Rho → Option Out
  | (.int k, ρ) => kSt3 i d k ρ ρ[i]?
  | _ => none
theorem kSt2_i {i : Nat} {d : D} {k : Int} {ρ : Rho} : kSt2 i d (.int k, ρ) = kSt3 i d k ρ ρ[i]? := rfl
def kSt1 (i : Nat) (ψ : Den) (d : D) (ρ : Rho) : Option Sl → Option Out
  | some (.ow _ _) => bnd (ψ ρ) (kSt2 i d)
  | _ => none
theorem kSt1_o {i : Nat} {ψ : Den} {d : D} {ρ : Rho} {t : Bool} {u : D} : kSt1 i ψ d ρ (some (.ow t u)) = bnd (ψ ρ) (kSt2 i d) := rfl
def kSt (i : Nat) (ψ : Den) : D × Rho → Option Out := fun p => kSt1 i ψ p.1 p.2 p.2[i]?
theorem kSt_ap {i : Nat} {ψ : Den} {d : D} {ρ : Rho} : kSt i ψ (d, ρ) = kSt1 i ψ d ρ ρ[i]? := rfl
theorem sSetAt_ap {i : Nat} {φ ψ : Den} {ρ : Rho} : sSetAt i φ ψ ρ = bnd (φ ρ) (kSt i ψ) := by
  unfold sSetAt
  cases φ ρ with
  | none => rfl
  | some p =>
    obtain ⟨d, ρ1⟩ := p
    rw [bnd_s, kSt_ap]
    dsimp only
    cases ρ1[i]? with
    | none => rfl
    | some s =>
      cases s with
      | no => rfl
      | sh d => rfl
      | ow t u =>
        rw [kSt1_o]
        dsimp only
        cases ψ ρ1 with
        | none => rfl
        | some q =>
          obtain ⟨k, ρ2⟩ := q
          rw [bnd_s]
          cases k with
          | int k =>
            rw [kSt2_i]
            unfold kSt3
            dsimp only
            cases ρ2[i]? with
            | none => rfl
            | some v =>
              cases v with
              | ow t2 e =>
                cases e with
                | lst l =>
                  dsimp only
                  cases ixN l.length k <;> rfl
                | _ => rfl
              | _ => rfl
          | _ => rfl
def kFor (γ : DenG) (body : DenS) : List D × Rho → Option Out := fun p => forD γ body p.1 p.2
theorem kFor_ap {γ : DenG} {body : DenS} {ds : List D} {ρ : Rho} : kFor γ body (ds, ρ) = forD γ body ds ρ := rfl
theorem sFor_ap {it : DenL} {γ : DenG} {body : DenS} {ρ : Rho} : sFor it γ body ρ = bnd (it ρ) (kFor γ body) := by
  unfold sFor
  cases it ρ with
  | none => rfl
  | some p => rfl
def kOutD : Out → Option D
  | .rt d _ => some d
  | .nx _ => some .non
  | _ => none
theorem kOutD_r {d : D} {ρ : Rho} : kOutD (.rt d ρ) = some d := rfl
theorem kOutD_n {ρ : Rho} : kOutD (.nx ρ) = some .non := rfl
theorem runD_ap {nN n : Nat} {φ : DenS} {ds : List D} : runD nN n φ ds = if ds.length = n then bnd (φ (startR nN ds)) kOutD else none := by
  unfold runD
  split
  · cases φ (startR nN ds) with
    | none => rfl
    | some o => cases o <;> rfl
  · rfl
def kOutN : Out → Option D
  | .ro d _ => some d
  | _ => none
theorem kOutN_r {d : D} {ρ : Rho} : kOutN (.ro d ρ) = some d := rfl
theorem runN_ap {nN n : Nat} {φ : DenS} {ds : List D} : DL.runN nN n φ ds = if ds.length = n then bnd (φ (startR nN ds)) kOutN else none := by
  unfold DL.runN
  split
  · cases φ (startR nN ds) with
    | none => rfl
    | some o => cases o <;> rfl
  · rfl
def kEnd (d : D) : Option Sl → Option (D × D)
  | some (.ow true io) => some (d, io)
  | _ => none
theorem kEnd_o {d io : D} : kEnd d (some (.ow true io)) = some (d, io) := rfl
def kOutI : Out → Option (D × D)
  | .rt d ρ => kEnd d ρ[(0 : Nat)]?
  | .nx ρ => kEnd .non ρ[(0 : Nat)]?
  | _ => none
theorem kOutI_r {d : D} {ρ : Rho} : kOutI (.rt d ρ) = kEnd d ρ[(0 : Nat)]? := rfl
theorem kOutI_n {ρ : Rho} : kOutI (.nx ρ) = kEnd .non ρ[(0 : Nat)]? := rfl
theorem runIO_ap {nN n : Nat} {φ : DenS} {io : D} {ds : List D} : runIO nN n φ io ds = if ds.length = n then bnd (φ (startIO nN io ds)) kOutI else none := by
  unfold runIO
  split
  · cases φ (startIO nN io ds) with
    | none => rfl
    | some o => cases o <;> rfl
  · rfl

theorem runD_1 {nN : Nat} {φ : DenS} {a : D} : runD nN 1 φ [a] = bnd (φ (startR nN [a])) kOutD := by rw [runD_ap]; rfl
theorem runD_2 {nN : Nat} {φ : DenS} {a b : D} : runD nN 2 φ [a, b] = bnd (φ (startR nN [a, b])) kOutD := by rw [runD_ap]; rfl
theorem runD_3 {nN : Nat} {φ : DenS} {a b c : D} : runD nN 3 φ [a, b, c] = bnd (φ (startR nN [a, b, c])) kOutD := by rw [runD_ap]; rfl
theorem runN_2 {nN : Nat} {φ : DenS} {a b : D} : DL.runN nN 2 φ [a, b] = bnd (φ (startR nN [a, b])) kOutN := by rw [runN_ap]; rfl
theorem runIO_0 {nN : Nat} {φ : DenS} {io : D} : runIO nN 0 φ io [] = bnd (φ (startIO nN io [])) kOutI := by rw [runIO_ap]; rfl
theorem runIO_1 {nN : Nat} {φ : DenS} {io a : D} : runIO nN 1 φ io [a] = bnd (φ (startIO nN io [a])) kOutI := by rw [runIO_ap]; rfl
/-- all steps in one -/
theorem evl :
    (∀ {α β : Type} {x : α} {k : α → Option β}, bnd (some x) k = k x) ∧
    (∀ {α β : Type} {k : α → Option β}, bnd none k = none) ∧
    (∀ {i : Nat} {ρ : Rho}, dV i ρ = vAt i ρ ρ[i]?) ∧
    (∀ {i : Nat} {ρ : Rho} {d : D}, vAt i ρ (some (.sh d)) = some (d, ρ)) ∧
    (∀ {i : Nat} {ρ : Rho} {d : D}, vAt i ρ (some (.ow false d)) = some (d, ρ.set i (.sh d))) ∧
    (∀ {d : D} {ρ : Rho}, d0 d ρ = some (d, ρ)) ∧
    (∀ {d : D} {ρ : Rho}, kV (some d) ρ = some (d, ρ)) ∧
    (∀ {ρ : Rho}, kV none ρ = none) ∧
    (∀ {f : D → Option D} {x : D} {ρ : Rho}, kF f (x, ρ) = kV (f x) ρ) ∧
    (∀ {f : D → Option D} {φ : Den} {ρ : Rho}, d1 f φ ρ = bnd (φ ρ) (kF f)) ∧
    (∀ {f : D → D → Option D} {ψ : Den} {x : D} {ρ : Rho}, k2 f ψ (x, ρ) = bnd (ψ ρ) (kF (f x))) ∧
    (∀ {f : D → D → Option D} {φ ψ : Den} {ρ : Rho}, d2 f φ ψ ρ = bnd (φ ρ) (k2 f ψ)) ∧
    (∀ {b : Bool} {ρ : Rho}, kBl (.bl b, ρ) = some (b, ρ)) ∧
    (∀ {φ : Den} {ρ : Rho}, dBl φ ρ = bnd (φ ρ) kBl) ∧
    (∀ {ψ : DenT} {b : Bool} {ρ : Rho}, kAndT ψ (b, ρ) = if b = true then ψ ρ else some (false, ρ)) ∧
    (∀ {φ ψ : DenT} {ρ : Rho}, dAndT φ ψ ρ = bnd (φ ρ) (kAndT ψ)) ∧
    (∀ {ψ : DenT} {b : Bool} {ρ : Rho}, kOrT ψ (b, ρ) = if b = true then some (true, ρ) else ψ ρ) ∧
    (∀ {φ ψ : DenT} {ρ : Rho}, dOrT φ ψ ρ = bnd (φ ρ) (kOrT ψ)) ∧
    (∀ {b : Bool} {ρ : Rho}, kNotT (b, ρ) = some (!b, ρ)) ∧
    (∀ {φ : DenT} {ρ : Rho}, dNotT φ ρ = bnd (φ ρ) kNotT) ∧
    (∀ {α : Type} {φ ψ : Rho → Option α} {b : Bool} {ρ : Rho}, kIf φ ψ (b, ρ) = if b = true then φ ρ else ψ ρ) ∧
    (∀ {c : DenT} {φ ψ : Den} {ρ : Rho}, dIf c φ ψ ρ = bnd (c ρ) (kIf φ ψ)) ∧
    (∀ {ψ : Den} {b : Bool} {ρ : Rho}, kAndV ψ (.bl b, ρ) = if b = true then ψ ρ else some (.bl false, ρ)) ∧
    (∀ {φ ψ : Den} {ρ : Rho}, dAndV φ ψ ρ = bnd (φ ρ) (kAndV ψ)) ∧
    (∀ {ψ : Den} {b : Bool} {ρ : Rho}, kOrV ψ (.bl b, ρ) = if b = true then some (.bl true, ρ) else ψ ρ) ∧
    (∀ {φ ψ : Den} {ρ : Rho}, dOrV φ ψ ρ = bnd (φ ρ) (kOrV ψ)) ∧
    (∀ {ρ : Rho}, dNil ρ = some ([], ρ)) ∧
    (∀ {x : D} {l : List D} {ρ : Rho}, kApp x (l, ρ) = some (x :: l, ρ)) ∧
    (∀ {ψ : DenL} {x : D} {ρ : Rho}, kCons ψ (x, ρ) = bnd (ψ ρ) (kApp x)) ∧
    (∀ {φ : Den} {ψ : DenL} {ρ : Rho}, dCons φ ψ ρ = bnd (φ ρ) (kCons ψ)) ∧
    (∀ {f : List D → Option D} {l : List D} {ρ : Rho}, kC f (l, ρ) = kV (f l) ρ) ∧
    (∀ {f : List D → Option D} {φ : DenL} {ρ : Rho}, dC f φ ρ = bnd (φ ρ) (kC f)) ∧
    (∀ {α : Type} {ψ : Rho → Option α} {ρ : Rho} {z : α}, alt ψ ρ (some z) = some z) ∧
    (∀ {α : Type} {ψ : Rho → Option α} {ρ : Rho}, alt ψ ρ none = ψ ρ) ∧
    (∀ {α : Type} {φ ψ : Rho → Option α} {ρ : Rho}, dAlt φ ψ ρ = alt ψ ρ (φ ρ)) ∧
    (∀ {φ ψ : Den} {ρ : Rho}, dAdd φ ψ ρ = alt (dAlt (d2 addS φ ψ) (d2 addL φ ψ)) ρ (d2 addI φ ψ ρ)) ∧
    (∀ {φ ψ : Den} {ρ : Rho}, dMul φ ψ ρ = alt (d2 repL φ ψ) ρ (d2 mulI φ ψ ρ)) ∧
    (∀ {φ ψ : Den} {ρ : Rho}, dIn φ ψ ρ = alt (dAlt (d2 inDk φ ψ) (d2 inLst φ ψ)) ρ (d2 inSign φ ψ ρ)) ∧
    (∀ {i : Nat} {φ : Den} {ρ : Rho}, dAtN i φ ρ = alt (d2 ixD (dV i) φ) ρ (dAtO i φ ρ)) ∧
    (∀ {f' : D → D → Option D} {y : D} {χ : Den} {ρ : Rho} {b : Bool}, kCh2 f' y χ ρ (some (.bl b)) = if b = true then bnd (χ ρ) (kF (f' y)) else some (.bl false, ρ)) ∧
    (∀ {f f' : D → D → Option D} {x y : D} {χ : Den} {ρ : Rho}, kCh1 f f' x χ (y, ρ) = kCh2 f' y χ ρ (f x y)) ∧
    (∀ {f f' : D → D → Option D} {ψ χ : Den} {x : D} {ρ : Rho}, kCh f f' ψ χ (x, ρ) = bnd (ψ ρ) (kCh1 f f' x χ)) ∧
    (∀ {f f' : D → D → Option D} {φ ψ χ : Den} {ρ : Rho}, dChain f f' φ ψ χ ρ = bnd (φ ρ) (kCh f f' ψ χ)) ∧
    (∀ {ρ : Rho}, pNone ρ = some (none, ρ)) ∧
    (∀ {i : Int} {ρ : Rho}, kP (.int i, ρ) = some (some i, ρ)) ∧
    (∀ {φ : Den} {ρ : Rho}, pSome φ ρ = bnd (φ ρ) kP) ∧
    (∀ {x : D} {lo hi : Option Int} {ρ : Rho}, kSl2 x lo (hi, ρ) = kV (slD x lo hi) ρ) ∧
    (∀ {x : D} {hi : DenP} {lo : Option Int} {ρ : Rho}, kSl1 x hi (lo, ρ) = bnd (hi ρ) (kSl2 x lo)) ∧
    (∀ {lo hi : DenP} {x : D} {ρ : Rho}, kSl lo hi (x, ρ) = bnd (lo ρ) (kSl1 x hi)) ∧
    (∀ {φ : Den} {lo hi : DenP} {ρ : Rho}, dSl φ lo hi ρ = bnd (φ ρ) (kSl lo hi)) ∧
    (∀ {f : D → Option (List D)} {φ : Den} {ρ : Rho}, dL f φ ρ = bnd (φ ρ) (kL f)) ∧
    (∀ {d : List D} {ρ : Rho}, kVL (some d) ρ = some (d, ρ)) ∧
    (∀ {f : D → Option (List D)} {x : D} {ρ : Rho}, kL f (x, ρ) = kVL (f x) ρ) ∧
    (∀ {f : List D → Option (List D)} {l : List D} {ρ : Rho}, kLL f (l, ρ) = kVL (f l) ρ) ∧
    (∀ {f : List D → Option (List D)} {φ : DenL} {ρ : Rho}, dLL f φ ρ = bnd (φ ρ) (kLL f)) ∧
    (∀ {ys : List D} {ρ : Rho}, kLcE (ys, ρ) = if ys.length ≤ 16777216 then some (.lst ys, ρ) else none) ∧
    (∀ {γ : DenG} {tt : DenT} {te : Den} {own : List Nat} {ds : List D} {ρ : Rho}, kLc γ tt te own (ds, ρ) = bnd (lcD γ tt te own ds ρ) kLcE) ∧
    (∀ {it : DenL} {γ : DenG} {tt : DenT} {te : Den} {own : List Nat} {ρ : Rho}, dLc it γ tt te own ρ = bnd (it ρ) (kLc γ tt te own)) ∧
    (∀ {l : List D} {ρ : Rho} {k : Int}, kAtO l ρ (.int k) = kV (atI l k) ρ) ∧
    (∀ {ρ : Rho} {x : D} {t : Bool} {l : List D}, kAtS ρ x (some (.ow t (.lst l))) = kAtO l ρ x) ∧
    (∀ {i : Nat} {x : D} {ρ : Rho}, kAt i (x, ρ) = kAtS ρ x ρ[i]?) ∧
    (∀ {i : Nat} {φ : Den} {ρ : Rho} {t : Bool} {d : D}, kOw i φ ρ (some (.ow t d)) = bnd (φ ρ) (kAt i)) ∧
    (∀ {i : Nat} {φ : Den} {ρ : Rho} {d : D}, kOw i φ ρ (some (.sh d)) = none) ∧
    (∀ {i : Nat} {φ : Den} {ρ : Rho}, dAtO i φ ρ = kOw i φ ρ ρ[i]?) ∧
    (∀ {i : Nat} {t : Bool} {ρ : Rho} {d io : D}, kIo3 i t ρ (some (d, io)) = some (d, ρ.set i (.ow t io))) ∧
    (∀ {i : Nat} {Φ : D → List D → Option (D × D)} {ds : List D} {ρ : Rho} {t : Bool} {io : D}, kIo2 i Φ ds ρ (some (.ow t io)) = kIo3 i t ρ (Φ io ds)) ∧
    (∀ {i : Nat} {Φ : D → List D → Option (D × D)} {ds : List D} {ρ : Rho}, kIo1 i Φ (ds, ρ) = kIo2 i Φ ds ρ ρ[i]?) ∧
    (∀ {i : Nat} {Φ : D → List D → Option (D × D)} {φ : DenL} {ρ : Rho} {t : Bool} {d : D}, kIo i Φ φ ρ (some (.ow t d)) = bnd (φ ρ) (kIo1 i Φ)) ∧
    (∀ {i : Nat} {Φ : D → List D → Option (D × D)} {φ : DenL} {ρ : Rho}, dCio i Φ φ ρ = kIo i Φ φ ρ ρ[i]?) ∧
    (∀ {ψ : DenS} {ρ : Rho}, kSq ψ (.nx ρ) = ψ ρ) ∧
    (∀ {ψ : DenS} {d : D} {ρ : Rho}, kSq ψ (.rt d ρ) = some (.rt d ρ)) ∧
    (∀ {φ ψ : DenS} {ρ : Rho}, sSeq φ ψ ρ = bnd (φ ρ) (kSq ψ)) ∧
    (∀ {ρ : Rho}, sNil ρ = some (.nx ρ)) ∧
    (∀ {d : D} {ρ : Rho}, kRt (d, ρ) = some (.rt d ρ)) ∧
    (∀ {φ : Den} {ρ : Rho}, sRet φ ρ = bnd (φ ρ) kRt) ∧
    (∀ {d : D} {ρ : Rho}, kRo (d, ρ) = some (.ro d ρ)) ∧
    (∀ {φ : Den} {ρ : Rho}, sRetO φ ρ = bnd (φ ρ) kRo) ∧
    (∀ {d : D} {ρ : Rho}, kDr (d, ρ) = some (.nx ρ)) ∧
    (∀ {φ : Den} {ρ : Rho}, sDrop φ ρ = bnd (φ ρ) kDr) ∧
    (∀ {c : DenT} {φ ψ : DenS} {ρ : Rho}, sIf c φ ψ ρ = bnd (c ρ) (kIf φ ψ)) ∧
    (∀ {i : Nat} {d : D} {ρ : Rho}, kSet i (d, ρ) = if i < ρ.length then some (.nx (ρ.set i (.sh d))) else none) ∧
    (∀ {i : Nat} {φ : Den} {ρ : Rho}, sSet i φ ρ = bnd (φ ρ) (kSet i)) ∧
    (∀ {i : Nat} {d : D} {ρ : Rho}, kSetO i (d, ρ) = if i < ρ.length then some (.nx (ρ.set i (.ow false d))) else none) ∧
    (∀ {i : Nat} {φ : Den} {ρ : Rho}, sSetO i φ ρ = bnd (φ ρ) (kSetO i)) ∧
    (∀ {i j : Nat} {x y : D} {ρ : Rho}, kPar i j ([x, y], ρ) = if i < ρ.length ∧ j < ρ.length then some (.nx ((ρ.set i (.sh x)).set j (.sh y))) else none) ∧
    (∀ {i j : Nat} {φ : DenL} {ρ : Rho}, sPar i j φ ρ = bnd (φ ρ) (kPar i j)) ∧
    (∀ {i j k : Nat} {x y z : D} {ρ : Rho}, kPar3 i j k ([x, y, z], ρ) = if i < ρ.length ∧ j < ρ.length ∧ k < ρ.length then some (.nx (((ρ.set i (.sh x)).set j (.sh y)).set k (.sh z))) else none) ∧
    (∀ {i j k : Nat} {φ : DenL} {ρ : Rho}, sPar3 i j k φ ρ = bnd (φ ρ) (kPar3 i j k)) ∧
    (∀ {ρ : Rho}, kNx (some ρ) = some (.nx ρ)) ∧
    (∀ {γ : DenG} {d : D} {ρ : Rho}, kTg γ (d, ρ) = kNx (γ d ρ)) ∧
    (∀ {φ : Den} {γ : DenG} {ρ : Rho}, sTgt φ γ ρ = bnd (φ ρ) (kTg γ)) ∧
    (∀ {i : Nat} {d : D} {ρ : Rho}, gN i d ρ = if i < ρ.length then some (ρ.set i (.sh d)) else none) ∧
    (∀ {δ : DenGs} {ds : List D} {ρ : Rho}, gT δ (.tup ds) ρ = δ ds ρ) ∧
    (∀ {ρ : Rho}, gsNil [] ρ = some ρ) ∧
    (∀ {γ : DenG} {δ : DenGs} {d : D} {ds : List D} {ρ : Rho}, gsCons γ δ (d :: ds) ρ = bnd (γ d ρ) (δ ds)) ∧
    (∀ {i : Nat} {ρ : Rho} {z : D}, kAu2 i ρ (some z) = if i < ρ.length then some (.nx (ρ.set i (.sh z))) else none) ∧
    (∀ {i : Nat} {f : D → Option D} {y : D} {ρ : Rho}, kAu1 i f (y, ρ) = kAu2 i ρ (f y)) ∧
    (∀ {i : Nat} {f : D → D → Option D} {φ : Den} {ρ : Rho} {x : D}, kAu i f φ ρ (some (.sh x)) = bnd (φ ρ) (kAu1 i (f x))) ∧
    (∀ {i : Nat} {f : D → D → Option D} {φ : Den} {ρ : Rho}, sAug i f φ ρ = kAu i f φ ρ ρ[i]?) ∧
    (∀ {i : Nat} {m l : List D} {ρ : Rho} {t : Bool}, kEx2 i m ρ (some (.ow t (.lst l))) = if l.length + m.length ≤ 16777216 then some (.nx (ρ.set i (.ow t (.lst (l ++ m))))) else none) ∧
    (∀ {i : Nat} {m : List D} {ρ : Rho}, kEx1 i (.lst m, ρ) = kEx2 i m ρ ρ[i]?) ∧
    (∀ {i : Nat} {φ : Den} {ρ : Rho} {t : Bool} {l : List D}, kEx i φ ρ (some (.ow t (.lst l))) = bnd (φ ρ) (kEx1 i)) ∧
    (∀ {i : Nat} {φ : Den} {ρ : Rho}, sExt i φ ρ = kEx i φ ρ ρ[i]?) ∧
    (∀ {i : Nat} {d : D} {l : List D} {ρ : Rho} {t : Bool}, kAp2 i d ρ (some (.ow t (.lst l))) = if l.length < 16777216 then some (.nx (ρ.set i (.ow t (.lst (l ++ [d]))))) else none) ∧
    (∀ {i : Nat} {d : D} {ρ : Rho}, kAp1 i (d, ρ) = kAp2 i d ρ ρ[i]?) ∧
    (∀ {i : Nat} {φ : Den} {ρ : Rho} {t : Bool} {l : List D}, kAp i φ ρ (some (.ow t (.lst l))) = bnd (φ ρ) (kAp1 i)) ∧
    (∀ {i : Nat} {φ : Den} {ρ : Rho}, sApp i φ ρ = kAp i φ ρ ρ[i]?) ∧
    (∀ {i : Nat} {t : Bool} {l : List D} {d : D} {ρ : Rho} {j : Nat}, kSt4 i t l d ρ (some j) = some (.nx (ρ.set i (.ow t (.lst (l.set j d)))))) ∧
    (∀ {i : Nat} {d : D} {k : Int} {ρ : Rho} {t : Bool} {l : List D}, kSt3 i d k ρ (some (.ow t (.lst l))) = kSt4 i t l d ρ (ixN l.length k)) ∧
    (∀ {i : Nat} {d : D} {k : Int} {ρ : Rho}, kSt2 i d (.int k, ρ) = kSt3 i d k ρ ρ[i]?) ∧
    (∀ {i : Nat} {ψ : Den} {d : D} {ρ : Rho} {t : Bool} {u : D}, kSt1 i ψ d ρ (some (.ow t u)) = bnd (ψ ρ) (kSt2 i d)) ∧
    (∀ {i : Nat} {ψ : Den} {d : D} {ρ : Rho}, kSt i ψ (d, ρ) = kSt1 i ψ d ρ ρ[i]?) ∧
    (∀ {i : Nat} {φ ψ : Den} {ρ : Rho}, sSetAt i φ ψ ρ = bnd (φ ρ) (kSt i ψ)) ∧
    (∀ {γ : DenG} {body : DenS} {ds : List D} {ρ : Rho}, kFor γ body (ds, ρ) = forD γ body ds ρ) ∧
    (∀ {it : DenL} {γ : DenG} {body : DenS} {ρ : Rho}, sFor it γ body ρ = bnd (it ρ) (kFor γ body)) ∧
    (∀ {d : D} {ρ : Rho}, kOutD (.rt d ρ) = some d) ∧
    (∀ {ρ : Rho}, kOutD (.nx ρ) = some .non) ∧
    (∀ {d : D} {ρ : Rho}, kOutN (.ro d ρ) = some d) ∧
    (∀ {d io : D}, kEnd d (some (.ow true io)) = some (d, io)) ∧
    (∀ {d : D} {ρ : Rho}, kOutI (.rt d ρ) = kEnd d ρ[(0 : Nat)]?) ∧
    (∀ {ρ : Rho}, kOutI (.nx ρ) = kEnd .non ρ[(0 : Nat)]?) :=
  ⟨bnd_s, bnd_n, dV_ap, vAt_s, vAt_o, d0_ap, kV_s, kV_n, kF_ap, d1_ap, k2_ap, d2_ap, kBl_b, dBl_ap, kAndT_ap, dAndT_ap, kOrT_ap, dOrT_ap, kNotT_ap, dNotT_ap, kIf_ap, dIf_ap, kAndV_b, dAndV_ap, kOrV_b, dOrV_ap, dNil_ap, kApp_ap, kCons_ap, dCons_ap, kC_ap, dC_ap, alt_s, alt_n, dAlt_ap, dAdd_ap, dMul_ap, dIn_ap, dAtN_ap, kCh2_b, kCh1_ap, kCh_ap, dChain_ap, pNone_ap, kP_i, pSome_ap, kSl2_ap, kSl1_ap, kSl_ap, dSl_ap, dL_ap, kVL_s, kL_v, kLL_ap, dLL_ap, kLcE_ap, kLc_ap, dLc_ap, kAtO_i, kAtS_o, kAt_ap, kOw_o, kOw_s, dAtO_ap, kIo3_s, kIo2_o, kIo1_ap, kIo_o, dCio_ap, kSq_n, kSq_r, sSeq_ap, sNil_ap, kRt_ap, sRet_ap, kRo_ap, sRetO_ap, kDr_ap, sDrop_ap, sIf_ap, kSet_ap, sSet_ap, kSetO_ap, sSetO_ap, kPar_ap, sPar_ap, kPar3_ap, sPar3_ap, kNx_s, kTg_ap, sTgt_ap, gN_ap, gT_ap, gsNil_ap, gsCons_ap, kAu2_s, kAu1_ap, kAu_s, sAug_ap, kEx2_o, kEx1_l, kEx_o, sExt_ap, kAp2_o, kAp1_ap, kAp_o, sApp_ap, kSt4_s, kSt3_o, kSt2_i, kSt1_o, kSt_ap, sSetAt_ap, kFor_ap, sFor_ap, kOutD_r, kOutD_n, kOutN_r, kEnd_o, kOutI_r, kOutI_n⟩

/-! ### loops -/
theorem forD_list {α σ : Type} {γ : DenG} {body : DenS} {f : α → D} (R : σ → Rho → Prop) (step : σ → α → σ) : ∀ (xs : List α) (s : σ) (ρ : Rho), R s ρ →
    (∀ x ∈ xs, ∀ s ρ, R s ρ → ∃ ρ1 ρ2, γ (f x) ρ = some ρ1 ∧ body ρ1 = some (.nx ρ2) ∧ R (step s x) ρ2) → ∃ ρ', forD γ body (xs.map f) ρ = some (.nx ρ') ∧ R (xs.foldl step s) ρ'
  | [], s, ρ, h, _ => ⟨ρ, rfl, h⟩
  | x :: xs, s, ρ, h, st => by
    obtain ⟨ρ1, ρ2, e1, e2, h2⟩ := st x List.mem_cons_self s ρ h
    obtain ⟨ρ', e, h3⟩ := forD_list R step xs (step s x) ρ2 h2 fun y hy => st y (List.mem_cons_of_mem _ hy)
    refine ⟨ρ', ?_, h3⟩
    rw [List.map_cons, forD, e1]
    dsimp only
    rw [e2]
    exact e
theorem lcD_map {α : Type} {γ : DenG} {tt : DenT} {te : Den} {own : List Nat} {f g : α → D} {p : α → Bool} {ρ : Rho} (ok : ownOk ρ own = true) : ∀ (xs : List α),
    (∀ x ∈ xs, ∃ ρ1 ρ2, γ (f x) (wipeR ρ own) = some ρ1 ∧ tt ρ1 = some (p x, ρ2) ∧ (p x = false → back ρ ρ2 own = ρ) ∧ (p x = true → ∃ ρ3, te ρ2 = some (g x, ρ3) ∧ back ρ ρ3 own = ρ)) →
    lcD γ tt te own (xs.map f) ρ = some ((xs.filter p).map g, ρ)
  | [], _ => rfl
  | x :: xs, h => by
    obtain ⟨ρ1, ρ2, e1, e2, hf, ht⟩ := h x List.mem_cons_self
    have ih := lcD_map ok xs fun y hy => h y (List.mem_cons_of_mem _ hy)
    rw [List.map_cons, lcD, if_pos ok, e1]
    dsimp only
    rw [e2]
    cases hp : p x with
    | true =>
      obtain ⟨ρ3, e3, e4⟩ := ht hp
      dsimp only
      rw [e3]
      dsimp only
      rw [e4, ih, List.filter_cons, if_pos hp, List.map_cons]
    | false =>
      dsimp only
      rw [hf hp, ih, List.filter_cons, if_neg (by rw [hp]; decide)]

theorem lcD_all {α : Type} {γ : DenG} {te : Den} {own : List Nat} {f g : α → D} {ρ : Rho} (ok : ownOk ρ own = true) (xs : List α)
    (h : ∀ x ∈ xs, ∃ ρ1 ρ3, γ (f x) (wipeR ρ own) = some ρ1 ∧ te ρ1 = some (g x, ρ3) ∧ back ρ ρ3 own = ρ) : lcD γ tYesD te own (xs.map f) ρ = some (xs.map g, ρ) := by
  have := lcD_map (γ := γ) (tt := tYesD) (te := te) (f := f) (g := g) (p := fun _ => true) ok xs fun x hx => by
    obtain ⟨ρ1, ρ3, e1, e2, e3⟩ := h x hx
    exact ⟨ρ1, ρ1, e1, rfl, fun z => Bool.noConfusion z, fun _ => ⟨ρ3, e2, e3⟩⟩
  rw [this, List.filter_eq_self.mpr fun _ _ => rfl]
end DLP

/-! The plain law, part 1: what the defs answer. -/
namespace DLP
open PySem PySem.Spec PyProof.Rows L2 RZ DL

def sgs : Tx := [97, 98, 99, 100, 101]
theorem kit_ss : kitB "str" "str" = some true := by decide +kernel
theorem kit_ii : kitB "int" "int" = some true := by decide +kernel
theorem kit_ib : kitB "int" "bool" = some false := by decide +kernel
theorem kit_tt : kitB "tuple" "tuple" = some true := by decide +kernel
theorem isi_ss (w : Tx) : isiT "str" (.str w) = some (.bl true) := congrArg (Option.map D.bl) kit_ss
theorem isi_ii (i : Int) : isiT "int" (.int i) = some (.bl true) := congrArg (Option.map D.bl) kit_ii
theorem isi_ib (i : Int) : isiT "bool" (.int i) = some (.bl false) := congrArg (Option.map D.bl) kit_ib
theorem isi_tt (l : List D) : isiT "tuple" (.tup l) = some (.bl true) := congrArg (Option.map D.bl) kit_tt

/-! ### == -/
def Ok (w : Tx) : Prop := ∀ c ∈ w, c < 1114112
theorem ok_str {w : Tx} (h : Ok w) : PyData.strOk (S w) = true := by
  unfold Ok at h
  unfold PyData.strOk S
  simpa using h
theorem sh_int (i : Int) : SeqAt.shaped (.int i) = true := by simp [SeqAt.shaped, PyData.canLay0, PyData.depth]
theorem sh_str {w : Tx} (h : Ok w) : SeqAt.shaped (.str (S w)) = true := by simp [SeqAt.shaped, PyData.canLay0, PyData.depth, ok_str h]
theorem toPys_strs : ∀ ws : List Tx, toPys (ws.map .str) = some (ws.map fun w => .str (S w))
  | [] => rfl
  | w :: ws => by rw [List.map_cons, toPys, toPy, toPys_strs ws]; rfl
theorem lay_strs : ∀ {ws : List Tx}, (∀ w ∈ ws, Ok w) → PyData.canLayAll0 (ws.map fun w => PyData.str (S w)) = true
  | [], _ => by simp [PyData.canLayAll0]
  | w :: ws, h => by rw [List.map_cons, PyData.canLayAll0, lay_strs fun v hv => h v (List.mem_cons_of_mem _ hv)]; simp [PyData.canLay0, ok_str (h w List.mem_cons_self)]
theorem dep_strs : ∀ ws : List Tx, PyData.depthAll (ws.map fun w => PyData.str (S w)) = 0
  | [] => by simp [PyData.depthAll]
  | w :: ws => by rw [List.map_cons, PyData.depthAll, dep_strs ws]; simp [PyData.depth]
theorem sh_tup {ws : List Tx} (h : ∀ w ∈ ws, Ok w) : SeqAt.shaped (.tuple (ws.map fun w => .str (S w))) = true := by
  simp [SeqAt.shaped, PyData.canLay0, PyData.depth, lay_strs h, dep_strs]
theorem sh_lst {ws : List Tx} (h : ∀ w ∈ ws, Ok w) : SeqAt.shaped (.list (ws.map fun w => .str (S w))) = true := by
  simp [SeqAt.shaped, PyData.canLay0, PyData.depth, lay_strs h, dep_strs]
theorem eqv_strs : ∀ ws vs : List Tx, PyData.eqvAll (ws.map fun w => PyData.str (S w)) (vs.map fun w => PyData.str (S w)) = decide (ws = vs)
  | [], [] => by simp [PyData.eqvAll]
  | [], _ :: _ => by simp [PyData.eqvAll]
  | _ :: _, [] => by simp [PyData.eqvAll]
  | w :: ws, v :: vs => by
    rw [List.map_cons, List.map_cons, PyData.eqvAll, eqv_strs ws vs]
    by_cases h : w = v
    · subst h; simp [PyData.eqv]
    · have : ¬ S w = S v := fun z => h (S_inj z)
      simp [PyData.eqv, this, h]
theorem eqv_ss (s t : Tx) : PyData.eqv (.str (S s)) (.str (S t)) = decide (s = t) := by
  by_cases h : s = t
  · subst h; simp [PyData.eqv]
  · have : ¬ S s = S t := fun z => h (S_inj z)
    simp [PyData.eqv, this, h]
theorem eq_ii (i j : Int) : eqD (.int i) (.int j) = some (.bl (decide (i = j))) := by
  unfold eqD
  simp only [toPy, sh_int, and_self, if_true]
  rfl
theorem ne_ii (i j : Int) : neD (.int i) (.int j) = some (.bl (!decide (i = j))) := by
  unfold neD
  simp only [toPy, sh_int, and_self, if_true]
  rfl
theorem eq_ss {s t : Tx} (hs : Ok s) (ht : Ok t) : eqD (.str s) (.str t) = some (.bl (decide (s = t))) := by
  unfold eqD
  simp only [toPy, sh_str hs, sh_str ht, and_self, if_true, eqv_ss]
theorem ne_ss {s t : Tx} (hs : Ok s) (ht : Ok t) : neD (.str s) (.str t) = some (.bl (!decide (s = t))) := by
  unfold neD
  simp only [toPy, sh_str hs, sh_str ht, and_self, if_true, eqv_ss]
theorem ne_tt {ws vs : List Tx} (h : ∀ w ∈ ws, Ok w) (h' : ∀ w ∈ vs, Ok w) : neD (.tup (ws.map .str)) (.tup (vs.map .str)) = some (.bl (!decide (ws = vs))) := by
  unfold neD
  simp only [toPy, toPys_strs, sh_tup h, sh_tup h', and_self, if_true, PyData.eqv, eqv_strs]
theorem ne_ll {ws vs : List Tx} (h : ∀ w ∈ ws, Ok w) (h' : ∀ w ∈ vs, Ok w) : neD (.lst (ws.map .str)) (.lst (vs.map .str)) = some (.bl (!decide (ws = vs))) := by
  unfold neD
  simp only [toPy, toPys_strs, sh_lst h, sh_lst h', and_self, if_true, PyData.eqv, eqv_strs]
theorem eq_ll {ws vs : List Tx} (h : ∀ w ∈ ws, Ok w) (h' : ∀ w ∈ vs, Ok w) : eqD (.lst (ws.map .str)) (.lst (vs.map .str)) = some (.bl (decide (ws = vs))) := by
  unfold eqD
  simp only [toPy, toPys_strs, sh_lst h, sh_lst h', and_self, if_true, PyData.eqv, eqv_strs]

/-! ### cuts -/
theorem cut_to {α : Type} (l : List α) (k : Nat) : DL.cutD l none (some (k : Int)) = l.take k := by
  unfold DL.cutD
  rw [HT.sIx_none, HT.sIx_nat]
  simp
theorem cut_from {α : Type} (l : List α) (k : Nat) : DL.cutD l (some (k : Int)) none = l.drop k := by
  unfold DL.cutD
  rw [HT.sIx_none, HT.sIx_nat]
  by_cases h : k ≤ l.length
  · rw [Nat.min_eq_left h, List.take_of_length_le]
    rw [List.length_drop]
    exact Nat.le_refl _
  · have : l.length ≤ k := by omega
    rw [Nat.min_eq_right this, List.drop_eq_nil_of_le this]
    simp
theorem cast1 (k : Nat) : (k : Int) + 1 = ((k + 1 : Nat) : Int) := rfl
theorem sl_to (w : Tx) (k : Nat) (h : w.length ≤ 16777216) : slD (.str w) none (some (k : Int)) = some (.str (w.take k)) := by
  show (if w.length ≤ 16777216 then some (D.str (DL.cutD w none (some (k : Int)))) else none) = _
  rw [if_pos h, cut_to]
theorem sl_from (w : Tx) (k : Nat) (h : w.length ≤ 16777216) : slD (.str w) (some (k : Int)) none = some (.str (w.drop k)) := by
  show (if w.length ≤ 16777216 then some (D.str (DL.cutD w (some (k : Int)) none)) else none) = _
  rw [if_pos h, cut_from]
theorem sl_from1 (w : Tx) (k : Nat) (h : w.length ≤ 16777216) : slD (.str w) (some ((k : Int) + 1)) none = some (.str (w.drop (k + 1))) := by
  rw [cast1]
  exact sl_from w (k + 1) h

/-! ### the judges -/
theorem r_is_word (w : Tx) (h : w.length ≤ 16777216) : runD 2 1 m_is_word [.str w] = some (.bl (w.all fun c => decide (c ∈ sgs))) := by
  have key : lcD (gN 1) tYesD (dIn (dV 1) (d0 (.str [97, 98, 99, 100, 101]))) [1] (w.map fun c => .str [c]) [.sh (.str w), .no] = some (w.map fun c => .bl (decide (c ∈ sgs)), [.sh (.str w), .no]) :=
    lcD_all rfl w fun x _ => ⟨_, _, rfl, rfl, rfl⟩
  have hb : blsOf (w.map fun c => D.bl (decide (c ∈ sgs))) = some (w.map fun c => decide (c ∈ sgs)) := by
    have := blsOf_map (w.map fun c => decide (c ∈ sgs))
    rw [List.map_map] at this
    exact this
  rw [runD_1]
  simp [evl, startR, m_is_word, isi_ss, seqD, key, h, allD, hb]
def Valid (w : Tx) : Prop := (w.all fun c => decide (c ∈ sgs)) = true
theorem r_short (w : Tx) (v : Valid w) (h : w.length ≤ 8) : runD 1 1 m_require_short [.str w] = some .non := by
  have h1 : w.length ≤ 16777216 := by omega
  have h2 : ¬ (8 : Int) < (w.length : Int) := by omega
  have v' : (w.all fun c => decide (c ∈ sgs)) = true := v
  rw [runD_1]
  simp [evl, startR, m_require_short, r_is_word w h1, v', lenD, h1, gtD, h2, sBad]
theorem r_is_int (n : Int) (h1 : -1000000000000000000000000000000000000000000000000000000000000 < n) (h2 : n < 1000000000000000000000000000000000000000000000000000000000000) : runD 1 1 m_is_integer [.int n] = some (.bl true) := by
  rw [runD_1]
  simp [evl, startR, m_is_integer, isi_ii, isi_ib, notD, ltD, negI, h1, h2]
theorem r_number (n lo hi : Int) (h1 : -1000000000000000000000000000000000000000000000000000000000000 < n) (h2 : n < 1000000000000000000000000000000000000000000000000000000000000) (a : lo ≤ n) (b : n ≤ hi) : runD 3 3 m_require_number [.int n, .int lo, .int hi] = some .non := by
  rw [runD_3]
  simp [evl, startR, m_require_number, r_is_int n h1 h2, leD, a, b]
end DLP

/-! Words with a sign put out or in: plain mathematics. -/
namespace DLP
open DL

/-! ### one sign out, one sign in -/
def cut (w : Tx) (k : Nat) : Tx := w.take k ++ w.drop (k + 1)
def cuts (w : Tx) : List Tx := (List.range w.length).map (cut w)
def ins (w : Tx) (k c : Nat) : Tx := w.take k ++ [c] ++ w.drop k
theorem cut_zero (c : Nat) (w : Tx) : cut (c :: w) 0 = w := rfl
theorem cut_succ (c : Nat) (w : Tx) (k : Nat) : cut (c :: w) (k + 1) = c :: cut w k := rfl
theorem cut_len {w : Tx} {k : Nat} (h : k < w.length) : (cut w k).length + 1 = w.length := by
  unfold cut
  rw [List.length_append, List.length_take, List.length_drop]
  omega
theorem cut_sub (w : Tx) (k : Nat) : (cut w k).Sublist w := by
  unfold cut
  have h := List.take_append_drop k w
  conv => rhs; rw [← h]
  refine List.Sublist.append (List.Sublist.refl _) ?_
  rw [← List.drop_drop]
  exact List.drop_sublist 1 _
theorem sub_cut : ∀ {y x : Tx}, y.Sublist x → y.length < x.length → ∃ k, k < x.length ∧ y.Sublist (cut x k)
  | _, _, .slnil, h => absurd h (Nat.lt_irrefl _)
  | y, _, .cons (l₂ := x) a h, _ => ⟨0, by simp, h⟩
  | _, _, .cons_cons (l₁ := y) (l₂ := x) a h, hl => by
    obtain ⟨k, k1, k2⟩ := sub_cut h (by simpa using hl)
    exact ⟨k + 1, by simpa using k1, by rw [cut_succ]; exact k2.cons_cons a⟩
theorem ins_cut {x : Tx} {k : Nat} (h : k < x.length) : ins (cut x k) k x[k] = x := by
  unfold ins cut
  have l : (x.take k).length = k := by rw [List.length_take]; omega
  rw [List.take_append_of_le_length (by omega), List.drop_append_of_le_length (by omega), List.take_of_length_le (by omega), List.drop_of_length_le (by omega : (x.take k).length ≤ k)]
  simp
theorem ins_len {w : Tx} {k c : Nat} (h : k ≤ w.length) : (ins w k c).length = w.length + 1 := by
  unfold ins
  rw [List.length_append, List.length_append, List.length_take, List.length_drop]
  simp
  omega
theorem ins_sub (w : Tx) (k c : Nat) : w.Sublist (ins w k c) := by
  unfold ins
  have h := List.take_append_drop k w
  conv => lhs; rw [← h]
  rw [List.append_assoc]
  exact List.Sublist.append (List.Sublist.refl _) (List.sublist_cons_self c _)
theorem mem_ins' {w : Tx} {k c x : Nat} (h : x ∈ ins w k c) : x = c ∨ x ∈ w := by
  unfold ins at h
  rw [List.mem_append, List.mem_append] at h
  rcases h with (h | h) | h
  · exact .inr (List.mem_of_mem_take h)
  · exact .inl (List.mem_singleton.mp h)
  · exact .inr (List.mem_of_mem_drop h)

/-! ### sorted by rank, each once -/
def addK (ks : List Tx) (w : Tx) : List Tx := if w ∈ ks then ks else ks ++ [w]
theorem addK_mem {ks : List Tx} {w x : Tx} : x ∈ addK ks w ↔ x ∈ ks ∨ x = w := by
  unfold addK
  split
  · rename_i h
    exact ⟨.inl, fun z => z.elim id fun e => e ▸ h⟩
  · simp
theorem addK_nd {ks : List Tx} {w : Tx} (h : ks.Nodup) : (addK ks w).Nodup := by
  unfold addK
  split
  · exact h
  · rename_i n
    exact List.nodup_append.mpr ⟨h, by simp, fun a ha b hb e => n (by rw [List.mem_singleton.mp hb] at e; exact e ▸ ha)⟩
theorem foldK_mem {x : Tx} : ∀ {ws ks : List Tx}, x ∈ ws.foldl addK ks ↔ x ∈ ks ∨ x ∈ ws
  | [], ks => by simp
  | w :: ws, ks => by
    rw [List.foldl_cons, foldK_mem, addK_mem, List.mem_cons, or_assoc]
theorem foldK_nd : ∀ {ws ks : List Tx}, ks.Nodup → (ws.foldl addK ks).Nodup
  | [], _, h => h
  | w :: ws, ks, h => foldK_nd (ws := ws) (addK_nd h)
theorem addK_len (ks : List Tx) (w : Tx) : (addK ks w).length ≤ ks.length + 1 := by
  unfold addK
  split
  · omega
  · simp
theorem foldK_len : ∀ (ws ks : List Tx), (ws.foldl addK ks).length ≤ ks.length + ws.length
  | [], _ => Nat.le_refl _
  | w :: ws, ks => by
    have h1 := foldK_len ws (addK ks w)
    have h2 := addK_len ks w
    rw [List.foldl_cons, List.length_cons]
    omega
def byW (ws : List Tx) : List Tx := (ws.foldl addK []).mergeSort rankLe
theorem byW_mem {ws : List Tx} {x : Tx} : x ∈ byW ws ↔ x ∈ ws := by
  unfold byW
  rw [List.mem_mergeSort, foldK_mem]
  simp
theorem byW_nd (ws : List Tx) : (byW ws).Nodup := (List.mergeSort_perm _ _).nodup_iff.mpr (foldK_nd List.nodup_nil)
theorem byW_len (ws : List Tx) : (byW ws).length ≤ ws.length := by
  unfold byW
  rw [List.length_mergeSort]
  have := foldK_len ws []
  simpa using this
def rk (w : Tx) : Int × Tx := ((w.length : Int), w)
theorem rk_le (x y : Tx) : rankLe x y = pairLe (rk x) (rk y) := by
  unfold rankLe pairLe rk
  have : (x.length = y.length) ↔ ((x.length : Int) = (y.length : Int)) := by omega
  simp [this]
theorem rk_inj {x y : Tx} (h : rk x = rk y) : x = y := congrArg Prod.snd h
def ordW (ws : List Tx) : List Tx := (uniqP (ws.map rk)).map (·.2)
theorem ordW_mem {ws : List Tx} {x : Tx} : x ∈ ordW ws ↔ x ∈ ws := by
  unfold ordW uniqP
  rw [List.mem_map]
  constructor
  · rintro ⟨p, hp, rfl⟩
    rw [List.mem_mergeSort, mem_once, List.mem_map] at hp
    obtain ⟨w, hw, rfl⟩ := hp
    exact hw
  · intro h
    exact ⟨rk x, by rw [List.mem_mergeSort, mem_once]; exact List.mem_map.mpr ⟨x, h, rfl⟩, rfl⟩
/-- the two ways to sort agree, whatever is in the lists more than once -/
theorem by_ord {xs ys : List Tx} (h : ∀ x, x ∈ xs ↔ x ∈ ys) : byW xs = ordW ys := by
  have e1 : (byW xs).map rk = ((xs.foldl addK []).map rk).mergeSort pairLe := List.map_mergeSort fun a _ b _ => rk_le a b
  have pm : ((xs.foldl addK []).map rk).Perm (once (ys.map rk)) := by
    refine (List.perm_ext_iff_of_nodup ?_ (once_nodup _)).mpr fun p => ?_
    · exact List.pairwise_map.mpr (List.Pairwise.imp (fun ne z => ne (rk_inj z)) (foldK_nd List.nodup_nil))
    · rw [mem_once, List.mem_map, List.mem_map]
      constructor
      · rintro ⟨w, hw, rfl⟩
        rw [foldK_mem] at hw
        exact ⟨w, (h w).mp (by simpa using hw), rfl⟩
      · rintro ⟨w, hw, rfl⟩
        exact ⟨w, foldK_mem.mpr (.inr ((h w).mpr hw)), rfl⟩
  have e2 := sort_perm pm
  have e3 : byW xs = ((byW xs).map rk).map (·.2) := by rw [List.map_map]; exact (List.map_id' _).symm
  rw [e3, e1, e2]
  rfl
theorem ordW_nd (ws : List Tx) : (ordW ws).Nodup := by rw [← by_ord (xs := ws) fun _ => Iff.rfl]; exact byW_nd ws

theorem sub_up : ∀ {y w : Tx}, y.Sublist w → y.length < w.length → ∃ x, x.Sublist w ∧ ∃ k, k < x.length ∧ cut x k = y
  | _, _, .slnil, h => absurd h (Nat.lt_irrefl _)
  | y, _, .cons (l₂ := w) a h, _ => ⟨a :: y, h.cons_cons a, 0, by simp, rfl⟩
  | _, _, .cons_cons (l₁ := y) (l₂ := w) a h, hl => by
    obtain ⟨x, h1, k, h2, e⟩ := sub_up h (by simpa using hl)
    exact ⟨a :: x, h1.cons_cons a, k + 1, by simpa using h2, by rw [cut_succ, e]⟩
/-! ### so many signs out -/
def below (w : Tx) : Nat → List Tx
  | 0 => [w]
  | n + 1 => byW ((below w n).flatMap cuts)
theorem mem_cuts {w y : Tx} : y ∈ cuts w ↔ ∃ k, k < w.length ∧ cut w k = y := by
  unfold cuts
  rw [List.mem_map]
  exact ⟨fun ⟨k, h, e⟩ => ⟨k, List.mem_range.mp h, e⟩, fun ⟨k, h, e⟩ => ⟨k, List.mem_range.mpr h, e⟩⟩
theorem below_mem {w : Tx} : ∀ {n : Nat} {y : Tx}, y ∈ below w n ↔ y.Sublist w ∧ y.length + n = w.length
  | 0, y => by
    unfold below
    rw [List.mem_singleton]
    constructor
    · rintro rfl
      exact ⟨.refl _, rfl⟩
    · rintro ⟨h, e⟩
      exact h.eq_of_length (by omega)
  | n + 1, y => by
    unfold below
    rw [byW_mem, List.mem_flatMap]
    constructor
    · rintro ⟨x, hx, hy⟩
      obtain ⟨h1, h2⟩ := below_mem.mp hx
      obtain ⟨k, hk, rfl⟩ := mem_cuts.mp hy
      have := cut_len hk
      exact ⟨(cut_sub x k).trans h1, by omega⟩
    · rintro ⟨h, e⟩
      obtain ⟨x, h1, k, hk, rfl⟩ := sub_up h (by omega)
      have := cut_len hk
      exact ⟨x, below_mem.mpr ⟨h1, by omega⟩, mem_cuts.mpr ⟨k, hk, rfl⟩⟩
theorem below_nd (w : Tx) : ∀ n, (below w n).Nodup
  | 0 => by unfold below; simp
  | n + 1 => byW_nd _
/-- the law's next layer -/
def outsL (ws : List Tx) : List Tx := ordW (ws.flatMap cuts)
theorem below_outs (w : Tx) (n : Nat) : below w (n + 1) = outsL (below w n) := by_ord fun _ => Iff.rfl
/-- words of a length, over signs -/
def allW (qs : List Nat) : Nat → List Tx
  | 0 => [[]]
  | n + 1 => qs.flatMap fun c => (allW qs n).map (c :: ·)
theorem mem_allW {qs : List Nat} : ∀ {n : Nat} {x : Tx}, x ∈ allW qs n ↔ x.length = n ∧ ∀ c ∈ x, c ∈ qs
  | 0, x => by
    unfold allW
    rw [List.mem_singleton]
    exact ⟨fun h => by subst h; simp, fun h => List.eq_nil_of_length_eq_zero h.1⟩
  | n + 1, x => by
    unfold allW
    rw [List.mem_flatMap]
    constructor
    · rintro ⟨c, hc, hx⟩
      obtain ⟨y, hy, rfl⟩ := List.mem_map.mp hx
      obtain ⟨h1, h2⟩ := mem_allW.mp hy
      exact ⟨by simp [h1], fun d hd => (List.mem_cons.mp hd).elim (fun e => e ▸ hc) (h2 d)⟩
    · rintro ⟨h1, h2⟩
      cases x with
      | nil => simp at h1
      | cons c y => exact ⟨c, h2 c List.mem_cons_self, List.mem_map.mpr ⟨y, mem_allW.mpr ⟨by simpa using h1, fun d hd => h2 d (List.mem_cons_of_mem _ hd)⟩, rfl⟩⟩
theorem allW_len (qs : List Nat) : ∀ n, (allW qs n).length = qs.length ^ n
  | 0 => rfl
  | n + 1 => by
    unfold allW
    have : ∀ l : List Nat, (l.flatMap fun c => (allW qs n).map (c :: ·)).length = l.length * qs.length ^ n := by
      intro l
      induction l with
      | nil => simp
      | cons c l ih => rw [List.flatMap_cons, List.length_append, ih, List.length_map, allW_len qs n, List.length_cons, Nat.add_mul, Nat.one_mul, Nat.add_comm]
    rw [this, Nat.pow_succ, Nat.mul_comm]
/-- few words of one length -/
theorem few_words {qs : List Nat} {ws : List Tx} {n : Nat} (nd : ws.Nodup) (h : ∀ x ∈ ws, x.length = n ∧ ∀ c ∈ x, c ∈ qs) : ws.length ≤ qs.length ^ n := by
  rw [← allW_len]
  exact len_sub nd fun x hx => mem_allW.mpr (h x hx)

/-! ### runs -/
def outs1 : Tx → List Tx
  | [] => []
  | [_] => [[]]
  | c :: d :: w => (if c = d then [] else [d :: w]) ++ (outs1 (d :: w)).map (c :: ·)
theorem outs1_mem : ∀ {w y : Tx}, y ∈ outs1 w ↔ ∃ k, k < w.length ∧ cut w k = y
  | [], y => by simp [outs1]
  | [c], y => by
    unfold outs1
    rw [List.mem_singleton]
    constructor
    · rintro rfl
      exact ⟨0, by simp, rfl⟩
    · rintro ⟨k, hk, e⟩
      have : k = 0 := by simpa using hk
      subst this
      exact e.symm
  | c :: d :: w, y => by
    unfold outs1
    rw [List.mem_append, List.mem_map]
    constructor
    · rintro (h | ⟨x, hx, rfl⟩)
      · split at h
        · cases h
        · rw [List.mem_singleton.mp h]
          exact ⟨0, by simp, rfl⟩
      · obtain ⟨k, hk, rfl⟩ := outs1_mem.mp hx
        exact ⟨k + 1, by simpa using hk, rfl⟩
    · rintro ⟨k, hk, rfl⟩
      cases k with
      | zero =>
        by_cases h : c = d
        · subst h
          exact .inr ⟨w, outs1_mem.mpr ⟨0, by simp, rfl⟩, rfl⟩
        · rw [if_neg h]
          exact .inl (by simp [cut_zero])
      | succ k => exact .inr ⟨cut (d :: w) k, outs1_mem.mpr ⟨k, by simpa using hk, rfl⟩, rfl⟩
theorem outs1_nd : ∀ w : Tx, (outs1 w).Nodup
  | [] => by simp [outs1]
  | [c] => by simp [outs1]
  | c :: d :: w => by
    unfold outs1
    refine List.nodup_append.mpr ⟨by split <;> simp, List.pairwise_map.mpr (List.Pairwise.imp (fun ne z => ne (List.cons.inj z).2) (outs1_nd (d :: w))), fun a ha b hb e => ?_⟩
    split at ha
    · cases ha
    · rename_i ne
      obtain ⟨x, _, rfl⟩ := List.mem_map.mp hb
      rw [List.mem_singleton.mp ha] at e
      exact ne (List.cons.inj e).1.symm
/-- at each sign: is it the first, or another than the one ahead? -/
def flags : Option Nat → Tx → List Bool
  | _, [] => []
  | p, c :: w => decide (p ≠ some c) :: flags (some c) w
theorem flags_len : ∀ (p : Option Nat) (w : Tx), (flags p w).length = w.length
  | _, [] => rfl
  | p, c :: w => by rw [flags, List.length_cons, List.length_cons, flags_len]
def runs (w : Tx) : Nat := (flags none w).count true
theorem outs1_len : ∀ (c : Nat) (w : Tx), (outs1 (c :: w)).length = 1 + (flags (some c) w).count true
  | c, [] => rfl
  | c, d :: w => by
    rw [outs1, List.length_append, List.length_map, outs1_len d w, flags, List.count_cons]
    by_cases h : c = d
    · simp [h]
    · simp [h]
      omega
theorem below1_len (w : Tx) : (below w 1).length = runs w := by
  have pm : (below w 1).Perm (outs1 w) := by
    refine (List.perm_ext_iff_of_nodup (below_nd w 1) (outs1_nd w)).mpr fun y => ?_
    rw [outs1_mem]
    unfold below
    rw [byW_mem]
    unfold below
    simp [mem_cuts]
  rw [pm.length_eq]
  cases w with
  | nil => rfl
  | cons c w =>
    rw [outs1_len]
    show 1 + (flags (some c) w).count true = (decide (none ≠ some c) :: flags (some c) w).count true
    rw [List.count_cons]
    simp
    omega

/-! ### so many signs in -/
def insP (x : Tx) (qs : List Nat) : List Tx := (List.range (x.length + 1)).flatMap fun k => qs.map fun c => ins x k c
def insL (x : Tx) (qs : List Nat) : List Tx := qs.flatMap fun c => (List.range (x.length + 1)).map fun k => ins x k c
theorem mem_insP {x y : Tx} {qs : List Nat} : y ∈ insP x qs ↔ ∃ k c, k ≤ x.length ∧ c ∈ qs ∧ ins x k c = y := by
  unfold insP
  rw [List.mem_flatMap]
  constructor
  · rintro ⟨k, hk, h⟩
    obtain ⟨c, hc, e⟩ := List.mem_map.mp h
    exact ⟨k, c, Nat.le_of_lt_succ (List.mem_range.mp hk), hc, e⟩
  · rintro ⟨k, c, hk, hc, e⟩
    exact ⟨k, List.mem_range.mpr (Nat.lt_succ_of_le hk), List.mem_map.mpr ⟨c, hc, e⟩⟩
theorem mem_insL {x y : Tx} {qs : List Nat} : y ∈ insL x qs ↔ ∃ k c, k ≤ x.length ∧ c ∈ qs ∧ ins x k c = y := by
  unfold insL
  rw [List.mem_flatMap]
  constructor
  · rintro ⟨c, hc, h⟩
    obtain ⟨k, hk, e⟩ := List.mem_map.mp h
    exact ⟨k, c, Nat.le_of_lt_succ (List.mem_range.mp hk), hc, e⟩
  · rintro ⟨k, c, hk, hc, e⟩
    exact ⟨c, hc, List.mem_map.mpr ⟨k, List.mem_range.mpr (Nat.lt_succ_of_le hk), e⟩⟩
def above (w : Tx) (qs : List Nat) : Nat → List Tx
  | 0 => [w]
  | n + 1 => byW ((above w qs n).flatMap fun x => insP x qs)
def putsL (ws : List Tx) (qs : List Nat) : List Tx := ordW (ws.flatMap fun x => insL x qs)
theorem above_puts (w : Tx) (qs : List Nat) (n : Nat) : above w qs (n + 1) = putsL (above w qs n) qs := by
  refine by_ord fun y => ?_
  rw [List.mem_flatMap, List.mem_flatMap]
  constructor
  · rintro ⟨x, hx, h⟩
    exact ⟨x, hx, mem_insL.mpr (mem_insP.mp h)⟩
  · rintro ⟨x, hx, h⟩
    exact ⟨x, hx, mem_insP.mpr (mem_insL.mp h)⟩
theorem above_nd (w : Tx) (qs : List Nat) : ∀ n, (above w qs n).Nodup
  | 0 => by unfold above; simp
  | n + 1 => byW_nd _
theorem above_mem {w : Tx} {qs : List Nat} (hw : ∀ c ∈ w, c ∈ qs) : ∀ {n : Nat} {y : Tx}, y ∈ above w qs n ↔ w.Sublist y ∧ y.length = w.length + n ∧ ∀ c ∈ y, c ∈ qs
  | 0, y => by
    unfold above
    rw [List.mem_singleton]
    constructor
    · rintro rfl
      exact ⟨.refl _, rfl, hw⟩
    · rintro ⟨h, e, _⟩
      exact (h.eq_of_length (by omega)).symm
  | n + 1, y => by
    unfold above
    rw [byW_mem, List.mem_flatMap]
    constructor
    · rintro ⟨x, hx, hy⟩
      obtain ⟨h1, h2, h3⟩ := (above_mem hw).mp hx
      obtain ⟨k, c, hk, hc, rfl⟩ := mem_insP.mp hy
      refine ⟨h1.trans (ins_sub x k c), by rw [ins_len hk]; omega, fun d hd => ?_⟩
      rcases mem_ins' hd with e | e
      · rw [e]; exact hc
      · exact h3 d e
    · rintro ⟨h, e, hq⟩
      obtain ⟨k, k1, k2⟩ := sub_cut h (by omega)
      have := cut_len k1
      refine ⟨cut y k, (above_mem hw).mpr ⟨k2, by omega, fun d hd => hq d ((cut_sub y k).subset hd)⟩, mem_insP.mpr ⟨k, y[k], by omega, hq _ (List.getElem_mem k1), ins_cut k1⟩⟩
/-- all words with w in them, each once -/
def sup (qs : List Nat) : Tx → Nat → List Tx
  | [], s => allW qs s
  | c :: w, 0 => [c :: w]
  | c :: w, s + 1 => (sup qs w (s + 1)).map (c :: ·) ++ (qs.filter (· ≠ c)).flatMap fun d => (sup qs (c :: w) s).map (d :: ·)
termination_by w s => w.length + s
theorem sup_mem {qs : List Nat} : ∀ (w : Tx) (s : Nat), (∀ c ∈ w, c ∈ qs) → ∀ y, y ∈ sup qs w s ↔ w.Sublist y ∧ y.length = w.length + s ∧ ∀ c ∈ y, c ∈ qs
  | [], s, _, y => by
    rw [sup, mem_allW]
    simp
  | c :: w, 0, hw, y => by
    rw [sup, List.mem_singleton]
    constructor
    · rintro rfl
      exact ⟨.refl _, rfl, hw⟩
    · rintro ⟨h, e, _⟩
      exact (h.eq_of_length (by omega)).symm
  | c :: w, s + 1, hw, y => by
    have ih1 := sup_mem (qs := qs) w (s + 1) fun d hd => hw d (List.mem_cons_of_mem _ hd)
    have ih2 := sup_mem (qs := qs) (c :: w) s hw
    rw [sup, List.mem_append, List.mem_map, List.mem_flatMap]
    constructor
    · rintro (⟨x, hx, rfl⟩ | ⟨d, hd, h⟩)
      · obtain ⟨h1, h2, h3⟩ := (ih1 x).mp hx
        exact ⟨h1.cons_cons c, by simp [h2]; omega, fun e he => (List.mem_cons.mp he).elim (fun z => z ▸ hw c List.mem_cons_self) (h3 e)⟩
      · obtain ⟨x, hx, rfl⟩ := List.mem_map.mp h
        obtain ⟨h1, h2, h3⟩ := (ih2 x).mp hx
        exact ⟨h1.cons d, by simp [h2]; omega, fun e he => (List.mem_cons.mp he).elim (fun z => z ▸ (List.mem_filter.mp hd).1) (h3 e)⟩
    · rintro ⟨h, e, hq⟩
      cases h with
      | cons d h1 =>
        rename_i x
        by_cases z : d = c
        · subst z
          exact .inl ⟨x, (ih1 x).mpr ⟨(List.sublist_cons_self d w).trans h1, by simp at e ⊢; omega, fun e he => hq e (List.mem_cons_of_mem _ he)⟩, rfl⟩
        · exact .inr ⟨d, List.mem_filter.mpr ⟨hq d List.mem_cons_self, by simpa using z⟩, List.mem_map.mpr ⟨x, (ih2 x).mpr ⟨h1, by simp at e ⊢; omega, fun e he => hq e (List.mem_cons_of_mem _ he)⟩, rfl⟩⟩
      | cons_cons d h1 =>
        rename_i x
        exact .inl ⟨x, (ih1 x).mpr ⟨h1, by simp at e ⊢; omega, fun e he => hq e (List.mem_cons_of_mem _ he)⟩, rfl⟩
termination_by w s => w.length + s
theorem heads_nd {l : List Nat} {g : Nat → List Tx} (nd : l.Nodup) (hg : ∀ c ∈ l, (g c).Nodup) : (l.flatMap fun c => (g c).map (c :: ·)).Nodup := by
  refine List.pairwise_flatMap.mpr ⟨fun c hc => List.pairwise_map.mpr (List.Pairwise.imp (fun ne z => ne (List.cons.inj z).2) (hg c hc)), List.Pairwise.imp (fun {c d} ne x hx y hy e => ?_) nd⟩
  obtain ⟨x', _, rfl⟩ := List.mem_map.mp hx
  obtain ⟨y', _, rfl⟩ := List.mem_map.mp hy
  exact ne (List.cons.inj e).1
theorem allW_nd {qs : List Nat} (nd : qs.Nodup) : ∀ n, (allW qs n).Nodup
  | 0 => by unfold allW; simp
  | n + 1 => by
    unfold allW
    exact heads_nd nd fun _ _ => allW_nd nd n
theorem sup_nd {qs : List Nat} (nd : qs.Nodup) : ∀ (w : Tx) (s : Nat), (sup qs w s).Nodup
  | [], s => by rw [sup]; exact allW_nd nd s
  | c :: w, 0 => by rw [sup]; simp
  | c :: w, s + 1 => by
    rw [sup]
    refine List.nodup_append.mpr ⟨List.pairwise_map.mpr (List.Pairwise.imp (fun ne z => ne (List.cons.inj z).2) (sup_nd nd w (s + 1))), heads_nd (nd.filter _) fun _ _ => sup_nd nd (c :: w) s, fun a ha b hb e => ?_⟩
    obtain ⟨x, _, rfl⟩ := List.mem_map.mp ha
    obtain ⟨d, hd, h⟩ := List.mem_flatMap.mp hb
    obtain ⟨y, _, rfl⟩ := List.mem_map.mp h
    have := (List.mem_filter.mp hd).2
    rw [(List.cons.inj e).1] at this
    simp at this
termination_by w s => w.length + s
def supR (q : Nat) (f : Nat → Nat) : Nat → Nat
  | 0 => 1
  | s + 1 => f (s + 1) + (q - 1) * supR q f s
def supN (q : Nat) : Nat → Nat → Nat
  | 0 => fun s => q ^ s
  | n + 1 => supR q (supN q n)
theorem others_len {qs : List Nat} (nd : qs.Nodup) {c : Nat} (h : c ∈ qs) : (qs.filter (· ≠ c)).length = qs.length - 1 := by
  induction qs with
  | nil => cases h
  | cons d qs ih =>
    obtain ⟨h1, h2⟩ := List.nodup_cons.mp nd
    by_cases e : d = c
    · subst e
      have : qs.filter (· ≠ d) = qs := List.filter_eq_self.mpr fun x hx => by
        have : x ≠ d := fun z => h1 (z ▸ hx)
        simpa using this
      rw [List.filter_cons, if_neg (by simp), this]
      simp
    · have hm : c ∈ qs := (List.mem_cons.mp h).resolve_left fun z => e z.symm
      have p := List.length_pos_of_mem hm
      rw [List.filter_cons, if_pos (by simpa using e), List.length_cons, ih h2 hm, List.length_cons]
      omega
theorem sup_len {qs : List Nat} (nd : qs.Nodup) : ∀ (w : Tx) (s : Nat), (∀ c ∈ w, c ∈ qs) → (sup qs w s).length = supN qs.length w.length s
  | [], s, _ => by rw [sup, allW_len]; rfl
  | c :: w, 0, _ => by rw [sup]; rfl
  | c :: w, s + 1, hw => by
    have fm : ∀ l : List Nat, (l.flatMap fun d => (sup qs (c :: w) s).map (d :: ·)).length = l.length * (sup qs (c :: w) s).length := by
      intro l
      induction l with
      | nil => simp
      | cons d l ih => rw [List.flatMap_cons, List.length_append, ih, List.length_map, List.length_cons, Nat.add_mul, Nat.one_mul, Nat.add_comm]
    rw [sup, List.length_append, List.length_map, fm, others_len nd (hw c List.mem_cons_self), sup_len nd w (s + 1) fun d hd => hw d (List.mem_cons_of_mem _ hd), sup_len nd (c :: w) s hw]
    rfl
termination_by w s => w.length + s
theorem above_len {w : Tx} {qs : List Nat} (nd : qs.Nodup) (hw : ∀ c ∈ w, c ∈ qs) (n : Nat) : (above w qs n).length = supN qs.length w.length n := by
  rw [← sup_len nd w n hw]
  refine List.Perm.length_eq ((List.perm_ext_iff_of_nodup (above_nd w qs n) (sup_nd nd w n)).mpr fun y => ?_)
  rw [above_mem hw, sup_mem w n hw]
end DLP

/-! The longest common part, row by row. -/
namespace DLP
open DL

structure Best (p q x : Tx) : Prop where
  l : x.Sublist p
  r : x.Sublist q
  max : ∀ y : Tx, y.Sublist p → y.Sublist q → y.length ≤ x.length
theorem sub_snoc {y p : Tx} {a : Nat} : y.Sublist (p ++ [a]) ↔ y.Sublist p ∨ ∃ z, y = z ++ [a] ∧ z.Sublist p := by
  rw [List.sublist_append_iff]
  constructor
  · rintro ⟨z, u, rfl, h1, h2⟩
    cases h2 with
    | cons _ h3 =>
      cases h3
      rw [List.append_nil]
      exact .inl h1
    | cons_cons _ h3 =>
      cases h3
      exact .inr ⟨z, rfl, h1⟩
  · rintro (h | ⟨z, rfl, h⟩)
    · exact ⟨y, [], by simp, h, List.nil_sublist _⟩
    · exact ⟨z, [a], rfl, h, .refl _⟩
theorem best_nil_l (q : Tx) : Best [] q [] := ⟨.refl _, List.nil_sublist _, fun y h _ => by rw [List.sublist_nil.mp h]; exact Nat.le_refl _⟩
theorem best_nil_r (p : Tx) : Best p [] [] := ⟨List.nil_sublist _, .refl _, fun y _ h => by rw [List.sublist_nil.mp h]; exact Nat.le_refl _⟩
theorem best_eq {p q x : Tx} {a : Nat} (h : Best p q x) : Best (p ++ [a]) (q ++ [a]) (x ++ [a]) := by
  refine ⟨h.l.append (.refl _), h.r.append (.refl _), fun y h1 h2 => ?_⟩
  rw [List.length_append, List.length_singleton]
  rcases sub_snoc.mp h1 with k1 | ⟨z, rfl, k1⟩
  · rcases sub_snoc.mp h2 with k2 | ⟨z, rfl, k2⟩
    · have := h.max y k1 k2
      omega
    · have := h.max z ((List.sublist_append_left z [a]).trans k1) k2
      rw [List.length_append, List.length_singleton]
      omega
  · rcases sub_snoc.mp h2 with k2 | ⟨z', e, k2⟩
    · have := h.max z k1 ((List.sublist_append_left z [a]).trans k2)
      rw [List.length_append, List.length_singleton]
      omega
    · have : z = z' := (List.append_inj' e rfl).1
      subst this
      have := h.max z k1 k2
      rw [List.length_append, List.length_singleton]
      omega
theorem best_ne {p q x y : Tx} {a b : Nat} (ne : a ≠ b) (hx : Best p (q ++ [b]) x) (hy : Best (p ++ [a]) q y) : Best (p ++ [a]) (q ++ [b]) (if y.length > x.length then y else x) := by
  refine ⟨?_, ?_, fun z h1 h2 => ?_⟩
  · split
    · exact hy.l
    · exact hx.l.trans (List.sublist_append_left _ _)
  · split
    · exact hy.r.trans (List.sublist_append_left _ _)
    · exact hx.r
  · have : z.length ≤ x.length ∨ z.length ≤ y.length := by
      rcases sub_snoc.mp h1 with k1 | ⟨u, rfl, k1⟩
      · exact .inl (hx.max z k1 h2)
      · rcases sub_snoc.mp h2 with k2 | ⟨v, e, k2⟩
        · exact .inr (hy.max _ h1 k2)
        · exact absurd (List.cons.inj (List.append_inj' e rfl).2).1 ne
    split <;> omega
/-- the item behind a row's last one -/
def nextI (prev : List Tx) (a : Nat) (row : List Tx) (k b : Nat) : Tx :=
  if a = b then prev.getD k [] ++ [a] else if (row.getD k []).length > (prev.getD (k + 1) []).length then row.getD k [] else prev.getD (k + 1) []
def rowG (prev : List Tx) (a : Nat) : List Tx → Nat → Tx → List Tx
  | row, _, [] => row
  | row, k, b :: r => rowG prev a (row ++ [nextI prev a row k b]) (k + 1) r
def nextRow (prev : List Tx) (a : Nat) (other : Tx) : List Tx := rowG prev a [[]] 0 other
def allRows (other : Tx) (rows : List (List Tx)) (one : Tx) : List (List Tx) := one.foldl (fun rs a => rs ++ [nextRow (rs.getLastD []) a other]) rows
/-- a row's word up to its k-th item -/
structure RowOk (p other : Tx) (row : List Tx) (k : Nat) : Prop where
  len : row.length = k + 1
  at_ : ∀ j, j ≤ k → Best p (other.take j) (row.getD j [])
theorem getD_snoc {l : List Tx} {x : Tx} {j : Nat} : (l ++ [x]).getD j [] = if j < l.length then l.getD j [] else if j = l.length then x else [] := by
  rw [List.getD_eq_getElem?_getD, List.getD_eq_getElem?_getD]
  split
  · rename_i h
    rw [List.getElem?_append_left h]
  · rename_i h
    rw [List.getElem?_append_right (by omega)]
    split
    · rename_i e
      rw [e, Nat.sub_self]
      rfl
    · rename_i e
      rw [List.getElem?_eq_none (by simp; omega)]
      rfl
theorem take_snoc {other : Tx} {k : Nat} (h : k < other.length) : other.take (k + 1) = other.take k ++ [other[k]] := by
  rw [List.take_succ, List.getElem?_eq_getElem h]
  rfl
theorem rowG_ok {p other : Tx} {prev : List Tx} {a : Nat} (hp : RowOk p other prev other.length) : ∀ (r : Tx) (row : List Tx) (k : Nat), other.drop k = r → k ≤ other.length → RowOk (p ++ [a]) other row k → RowOk (p ++ [a]) other (rowG prev a row k r) other.length
  | [], row, k, e, hk, h => by
    have : other.length ≤ k := List.drop_eq_nil_iff.mp e
    have : k = other.length := by omega
    rw [← this]
    exact h
  | b :: r, row, k, e, hk, h => by
    have lt : k < other.length := by
      have := congrArg List.length e
      rw [List.length_drop, List.length_cons] at this
      omega
    have eb : other[k] = b ∧ other.drop (k + 1) = r := by
      rw [List.drop_eq_getElem_cons lt] at e
      exact ⟨(List.cons.inj e).1, (List.cons.inj e).2⟩
    refine rowG_ok hp r _ (k + 1) eb.2 lt ⟨by rw [List.length_append, h.len]; rfl, fun j hj => ?_⟩
    rw [getD_snoc, h.len]
    by_cases c : j < k + 1
    · rw [if_pos c]
      exact h.at_ j (by omega)
    · have : j = k + 1 := by omega
      subst this
      rw [if_neg c, if_pos rfl, take_snoc lt, eb.1]
      unfold nextI
      have h1 := hp.at_ k (by omega)
      have h2 := hp.at_ (k + 1) (by omega)
      rw [take_snoc lt, eb.1] at h2
      have h3 := h.at_ k (Nat.le_refl _)
      by_cases e : a = b
      · rw [if_pos e]
        subst e
        exact best_eq h1
      · rw [if_neg e]
        exact best_ne e h2 h3
theorem nextRow_ok {p other : Tx} {prev : List Tx} {a : Nat} (hp : RowOk p other prev other.length) : RowOk (p ++ [a]) other (nextRow prev a other) other.length :=
  rowG_ok hp other [[]] 0 rfl (Nat.zero_le _) ⟨rfl, fun j hj => by
    have : j = 0 := by omega
    subst this
    exact best_nil_r _⟩
theorem allRows_ok {other : Tx} : ∀ (one p : Tx) (rows : List (List Tx)), RowOk p other (rows.getLastD []) other.length → RowOk (p ++ one) other ((allRows other rows one).getLastD []) other.length
  | [], p, rows, h => by rw [List.append_nil]; exact h
  | a :: one, p, rows, h => by
    have := allRows_ok (other := other) one (p ++ [a]) (rows ++ [nextRow (rows.getLastD []) a other]) (by rw [List.getLastD_concat]; exact nextRow_ok h)
    rw [List.append_assoc] at this
    exact this
def lcs (one other : Tx) : Tx := ((allRows other [List.replicate (other.length + 1) []] one).getLastD []).getLastD []
theorem lcs_best (one other : Tx) : Best one other (lcs one other) := by
  have h := allRows_ok (other := other) one [] [List.replicate (other.length + 1) []] ⟨by simp, fun j hj => by
    have : ([List.replicate (other.length + 1) ([] : Tx)] : List (List Tx)).getLastD [] = List.replicate (other.length + 1) [] := rfl
    rw [this, List.getD_eq_getElem?_getD, List.getElem?_replicate, if_pos (by omega)]
    exact best_nil_l _⟩
  have h2 := h.at_ other.length (Nat.le_refl _)
  rw [List.take_length, List.nil_append] at h2
  unfold lcs
  generalize (allRows other [List.replicate (other.length + 1) []] one).getLastD [] = row at h h2
  have : row.getLastD [] = row.getD other.length [] := by
    rw [List.getLastD_eq_getLast?, List.getLast?_eq_getElem?, List.getD_eq_getElem?_getD, h.len]
    rfl
  rw [this]
  exact h2
end DLP

/-! The plain law, part 2: sorted words, words below and above. -/
namespace DLP
open PySem PySem.Spec PyProof.Rows L2 RZ DL

def kDk : List (KD × D) × Rho → Option (D × Rho) := fun p => some (.dk p.1, p.2)
theorem kDk_ap {m : List (KD × D)} {ρ : Rho} : kDk (m, ρ) = some (.dk m, ρ) := rfl
def kDc (γ : DenG) (tt : DenT) (tk tv : Den) (own : List Nat) : List D × Rho → Option (D × Rho) := fun p => bnd (dcD γ tt tk tv own p.1 p.2 []) kDk
theorem kDc_ap {γ : DenG} {tt : DenT} {tk tv : Den} {own : List Nat} {ds : List D} {ρ : Rho} : kDc γ tt tk tv own (ds, ρ) = bnd (dcD γ tt tk tv own ds ρ []) kDk := rfl
theorem dDc_ap {it : DenL} {γ : DenG} {tt : DenT} {tk tv : Den} {own : List Nat} {ρ : Rho} : dDc it γ tt tk tv own ρ = bnd (it ρ) (kDc γ tt tk tv own) := by
  unfold dDc
  cases it ρ with
  | none => rfl
  | some p =>
    obtain ⟨ds, ρ1⟩ := p
    rw [bnd_s, kDc_ap]
    dsimp only
    cases dcD γ tt tk tv own ds ρ1 [] with
    | none => rfl
    | some q => rfl
/-- a list of words, as data -/
abbrev WL (ws : List Tx) : D := .lst (ws.map .str)
def keyT (w : Tx) : KD × D := (.inr w, .bl true)
theorem putD_key (ks : List Tx) (w : Tx) : putD (ks.map keyT) (.inr w) (.bl true) = (addK ks w).map keyT := by
  have any : ((ks.map keyT).any fun p => decide (p.1 = Sum.inr w)) = decide (w ∈ ks) := by
    induction ks with
    | nil => rfl
    | cons k ks ih =>
      rw [List.map_cons, List.any_cons, ih]
      by_cases e : k = w
      · subst e; simp [keyT]
      · have : ¬ w = k := fun z => e z.symm
        simp [keyT, e, this]
  unfold putD addK
  rw [any]
  by_cases h : w ∈ ks
  · rw [if_pos (by simpa using h), if_pos h, List.map_map]
    refine List.map_congr_left fun k _ => ?_
    show (if (keyT k).1 = Sum.inr w then ((keyT k).1, D.bl true) else keyT k) = keyT k
    split <;> rfl
  · rw [if_neg (by simpa using h), if_neg h, List.map_append]
    rfl
theorem dcD_words {X : D} : ∀ (ws ks : List Tx), ks.length + ws.length ≤ 16777216 →
    dcD (gN 1) tYesD (dV 1) (d0 (.bl true)) [1] (ws.map .str) [.sh X, .no] (ks.map keyT) = some ((ws.foldl addK ks).map keyT, [.sh X, .no])
  | [], ks, _ => rfl
  | w :: ws, ks, h => by
    rw [List.length_cons] at h
    have e : dcD (gN 1) tYesD (dV 1) (d0 (.bl true)) [1] ((w :: ws).map .str) [.sh X, .no] (ks.map keyT) =
        if (ks.map keyT).length < 16777216 then dcD (gN 1) tYesD (dV 1) (d0 (.bl true)) [1] (ws.map .str) [.sh X, .no] (putD (ks.map keyT) (.inr w) (.bl true)) else none := rfl
    have h2 := addK_len ks w
    rw [e, if_pos (by rw [List.length_map]; omega), putD_key, dcD_words ws (addK ks w) (by omega)]
    rfl
theorem r_by_words (ws : List Tx) (h : ws.length ≤ 16777216) (hw : ∀ w ∈ ws, w.length ≤ 16777216) : runD 2 1 m_by_words [WL ws] = some (WL (byW ws)) := by
  have k := dcD_words (X := WL ws) ws [] (by simpa using h)
  have hs : strsOf (((ws.foldl addK []).map keyT).map fun p => kD p.1) = some (ws.foldl addK []) := by
    rw [List.map_map]
    exact strsOf_map _
  have ha : ((ws.foldl addK []).all fun x => decide (x.length ≤ 16777216)) = true := by
    rw [List.all_eq_true]
    intro x hx
    rw [foldK_mem] at hx
    exact decide_eq_true (hw x (by simpa using hx))
  rw [runD_1]
  simp only [evl, startR, m_by_words, dDc_ap, kDc_ap, kDk_ap, List.length_cons, List.length_nil, List.map_cons, List.map_nil, Nat.reduceSub, Nat.reduceAdd, List.replicate_succ, List.replicate_zero, List.cons_append, List.nil_append, List.getElem?_cons_zero, seqD]
  rw [show dcD (gN 1) tYesD (dV 1) (d0 (.bl true)) [1] (ws.map .str) [.sh (WL ws), .no] [] = some ((ws.foldl addK []).map keyT, [.sh (WL ws), .no]) from k]
  simp only [evl, kDk_ap, listK, sortRank, hs, ha, if_true]
  rfl
theorem r_ordered (ws : List Tx) (h : ws.length ≤ 16777216) (hw : ∀ w ∈ ws, w.length ≤ 16777216) (few : (once (ws.map rk)).length < 300) : runD 3 1 m__law_ordered [WL ws] = some (WL (ordW ws)) := by
  have k1 : lcD (gN 2) tYesD (dC mkTup (dCons (dC lenD (dCons (dV 2) dNil)) (dCons (dV 2) dNil))) [2] (ws.map .str) [.sh (WL ws), .no, .no] = some (ws.map fun w => pairP (rk w), [.sh (WL ws), .no, .no]) := by
    refine lcD_all rfl ws fun w hw' => ⟨_, [.sh (WL ws), .no, .sh (.str w)], rfl, ?_, rfl⟩
    simp [evl, wipeR, lenD, hw w hw', mkTup, pairP, rk]
  have k2 : lcD (gT (gsCons (gN 1) (gsCons (gN 2) gsNil))) tYesD (dV 2) [1, 2] ((uniqP (ws.map rk)).map pairP) [.sh (WL ws), .no, .no] = some ((uniqP (ws.map rk)).map fun p => .str p.2, [.sh (WL ws), .no, .no]) :=
    lcD_all rfl _ fun p _ => ⟨_, _, rfl, rfl, rfl⟩
  have hp : ∀ l : List (Int × Tx), pairsP (l.map pairP) = some l := by
    intro l
    induction l with
    | nil => rfl
    | cons p l ih => rw [List.map_cons]; unfold pairP; rw [pairsP, show pairsP (List.map (fun q => D.tup [.int q.1, .str q.2]) l) = some l from ih]
  have hl : (uniqP (ws.map rk)).length ≤ 16777216 := by
    unfold uniqP
    rw [List.length_mergeSort]
    omega
  have e1 : (ws.map fun w => pairP (rk w)) = (ws.map rk).map pairP := by rw [List.map_map]; rfl
  rw [runD_1]
  simp only [evl, startR, m__law_ordered, List.length_cons, List.length_nil, List.map_cons, List.map_nil, Nat.reduceSub, Nat.reduceAdd, List.replicate_succ, List.replicate_zero, List.cons_append, List.nil_append, List.getElem?_cons_zero, seqD, k1, List.length_map, h, if_true]
  rw [e1]
  simp only [evl, sortSet, hp, few, if_true, seqD, k2, List.length_map, hl]
  show some (D.lst _) = some (D.lst ((ordW ws).map .str))
  unfold ordW
  rw [List.map_map]
  rfl
theorem range_n (n : Nat) (h : n ≤ 16777216) : range1L [.int (n : Int)] = some ((List.range n).map fun k : Nat => D.int (k : Int)) := by
  unfold range1L
  dsimp only
  rw [if_pos ⟨by omega, by omega⟩, Int.toNat_natCast]
theorem add_ii (i j : Int) : addI (.int i) (.int j) = some (.int (i + j)) := rfl
theorem add_is (s t : Tx) : addI (.str s) (.str t) = none := rfl
theorem add_ss (s t : Tx) (h : s.length + t.length ≤ 16777216) : addS (.str s) (.str t) = some (.str (s ++ t)) := by
  show (if s.length + t.length ≤ 16777216 then some (D.str (s ++ t)) else none) = _
  rw [if_pos h]

/-! ### below_in -/
theorem lc_cut {a b c d e : Sl} {w : Tx} (h : w.length ≤ 16777216) : lcD (gN 6) tYesD (dAdd (dSl (dV 5) pNone (pSome (dV 6))) (dSl (dV 5) (pSome (dAdd (dV 6) (d0 (.int 1)))) pNone)) [6] ((List.range w.length).map fun k : Nat => D.int (k : Int)) [a, b, c, d, e, .sh (.str w), .no] =
    some ((cuts w).map .str, [a, b, c, d, e, .sh (.str w), .no]) := by
  unfold cuts
  rw [List.map_map]
  refine lcD_all rfl _ fun k hk => ⟨_, [a, b, c, d, e, .sh (.str w), .sh (.int (k : Int))], rfl, ?_, rfl⟩
  have hk := List.mem_range.mp hk
  have hz : (w.take k).length + (w.drop (k + 1)).length ≤ 16777216 := by rw [List.length_take, List.length_drop]; omega
  simp only [evl, wipeR, List.set_cons_succ, List.set_cons_zero, List.getElem?_cons_succ, List.getElem?_cons_zero, sl_to w k h, sl_from1 w k h, add_ii, add_is, add_ss _ _ hz]
  rfl
/-- the bounds within which the lists stay -/
structure Few (ws : List Tx) (n l : Nat) : Prop where
  n : ws.length ≤ n
  l : ∀ w ∈ ws, w.length ≤ l
theorem cuts_len (w : Tx) : (cuts w).length = w.length := by unfold cuts; rw [List.length_map, List.length_range]
theorem few_cuts {ws : List Tx} {n l : Nat} (f : Few ws n l) : Few (ws.flatMap cuts) (n * l) l := by
  constructor
  · have : ∀ vs : List Tx, (∀ w ∈ vs, w.length ≤ l) → (vs.flatMap cuts).length ≤ vs.length * l := by
      intro vs
      induction vs with
      | nil => intro _; simp
      | cons v vs ih =>
        intro h
        have h1 := ih fun w hw => h w (List.mem_cons_of_mem _ hw)
        have h2 := h v List.mem_cons_self
        rw [List.flatMap_cons, List.length_append, cuts_len, List.length_cons, Nat.add_mul, Nat.one_mul]
        omega
    exact Nat.le_trans (this ws f.l) (Nat.mul_le_mul_right l f.n)
  · intro y hy
    obtain ⟨w, hw, h⟩ := List.mem_flatMap.mp hy
    obtain ⟨k, hk, rfl⟩ := mem_cuts.mp h
    have := cut_len hk
    have := f.l w hw
    omega
theorem few_by {ws : List Tx} {n l : Nat} (f : Few ws n l) : Few (byW ws) n l := ⟨Nat.le_trans (byW_len ws) f.n, fun w hw => f.l w (byW_mem.mp hw)⟩
theorem few_below {w : Tx} {l : Nat} (hl : w.length ≤ l) : ∀ m : Nat, Few (below w m) (l ^ m) l
  | 0 => ⟨by simp [below], fun x hx => by rw [List.mem_singleton.mp hx]; exact hl⟩
  | m + 1 => by
    rw [Nat.pow_succ]
    exact few_by (few_cuts (few_below hl m))
def belR (a b : Sl) (ws : List Tx) (ρ : Rho) : Prop := ∃ t l o, ρ = [a, b, .sh (WL ws), t, l, o, .no]
theorem r_below_in (w : Tx) (m : Nat) (h : w.length ≤ 8) (hm : m ≤ 3) : runD 7 2 m_below_in [.str w, .int (m : Int)] = some (WL (below w m)) := by
  have inner : ∀ (ws acc : List Tx) (a b c t : Sl) (ρ : Rho), (∀ x ∈ ws, x.length ≤ 8) → acc.length + (ws.flatMap cuts).length ≤ 16777216 → (∃ o, ρ = [a, b, c, t, .ow false (WL acc), o, .no]) →
      ∃ o, forD (gN 5) (sExt 4 (dLc (dLL range1L (dCons (dC lenD (dCons (dV 5) dNil)) dNil)) (gN 6) tYesD (dAdd (dSl (dV 5) pNone (pSome (dV 6))) (dSl (dV 5) (pSome (dAdd (dV 6) (d0 (.int 1)))) pNone)) [6])) (ws.map .str) ρ
        = some (.nx [a, b, c, t, .ow false (WL (acc ++ ws.flatMap cuts)), o, .no]) := by
    intro ws
    induction ws with
    | nil =>
      rintro acc a b c t ρ _ _ ⟨o, rfl⟩
      exact ⟨o, by simp [forD]⟩
    | cons x ws ih =>
      rintro acc a b c t ρ hx hz ⟨o, rfl⟩
      have hx0 : x.length ≤ 16777216 := by have := hx x List.mem_cons_self; omega
      rw [List.flatMap_cons, List.length_append, cuts_len] at hz
      obtain ⟨o', e⟩ := ih (acc ++ cuts x) a b c t [a, b, c, t, .ow false (WL (acc ++ cuts x)), .sh (.str x), .no] (fun y hy => hx y (List.mem_cons_of_mem _ hy)) (by rw [List.length_append, cuts_len]; omega) ⟨_, rfl⟩
      refine ⟨o', ?_⟩
      rw [List.map_cons, forD]
      simp only [evl, List.length_cons, List.length_nil, List.set_cons_succ, List.set_cons_zero, List.getElem?_cons_succ, List.getElem?_cons_zero, lenD, hx0, if_true, range_n _ hx0, lc_cut hx0, List.length_map, cuts_len, Nat.reduceAdd, Nat.reduceLT]
      rw [if_pos (by omega)]
      dsimp only
      rw [← List.map_append, e, List.flatMap_cons, List.append_assoc]
  have outer : ∀ (k p : Nat) (ρ : Rho), p + k ≤ 3 → belR (.sh (.str w)) (.sh (.int (m : Int))) (below w p) ρ → ∀ ds : List D, ds.length = k → 
      ∃ ρ', forD (gN 3) (sSeq (sSetO 4 (dC mkLst dNil)) (sSeq (sFor (dL seqD (dV 2)) (gN 5) (sExt 4 (dLc (dLL range1L (dCons (dC lenD (dCons (dV 5) dNil)) dNil)) (gN 6) tYesD (dAdd (dSl (dV 5) pNone (pSome (dV 6))) (dSl (dV 5) (pSome (dAdd (dV 6) (d0 (.int 1)))) pNone)) [6])))
        (sSet 2 (dC (runD 2 1 m_by_words) (dCons (dV 4) dNil))))) ds ρ = some (.nx ρ') ∧ belR (.sh (.str w)) (.sh (.int (m : Int))) (below w (p + k)) ρ' := by
    intro k
    induction k with
    | zero =>
      intro p ρ _ hρ ds hd
      rw [List.eq_nil_of_length_eq_zero hd]
      exact ⟨ρ, rfl, hρ⟩
    | succ k ih =>
      rintro p ρ hp ⟨t, l, o, rfl⟩ ds hd
      cases ds with
      | nil => cases hd
      | cons d ds =>
        have fb := few_below h p
        have fc := few_cuts fb
        have p3 : 8 ^ p ≤ 8 ^ 3 := Nat.pow_le_pow_right (by decide) (by omega)
        have big : ((below w p).flatMap cuts).length ≤ 16777216 := by
          have := fc.n
          have : 8 ^ p * 8 ≤ 8 ^ 3 * 8 := Nat.mul_le_mul_right 8 p3
          omega
        obtain ⟨o', e⟩ := inner (below w p) [] (.sh (.str w)) (.sh (.int (m : Int))) (.sh (WL (below w p))) (.sh d) [.sh (.str w), .sh (.int (m : Int)), .sh (WL (below w p)), .sh d, .ow false (WL []), o, .no] fb.l (by simpa using big) ⟨_, rfl⟩
        have by1 := r_by_words ((below w p).flatMap cuts) big fun x hx => by have := fc.l x hx; omega
        rw [List.nil_append] at e
        obtain ⟨ρ', e2, h2⟩ := ih (p + 1) [.sh (.str w), .sh (.int (m : Int)), .sh (WL (below w (p + 1))), .sh d, .sh (WL ((below w p).flatMap cuts)), o', .no] (by omega) ⟨_, _, _, rfl⟩ ds (by simpa using hd)
        refine ⟨ρ', ?_, by rw [show p + (k + 1) = p + 1 + k by omega]; exact h2⟩
        rw [forD]
        simp only [evl, List.length_cons, List.length_nil, List.set_cons_succ, List.set_cons_zero, List.getElem?_cons_succ, List.getElem?_cons_zero, mkLst, seqD, if_true, Nat.reduceAdd, Nat.reduceLT, Nat.zero_le]
        rw [show D.lst [] = WL [] from rfl, e]
        simp only [evl, List.length_cons, List.length_nil, List.set_cons_succ, List.set_cons_zero, List.getElem?_cons_succ, List.getElem?_cons_zero, if_true, Nat.reduceAdd, Nat.reduceLT, by1]
        exact e2
  obtain ⟨ρ', e, t, l, o, rfl⟩ := outer m 0 [.sh (.str w), .sh (.int (m : Int)), .sh (WL [w]), .no, .no, .no, .no] (by omega) ⟨_, _, _, rfl⟩ ((List.range m).map fun k : Nat => D.int (k : Int)) (by simp)
  rw [Nat.zero_add] at e
  rw [runD_2]
  simp only [evl, startR, m_below_in, List.length_cons, List.length_nil, List.map_cons, List.map_nil, Nat.reduceSub, Nat.reduceAdd, Nat.reduceLT, List.replicate_succ, List.replicate_zero, List.cons_append, List.nil_append, List.set_cons_succ, List.set_cons_zero, List.getElem?_cons_succ, List.getElem?_cons_zero, mkLst, if_true, range_n m (by omega), Nat.reduceLeDiff]
  rw [show D.lst [D.str w] = WL [w] from rfl, e]
  simp only [evl, List.getElem?_cons_succ, List.getElem?_cons_zero]
end DLP

/-! The plain law, part 3: words above. -/
namespace DLP
open PySem PySem.Spec PyProof.Rows L2 RZ DL

abbrev sgD (c : Nat) : D := .str [c]
theorem lc_ins {a b c d e f : Sl} {w : Tx} {k : Nat} {qs : List Nat} (h : w.length ≤ 16777215) (hk : k ≤ w.length) : lcD (gN 8) tYesD (dAdd (dAdd (dSl (dV 6) pNone (pSome (dV 7))) (dV 8)) (dSl (dV 6) (pSome (dV 7)) pNone)) [8] (qs.map sgD) [a, b, c, d, e, f, .sh (.str w), .sh (.int (k : Int)), .no] =
    some (qs.map fun z => .str (ins w k z), [a, b, c, d, e, f, .sh (.str w), .sh (.int (k : Int)), .no]) := by
  refine lcD_all rfl _ fun z _ => ⟨_, [a, b, c, d, e, f, .sh (.str w), .sh (.int (k : Int)), .sh (.str [z])], rfl, ?_, rfl⟩
  have h0 : w.length ≤ 16777216 := by omega
  have h1 : (w.take k).length + [z].length ≤ 16777216 := by rw [List.length_take, List.length_singleton]; omega
  have h2 : (w.take k ++ [z]).length + (w.drop k).length ≤ 16777216 := by rw [List.length_append, List.length_take, List.length_drop, List.length_singleton]; omega
  simp only [evl, wipeR, List.set_cons_succ, List.set_cons_zero, List.getElem?_cons_succ, List.getElem?_cons_zero, sl_to w k h0, sl_from w k h0, add_is, add_ss _ _ h1, add_ss _ _ h2]
  rfl
theorem insP_len (x : Tx) (qs : List Nat) : (insP x qs).length = (x.length + 1) * qs.length := by
  unfold insP
  have : ∀ l : List Nat, (l.flatMap fun k => qs.map fun c => ins x k c).length = l.length * qs.length := by
    intro l
    induction l with
    | nil => simp
    | cons k l ih => rw [List.flatMap_cons, List.length_append, ih, List.length_map, List.length_cons, Nat.add_mul, Nat.one_mul, Nat.add_comm]
  rw [this, List.length_range]
theorem few_ins {ws : List Tx} {n l : Nat} {qs : List Nat} (f : Few ws n l) : Few (ws.flatMap fun x => insP x qs) (n * ((l + 1) * qs.length)) (l + 1) := by
  constructor
  · have : ∀ vs : List Tx, (∀ w ∈ vs, w.length ≤ l) → (vs.flatMap fun x => insP x qs).length ≤ vs.length * ((l + 1) * qs.length) := by
      intro vs
      induction vs with
      | nil => intro _; simp
      | cons v vs ih =>
        intro h
        have h1 := ih fun w hw => h w (List.mem_cons_of_mem _ hw)
        have h2 := h v List.mem_cons_self
        have h3 : (v.length + 1) * qs.length ≤ (l + 1) * qs.length := Nat.mul_le_mul_right _ (by omega)
        have h4 : (vs.length + 1) * ((l + 1) * qs.length) = vs.length * ((l + 1) * qs.length) + (l + 1) * qs.length := Nat.succ_mul _ _
        rw [List.flatMap_cons, List.length_append, insP_len, List.length_cons, h4]
        omega
    exact Nat.le_trans (this ws f.l) (Nat.mul_le_mul_right _ f.n)
  · intro y hy
    obtain ⟨w, hw, h⟩ := List.mem_flatMap.mp hy
    obtain ⟨k, c, hk, _, rfl⟩ := mem_insP.mp h
    rw [ins_len hk]
    have := f.l w hw
    omega
def abvN (l q : Nat) : Nat → Nat
  | 0 => 1
  | m + 1 => abvN l q m * ((l + m + 1) * q)
theorem few_above {w : Tx} {l : Nat} {qs : List Nat} (hl : w.length ≤ l) : ∀ m : Nat, Few (above w qs m) (abvN l qs.length m) (l + m)
  | 0 => ⟨by simp [above, abvN], fun x hx => by rw [List.mem_singleton.mp hx]; exact hl⟩
  | m + 1 => few_by (few_ins (few_above hl m))
abbrev bIns : DenS := sExt 5 (dLc (dL seqD (dV 1)) (gN 8) tYesD (dAdd (dAdd (dSl (dV 6) pNone (pSome (dV 7))) (dV 8)) (dSl (dV 6) (pSome (dV 7)) pNone)) [8])
abbrev bAbv : DenS := sFor (dLL range1L (dCons (dAdd (dC lenD (dCons (dV 6) dNil)) (d0 (.int 1))) dNil)) (gN 7) bIns
theorem abv_at {x : Tx} {qs : List Nat} (hx : x.length ≤ 16777215) (hq : qs.length ≤ 16777216) : ∀ (ks : List Nat) (acc : List Tx) (a c d t k0 : Sl), (∀ k ∈ ks, k ≤ x.length) → acc.length + (ks.flatMap fun k => qs.map fun z => ins x k z).length ≤ 16777216 →
    ∃ k1, forD (gN 7) bIns (ks.map fun k : Nat => D.int (k : Int)) [a, .sh (.tup (qs.map sgD)), c, d, t, .ow false (WL acc), .sh (.str x), k0, .no]
      = some (.nx [a, .sh (.tup (qs.map sgD)), c, d, t, .ow false (WL (acc ++ ks.flatMap fun k => qs.map fun z => ins x k z)), .sh (.str x), k1, .no])
  | [], acc, a, c, d, t, k0, _, _ => ⟨k0, by simp [forD]⟩
  | k :: ks, acc, a, c, d, t, k0, hk, hz => by
    rw [List.flatMap_cons, List.length_append, List.length_map] at hz
    obtain ⟨k1, e⟩ := abv_at hx hq ks (acc ++ qs.map fun z => ins x k z) a c d t (.sh (.int (k : Int))) (fun j hj => hk j (List.mem_cons_of_mem _ hj)) (by rw [List.length_append, List.length_map]; omega)
    refine ⟨k1, ?_⟩
    rw [List.map_cons, forD]
    simp only [evl, List.length_cons, List.length_nil, List.set_cons_succ, List.set_cons_zero, List.getElem?_cons_succ, List.getElem?_cons_zero, seqD, lc_ins hx (hk k List.mem_cons_self), List.length_map, hq, if_true, Nat.reduceAdd, Nat.reduceLT]
    rw [if_pos (by omega)]
    dsimp only
    rw [show (qs.map fun z => D.str (ins x k z)) = (qs.map fun z => ins x k z).map .str by rw [List.map_map]; rfl, ← List.map_append, e, List.flatMap_cons, List.append_assoc]
theorem abv_one {qs : List Nat} (hq : qs.length ≤ 16777216) : ∀ (ws acc : List Tx) (a c d t x0 k0 : Sl), (∀ x ∈ ws, x.length ≤ 16777214) → acc.length + (ws.flatMap fun x => insP x qs).length ≤ 16777216 →
    ∃ x1 k1, forD (gN 6) bAbv (ws.map .str) [a, .sh (.tup (qs.map sgD)), c, d, t, .ow false (WL acc), x0, k0, .no]
      = some (.nx [a, .sh (.tup (qs.map sgD)), c, d, t, .ow false (WL (acc ++ ws.flatMap fun x => insP x qs)), x1, k1, .no])
  | [], acc, a, c, d, t, x0, k0, _, _ => ⟨x0, k0, by simp [forD]⟩
  | x :: ws, acc, a, c, d, t, x0, k0, hx, hz => by
    have hx1 := hx x List.mem_cons_self
    have hx0 : x.length ≤ 16777216 := by omega
    rw [List.flatMap_cons, List.length_append] at hz
    obtain ⟨k1, e1⟩ := abv_at (x := x) (qs := qs) (by omega) hq (List.range (x.length + 1)) acc a c d t k0 (fun k hk => Nat.le_of_lt_succ (List.mem_range.mp hk)) (by show acc.length + (insP x qs).length ≤ _; omega)
    obtain ⟨x2, k2, e2⟩ := abv_one hq ws (acc ++ insP x qs) a c d t (.sh (.str x)) k1 (fun y hy => hx y (List.mem_cons_of_mem _ hy)) (by rw [List.length_append]; omega)
    refine ⟨x2, k2, ?_⟩
    rw [List.map_cons, forD]
    simp only [evl, List.length_cons, List.length_nil, List.set_cons_succ, List.set_cons_zero, List.getElem?_cons_succ, List.getElem?_cons_zero, lenD, hx0, if_true, add_ii, cast1, range_n _ (show x.length + 1 ≤ 16777216 by omega), Nat.reduceAdd, Nat.reduceLT]
    rw [e1]
    dsimp only
    rw [show (List.range (x.length + 1)).flatMap (fun k => qs.map fun z => ins x k z) = insP x qs from rfl, e2, List.flatMap_cons, List.append_assoc]
theorem abv_mono {l q : Nat} (hl : l ≤ 8) (hq : q ≤ 3) : ∀ m, m ≤ 3 → abvN l q m * ((l + m + 1) * q) ≤ 16777216 := by
  intro m hm
  have b : ∀ m, m ≤ 3 → abvN l q m ≤ abvN 8 3 m := by
    intro m
    induction m with
    | zero => intro _; exact Nat.le_refl _
    | succ m ih =>
      intro h
      exact Nat.mul_le_mul (ih (by omega)) (Nat.mul_le_mul (by omega) hq)
  have h2 : (l + m + 1) * q ≤ (8 + m + 1) * 3 := Nat.mul_le_mul (by omega) hq
  have h3 := Nat.mul_le_mul (b m hm) h2
  refine Nat.le_trans h3 ?_
  have : m = 0 ∨ m = 1 ∨ m = 2 ∨ m = 3 := by omega
  rcases this with e | e | e | e <;> subst e <;> decide
theorem r_above_in (w : Tx) (qs : List Nat) (m : Nat) (h : w.length ≤ 8) (hq : qs.length ≤ 3) (hm : m ≤ 3) : runD 9 3 m_above_in [.str w, .tup (qs.map sgD), .int (m : Int)] = some (WL (above w qs m)) := by
  have outer : ∀ (k p : Nat) (t l o i : Sl), p + k ≤ 3 → ∀ ds : List D, ds.length = k →
      ∃ t1 l1 o1 i1, forD (gN 4) (sSeq (sSetO 5 (dC mkLst dNil)) (sSeq (sFor (dL seqD (dV 3)) (gN 6) bAbv) (sSet 3 (dC (runD 2 1 m_by_words) (dCons (dV 5) dNil))))) ds
          [.sh (.str w), .sh (.tup (qs.map sgD)), .sh (.int (m : Int)), .sh (WL (above w qs p)), t, l, o, i, .no] = some (.nx [.sh (.str w), .sh (.tup (qs.map sgD)), .sh (.int (m : Int)), .sh (WL (above w qs (p + k))), t1, l1, o1, i1, .no]) := by
    intro k
    induction k with
    | zero =>
      intro p t l o i _ ds hd
      rw [List.eq_nil_of_length_eq_zero hd]
      exact ⟨t, l, o, i, rfl⟩
    | succ k ih =>
      intro p t l o i hp ds hd
      cases ds with
      | nil => cases hd
      | cons d ds =>
        have fb := few_above (qs := qs) h p
        have fc := few_ins (qs := qs) fb
        have big : ((above w qs p).flatMap fun x => insP x qs).length ≤ 16777216 := Nat.le_trans fc.n (abv_mono (Nat.le_refl 8) hq p (by omega))
        obtain ⟨x1, k1, e⟩ := abv_one (qs := qs) (by omega) (above w qs p) [] (.sh (.str w)) (.sh (.int (m : Int))) (.sh (WL (above w qs p))) (.sh d) o i (fun x hx => by have := fb.l x hx; omega) (by simpa using big)
        have by1 := r_by_words ((above w qs p).flatMap fun x => insP x qs) big fun x hx => by have := fc.l x hx; omega
        rw [List.nil_append] at e
        obtain ⟨t', l', o', i', e2⟩ := ih (p + 1) (.sh d) (.sh (WL ((above w qs p).flatMap fun x => insP x qs))) x1 k1 (by omega) ds (by simpa using hd)
        refine ⟨t', l', o', i', ?_⟩
        rw [forD]
        simp only [evl, List.length_cons, List.length_nil, List.set_cons_succ, List.set_cons_zero, List.getElem?_cons_succ, List.getElem?_cons_zero, mkLst, seqD, if_true, Nat.reduceAdd, Nat.reduceLT, Nat.zero_le]
        rw [show D.lst [] = WL [] from rfl, e]
        simp only [evl, List.length_cons, List.length_nil, List.set_cons_succ, List.set_cons_zero, List.getElem?_cons_succ, List.getElem?_cons_zero, if_true, Nat.reduceAdd, Nat.reduceLT, by1]
        rw [show p + (k + 1) = p + 1 + k by omega]
        exact e2
  obtain ⟨t, l, o, i, e⟩ := outer m 0 .no .no .no .no (by omega) ((List.range m).map fun k : Nat => D.int (k : Int)) (by simp)
  rw [Nat.zero_add] at e
  rw [runD_3]
  simp only [evl, startR, m_above_in, List.length_cons, List.length_nil, List.map_cons, List.map_nil, Nat.reduceSub, Nat.reduceAdd, Nat.reduceLT, List.replicate_succ, List.replicate_zero, List.cons_append, List.nil_append, List.set_cons_succ, List.set_cons_zero, List.getElem?_cons_succ, List.getElem?_cons_zero, mkLst, if_true, range_n m (by omega), Nat.reduceLeDiff]
  rw [show D.lst [D.str w] = WL (above w qs 0) from rfl, e]
  simp only [evl, List.getElem?_cons_succ, List.getElem?_cons_zero]
end DLP

/-! The plain law, part 4: what the program's calls answer; the law's own layers. -/
namespace DLP
open PySem PySem.Spec PyProof.Rows L2 RZ DL

theorem r_outs_of (w : Tx) (m : Nat) (v : Valid w) (h : w.length ≤ 8) (hm : m ≤ 3) : runD 2 2 m_outs_of [.str w, .int (m : Int)] = some (.tup ((below w m).map .str)) := by
  rw [runD_2]
  simp only [evl, startR, m_outs_of, List.length_cons, List.length_nil, List.map_cons, List.map_nil, Nat.reduceSub, Nat.reduceAdd, List.replicate_zero, List.append_nil, List.getElem?_cons_succ, List.getElem?_cons_zero, r_short w v h, r_number (m : Int) 0 3 (by omega) (by omega) (by omega) (by omega), r_below_in w m h hm, tupleD]
/-- the law's sign tuples -/
def SG (qs : List Nat) : Prop := qs = [97, 98] ∨ qs = [97] ∨ qs = [97, 98, 99] ∨ qs = [98, 101]
theorem SG.nd {qs : List Nat} (h : SG qs) : qs.Nodup := by rcases h with e | e | e | e <;> subst e <;> decide
theorem SG.len {qs : List Nat} (h : SG qs) : qs.length ≤ 3 := by rcases h with e | e | e | e <;> subst e <;> decide
theorem SG.in {qs : List Nat} (h : SG qs) : ∀ c ∈ qs, c ∈ sgs := by rcases h with e | e | e | e <;> subst e <;> decide
theorem r_is_sign (c : Nat) (h : c ∈ sgs) : runD 1 1 m_is_sign [sgD c] = some (.bl true) := by
  have h' : c ∈ ([97, 98, 99, 100, 101] : List Nat) := h
  rw [runD_1]
  simp only [evl, startR, m_is_sign, List.length_cons, List.length_nil, List.map_cons, List.map_nil, Nat.reduceSub, Nat.reduceAdd, List.replicate_zero, List.append_nil, List.getElem?_cons_zero, isi_ss, lenD, if_true, Nat.reduceLeDiff, eq_ii, inSign, h', decide_true]
  rfl
theorem r_signs (qs : List Nat) (h : SG qs) : runD 1 1 m_require_signs [.tup (qs.map sgD)] = some .non := by
  have key : runD 4 1 m_are_signs [.tup (qs.map sgD)] = some (.bl true) := by
    have k1 : lcD (gN 3) tYesD (dC (runD 1 1 m_is_sign) (dCons (dV 3) dNil)) [3] (qs.map sgD) [.sh (.tup (qs.map sgD)), .no, .no, .no] = some (qs.map fun _ => .bl true, [.sh (.tup (qs.map sgD)), .no, .no, .no]) := by
      refine lcD_all rfl qs fun c hc => ⟨_, [.sh (.tup (qs.map sgD)), .no, .no, .sh (sgD c)], rfl, ?_, rfl⟩
      simp only [evl, wipeR, List.set_cons_succ, List.set_cons_zero, List.getElem?_cons_succ, List.getElem?_cons_zero, r_is_sign c (h.in c hc)]
    rw [runD_1]
    simp only [evl, startR, m_are_signs, List.length_cons, List.length_nil, List.map_cons, List.map_nil, Nat.reduceSub, Nat.reduceAdd, List.replicate_succ, List.replicate_zero, List.cons_append, List.nil_append, List.getElem?_cons_zero, isi_tt, lenD, List.length_map, eq_ii, seqD, k1]
    rcases h with e | e | e | e <;> subst e <;> rfl
  rw [runD_1]
  simp only [evl, startR, m_require_signs, List.length_cons, List.length_nil, List.map_cons, List.map_nil, Nat.reduceSub, Nat.reduceAdd, List.replicate_zero, List.append_nil, List.getElem?_cons_zero, key]
  rfl
theorem r_puts_of (w : Tx) (qs : List Nat) (m : Nat) (v : Valid w) (h : w.length ≤ 8) (hq : SG qs) (hm : m ≤ 3) : runD 3 3 m_puts_of [.str w, .tup (qs.map sgD), .int (m : Int)] = some (.tup ((above w qs m).map .str)) := by
  rw [runD_3]
  simp only [evl, startR, m_puts_of, List.length_cons, List.length_nil, List.map_cons, List.map_nil, Nat.reduceSub, Nat.reduceAdd, List.replicate_zero, List.append_nil, List.getElem?_cons_succ, List.getElem?_cons_zero, r_short w v h, r_signs qs hq, r_number (m : Int) 0 3 (by omega) (by omega) (by omega) (by omega), r_above_in w qs m h hq.len hm, tupleD]

/-! ### the law's layers -/
theorem add_ll (l m : List D) (h : l.length + m.length ≤ 16777216) : addL (.lst l) (.lst m) = some (.lst (l ++ m)) := by
  show (if l.length + m.length ≤ 16777216 then some (D.lst (l ++ m)) else none) = _
  rw [if_pos h]
theorem add_li (l m : List D) : addI (.lst l) (.lst m) = none := rfl
theorem add_ls (l m : List D) : addS (.lst l) (.lst m) = none := rfl
theorem once_len {xs m : List Tx} (h : ∀ x ∈ xs, x ∈ m) : (once (xs.map rk)).length ≤ m.length := by
  have : (once (xs.map rk)).length ≤ (m.map rk).length := len_sub (once_nodup _) fun p hp => by
    obtain ⟨x, hx, rfl⟩ := List.mem_map.mp (mem_once.mp hp)
    exact List.mem_map.mpr ⟨x, h x hx, rfl⟩
  rwa [List.length_map] at this
theorem lc_cut4 {a b : Sl} {w : Tx} (h : w.length ≤ 16777216) : lcD (gN 3) tYesD (dAdd (dSl (dV 2) pNone (pSome (dV 3))) (dSl (dV 2) (pSome (dAdd (dV 3) (d0 (.int 1)))) pNone)) [3] ((List.range w.length).map fun k : Nat => D.int (k : Int)) [a, b, .sh (.str w), .no] =
    some ((cuts w).map .str, [a, b, .sh (.str w), .no]) := by
  unfold cuts
  rw [List.map_map]
  refine lcD_all rfl _ fun k hk => ⟨_, [a, b, .sh (.str w), .sh (.int (k : Int))], rfl, ?_, rfl⟩
  have hk := List.mem_range.mp hk
  have hz : (w.take k).length + (w.drop (k + 1)).length ≤ 16777216 := by rw [List.length_take, List.length_drop]; omega
  simp only [evl, wipeR, List.set_cons_succ, List.set_cons_zero, List.getElem?_cons_succ, List.getElem?_cons_zero, sl_to w k h, sl_from1 w k h, add_ii, add_is, add_ss _ _ hz]
  rfl
theorem outs_loop {A : Sl} : ∀ (ws acc : List Tx) (o : Sl), (∀ x ∈ ws, x.length ≤ 16777216) → acc.length + (ws.flatMap cuts).length ≤ 16777216 →
    ∃ o1, forD (gN 2) (sSet 1 (dAdd (dV 1) (dLc (dLL range1L (dCons (dC lenD (dCons (dV 2) dNil)) dNil)) (gN 3) tYesD (dAdd (dSl (dV 2) pNone (pSome (dV 3))) (dSl (dV 2) (pSome (dAdd (dV 3) (d0 (.int 1)))) pNone)) [3]))) (ws.map .str) [A, .sh (WL acc), o, .no]
      = some (.nx [A, .sh (WL (acc ++ ws.flatMap cuts)), o1, .no])
  | [], acc, o, _, _ => ⟨o, by simp [forD]⟩
  | x :: ws, acc, o, hx, hz => by
    have hx0 := hx x List.mem_cons_self
    rw [List.flatMap_cons, List.length_append, cuts_len] at hz
    obtain ⟨o1, e⟩ := outs_loop ws (acc ++ cuts x) (.sh (.str x)) (fun y hy => hx y (List.mem_cons_of_mem _ hy)) (by rw [List.length_append, cuts_len]; omega)
    refine ⟨o1, ?_⟩
    rw [List.map_cons, forD]
    simp only [evl, List.length_cons, List.length_nil, List.set_cons_succ, List.set_cons_zero, List.getElem?_cons_succ, List.getElem?_cons_zero, lenD, hx0, if_true, range_n _ hx0, lc_cut4 hx0, List.length_map, cuts_len, Nat.reduceAdd, Nat.reduceLT, add_li, add_ls, add_ll _ _ (show (acc.map D.str).length + ((cuts x).map D.str).length ≤ 16777216 by rw [List.length_map, List.length_map, cuts_len]; omega)]
    rw [← List.map_append, e, List.flatMap_cons, List.append_assoc]
theorem r_law_outs (ws : List Tx) (hx : ∀ x ∈ ws, x.length ≤ 16777216) (hz : (ws.flatMap cuts).length ≤ 16777216) (few : (once ((ws.flatMap cuts).map rk)).length < 300) : runD 4 1 m__law_outs [WL ws] = some (WL (outsL ws)) := by
  obtain ⟨o, e⟩ := outs_loop (A := .sh (WL ws)) ws [] .no hx (by simpa using hz)
  rw [List.nil_append] at e
  have od := r_ordered (ws.flatMap cuts) hz (fun y hy => by
    obtain ⟨w, hw, h⟩ := List.mem_flatMap.mp hy
    obtain ⟨k, hk, rfl⟩ := mem_cuts.mp h
    have := cut_len hk
    have := hx w hw
    omega) few
  rw [runD_1]
  simp only [evl, startR, m__law_outs, List.length_cons, List.length_nil, List.map_cons, List.map_nil, Nat.reduceSub, Nat.reduceAdd, Nat.reduceLT, List.replicate_succ, List.replicate_zero, List.cons_append, List.nil_append, List.set_cons_succ, List.set_cons_zero, List.getElem?_cons_succ, List.getElem?_cons_zero, mkLst, if_true, Nat.zero_le, seqD]
  rw [show D.lst [] = WL [] from rfl, e]
  simp only [evl, List.getElem?_cons_succ, List.getElem?_cons_zero, od]
  rfl
theorem lc_ins6 {a b c : Sl} {w : Tx} {z : Nat} (h : w.length ≤ 16777215) : lcD (gN 5) tYesD (dAdd (dAdd (dSl (dV 3) pNone (pSome (dV 5))) (dV 4)) (dSl (dV 3) (pSome (dV 5)) pNone)) [5] ((List.range (w.length + 1)).map fun k : Nat => D.int (k : Int)) [a, b, c, .sh (.str w), .sh (sgD z), .no] =
    some (((List.range (w.length + 1)).map fun k => ins w k z).map .str, [a, b, c, .sh (.str w), .sh (sgD z), .no]) := by
  rw [List.map_map]
  refine lcD_all rfl _ fun k hk => ⟨_, [a, b, c, .sh (.str w), .sh (sgD z), .sh (.int (k : Int))], rfl, ?_, rfl⟩
  have h0 : w.length ≤ 16777216 := by omega
  have hk := List.mem_range.mp hk
  have h1 : (w.take k).length + [z].length ≤ 16777216 := by rw [List.length_take, List.length_singleton]; omega
  have h2 : (w.take k ++ [z]).length + (w.drop k).length ≤ 16777216 := by rw [List.length_append, List.length_take, List.length_drop, List.length_singleton]; omega
  simp only [evl, wipeR, List.set_cons_succ, List.set_cons_zero, List.getElem?_cons_succ, List.getElem?_cons_zero, sl_to w k h0, sl_from w k h0, add_is, add_ss _ _ h1, add_ss _ _ h2]
  rfl
abbrev bPut : DenS := sSet 2 (dAdd (dV 2) (dLc (dLL range1L (dCons (dAdd (dC lenD (dCons (dV 3) dNil)) (d0 (.int 1))) dNil)) (gN 5) tYesD (dAdd (dAdd (dSl (dV 3) pNone (pSome (dV 5))) (dV 4)) (dSl (dV 3) (pSome (dV 5)) pNone)) [5]))
theorem puts_in {A B : Sl} {x : Tx} (hx : x.length ≤ 16777214) : ∀ (qs : List Nat) (acc : List Tx) (s : Sl), acc.length + (insL x qs).length ≤ 16777216 →
    ∃ s1, forD (gN 4) bPut (qs.map sgD) [A, B, .sh (WL acc), .sh (.str x), s, .no] = some (.nx [A, B, .sh (WL (acc ++ insL x qs)), .sh (.str x), s1, .no])
  | [], acc, s, _ => ⟨s, by simp [forD, insL]⟩
  | z :: qs, acc, s, hz => by
    have hx0 : x.length ≤ 16777216 := by omega
    have ec : insL x (z :: qs) = ((List.range (x.length + 1)).map fun k => ins x k z) ++ insL x qs := rfl
    rw [ec, List.length_append, List.length_map, List.length_range] at hz
    obtain ⟨s1, e⟩ := puts_in hx qs (acc ++ (List.range (x.length + 1)).map fun k => ins x k z) (.sh (sgD z)) (by rw [List.length_append, List.length_map, List.length_range]; omega)
    refine ⟨s1, ?_⟩
    rw [List.map_cons, forD]
    simp only [evl, List.length_cons, List.length_nil, List.set_cons_succ, List.set_cons_zero, List.getElem?_cons_succ, List.getElem?_cons_zero, lenD, hx0, if_true, add_ii, cast1, range_n _ (show x.length + 1 ≤ 16777216 by omega), lc_ins6 (show x.length ≤ 16777215 by omega), List.length_map, List.length_range, Nat.reduceAdd, Nat.reduceLT,
      show x.length + 1 ≤ 16777216 by omega, add_li, add_ls, add_ll (acc.map D.str) (((List.range (x.length + 1)).map fun k => ins x k z).map D.str) (by rw [List.length_map, List.length_map, List.length_map, List.length_range]; omega)]
    rw [← List.map_append, e, ec, List.append_assoc]
theorem puts_out {A : Sl} {qs : List Nat} : ∀ (ws acc : List Tx) (o s : Sl), (∀ x ∈ ws, x.length ≤ 16777214) → acc.length + (ws.flatMap fun x => insL x qs).length ≤ 16777216 →
    ∃ o1 s1, forD (gN 3) (sFor (dL seqD (dV 1)) (gN 4) bPut) (ws.map .str) [A, .sh (.tup (qs.map sgD)), .sh (WL acc), o, s, .no] = some (.nx [A, .sh (.tup (qs.map sgD)), .sh (WL (acc ++ ws.flatMap fun x => insL x qs)), o1, s1, .no])
  | [], acc, o, s, _, _ => ⟨o, s, by simp [forD]⟩
  | x :: ws, acc, o, s, hx, hz => by
    rw [List.flatMap_cons, List.length_append] at hz
    obtain ⟨s1, e1⟩ := puts_in (A := A) (B := .sh (.tup (qs.map sgD))) (hx x List.mem_cons_self) qs acc s (by omega)
    obtain ⟨o2, s2, e2⟩ := puts_out (A := A) (qs := qs) ws (acc ++ insL x qs) (.sh (.str x)) s1 (fun y hy => hx y (List.mem_cons_of_mem _ hy)) (by rw [List.length_append]; omega)
    refine ⟨o2, s2, ?_⟩
    rw [List.map_cons, forD]
    simp only [evl, List.length_cons, List.length_nil, List.set_cons_succ, List.set_cons_zero, List.getElem?_cons_succ, List.getElem?_cons_zero, if_true, Nat.reduceAdd, Nat.reduceLT, seqD, e1]
    rw [e2, List.flatMap_cons, List.append_assoc]
theorem r_law_puts (ws : List Tx) (qs : List Nat) (hx : ∀ x ∈ ws, x.length ≤ 16777214) (hz : (ws.flatMap fun x => insL x qs).length ≤ 16777216) (few : (once ((ws.flatMap fun x => insL x qs).map rk)).length < 300) :
    runD 6 2 m__law_puts [WL ws, .tup (qs.map sgD)] = some (WL (putsL ws qs)) := by
  obtain ⟨o, s, e⟩ := puts_out (A := .sh (WL ws)) (qs := qs) ws [] .no .no hx (by simpa using hz)
  rw [List.nil_append] at e
  have od := r_ordered (ws.flatMap fun x => insL x qs) hz (fun y hy => by
    obtain ⟨w, hw, h⟩ := List.mem_flatMap.mp hy
    obtain ⟨k, c, hk, _, rfl⟩ := mem_insL.mp h
    rw [ins_len hk]
    have := hx w hw
    omega) few
  rw [runD_2]
  simp only [evl, startR, m__law_puts, List.length_cons, List.length_nil, List.map_cons, List.map_nil, Nat.reduceSub, Nat.reduceAdd, Nat.reduceLT, List.replicate_succ, List.replicate_zero, List.cons_append, List.nil_append, List.set_cons_succ, List.set_cons_zero, List.getElem?_cons_succ, List.getElem?_cons_zero, mkLst, if_true, Nat.zero_le, seqD]
  rw [show D.lst [] = WL [] from rfl, e]
  simp only [evl, List.getElem?_cons_succ, List.getElem?_cons_zero, od]
  rfl
end DLP

/-! The plain law, part 5: counts, runs, the longest common part. -/
namespace DLP
open PySem PySem.Spec PyProof.Rows L2 RZ DL

/-! ### choose, count -/
def chS (t f k : Nat) : Nat := f * (t - k) / (k + 1)
def cho (t n : Nat) : Nat := (List.range n).foldl (chS t) 1
theorem log_le {n k : Nat} (h : n < 2 ^ k) : n.log2 ≤ k := by
  by_cases z : n = 0
  · subst z; simp
  · exact Nat.le_of_lt ((Nat.log2_lt z).mpr h)
theorem mul_nn (a b x y : Nat) (ha : a < 2 ^ x) (hb : b < 2 ^ y) (h : x + y ≤ 900000) : mulI (.int (a : Int)) (.int (b : Int)) = some (.int ((a * b : Nat) : Int)) := by
  have h1 := log_le ha
  have h2 := log_le hb
  show (if (a : Int).natAbs.log2 + (b : Int).natAbs.log2 ≤ 900000 then some (D.int ((a : Int) * (b : Int))) else none) = _
  rw [Int.natAbs_natCast, Int.natAbs_natCast, if_pos (by omega), Int.natCast_mul]
theorem div_nn (a b : Nat) (hb : 0 < b) (h : b < 2 ^ 8999) : divW (.int (a : Int)) (.int (b : Int)) = some (.int ((a / b : Nat) : Int)) := by
  have h1 := log_le h
  show (if 0 < (b : Int) ∧ (b : Int).natAbs.log2 < 9000 then some (D.int ((a : Int) / (b : Int))) else none) = _
  rw [Int.natAbs_natCast, if_pos ⟨by omega, by omega⟩, Int.natCast_ediv]
theorem sub_nn (a b : Nat) (h : b ≤ a) : subI (.int (a : Int)) (.int (b : Int)) = some (.int ((a - b : Nat) : Int)) := by
  show some (D.int ((a : Int) - (b : Int))) = _
  rw [Int.natCast_sub h]
theorem add_nn (a b : Nat) : addI (.int (a : Int)) (.int (b : Int)) = some (.int ((a + b : Nat) : Int)) := by
  show some (D.int ((a : Int) + (b : Int))) = _
  rw [Int.natCast_add]
theorem add_n1 (a : Nat) : addI (.int (a : Int)) (.int 1) = some (.int ((a + 1 : Nat) : Int)) := rfl
abbrev bCho : DenS := sSet 2 (d2 divW (dMul (dV 2) (d2 subI (dV 0) (dV 3))) (dAdd (dV 3) (d0 (.int 1))))
theorem chS_le {t f k s : Nat} (ht : t ≤ 255) (h : f ≤ 256 ^ s) : chS t f k ≤ 256 ^ (s + 1) := by
  unfold chS
  refine Nat.le_trans (Nat.div_le_self _ _) ?_
  rw [Nat.pow_succ]
  exact Nat.mul_le_mul h (by omega)
theorem two_of (s : Nat) (h : s ≤ 61) {f : Nat} (hf : f ≤ 256 ^ s) : f < 2 ^ 489 := by
  have h1 : 256 ^ s ≤ 256 ^ 61 := Nat.pow_le_pow_right (by decide) h
  have h2 : 256 ^ 61 < 2 ^ 489 := by decide +kernel
  omega
theorem cho_loop {B : Sl} {t : Nat} (ht : t ≤ 255) : ∀ (j s f : Nat) (k0 : Sl), f ≤ 256 ^ s → s + j ≤ 61 → s + j ≤ t + 1 →
    ∃ k1, forD (gN 3) bCho ((List.range' s j).map fun k : Nat => D.int (k : Int)) [.sh (.int (t : Int)), B, .sh (.int (f : Int)), k0] = some (.nx [.sh (.int (t : Int)), B, .sh (.int (((List.range' s j).foldl (chS t) f : Nat) : Int)), k1])
  | 0, s, f, k0, _, _, _ => ⟨k0, rfl⟩
  | j + 1, s, f, k0, hf, h1, h2 => by
    obtain ⟨k1, e⟩ := cho_loop ht j (s + 1) (chS t f s) (.sh (.int (s : Int))) (chS_le ht hf) (by omega) (by omega)
    refine ⟨k1, ?_⟩
    have b1 := two_of s (by omega) hf
    rw [List.range'_succ, List.map_cons, forD]
    simp only [evl, List.length_cons, List.length_nil, List.set_cons_succ, List.set_cons_zero, List.getElem?_cons_succ, List.getElem?_cons_zero, if_true, Nat.reduceAdd, Nat.reduceLT, sub_nn t s (by omega), mul_nn f (t - s) 489 8 b1 (by omega) (by decide), add_n1, div_nn (f * (t - s)) (s + 1) (by omega) (Nat.lt_of_lt_of_le (show s + 1 < 2 ^ 8 by omega) (Nat.pow_le_pow_right (n := 2) (by decide) (show 8 ≤ 8999 by decide)))]
    exact e
theorem r_choose (t n : Nat) (ht : t ≤ 255) (hn : n ≤ 61) (h : n ≤ t + 1) : runD 4 2 m_choose_in [.int (t : Int), .int (n : Int)] = some (.int (cho t n : Int)) := by
  obtain ⟨k, e⟩ := cho_loop (B := .sh (.int (n : Int))) ht n 0 1 .no (by decide) (by omega) (by omega)
  rw [← List.range_eq_range', show (((1 : Nat) : Int)) = 1 from rfl] at e
  rw [runD_2]
  simp only [evl, startR, m_choose_in, List.length_cons, List.length_nil, List.map_cons, List.map_nil, Nat.reduceSub, Nat.reduceAdd, Nat.reduceLT, List.replicate_succ, List.replicate_zero, List.cons_append, List.nil_append, List.set_cons_succ, List.set_cons_zero, List.getElem?_cons_succ, List.getElem?_cons_zero, if_true, range_n n (by omega)]
  rw [e]
  simp only [evl, List.getElem?_cons_succ, List.getElem?_cons_zero]
  rfl
theorem law_choose_eq : m__law_choose = m_choose_in := rfl
theorem cho_le {t n : Nat} (ht : t ≤ 255) : cho t n ≤ 256 ^ n := by
  have : ∀ (j s f : Nat), f ≤ 256 ^ s → (List.range' s j).foldl (chS t) f ≤ 256 ^ (s + j) := by
    intro j
    induction j with
    | zero => intro s f h; exact h
    | succ j ih =>
      intro s f h
      have := ih (s + 1) (chS t f s) (chS_le ht h)
      rw [List.range'_succ, List.foldl_cons, show s + (j + 1) = s + 1 + j by omega]
      exact this
  unfold cho
  rw [List.range_eq_range']
  have := this n 0 1 (by decide)
  simpa using this
abbrev bCnt : DenS := sSeq (sAug 3 addI (dMul (dC (runD 4 2 m_choose_in) (dCons (dAdd (dV 0) (dV 2)) (dCons (dV 5) dNil))) (dV 4))) (sSet 4 (dMul (dV 4) (d2 subI (dV 1) (d0 (.int 1)))))
theorem cn1 {l q m f p s : Nat} (c1 : cho (l + m) s < 2 ^ 489) (p2 : p < 2 ^ 123) (hr : runD 4 2 m_choose_in [.int ((l + m : Nat) : Int), .int (s : Int)] = some (.int (cho (l + m) s : Int))) :
    sAug 3 addI (dMul (dC (runD 4 2 m_choose_in) (dCons (dAdd (dV 0) (dV 2)) (dCons (dV 5) dNil))) (dV 4)) [.sh (.int (l : Int)), .sh (.int (q : Int)), .sh (.int (m : Int)), .sh (.int (f : Int)), .sh (.int (p : Int)), .sh (.int (s : Int))] =
    some (.nx [.sh (.int (l : Int)), .sh (.int (q : Int)), .sh (.int (m : Int)), .sh (.int ((f + cho (l + m) s * p : Nat) : Int)), .sh (.int (p : Int)), .sh (.int (s : Int))]) := by
  simp only [evl, List.length_cons, List.length_nil, List.set_cons_succ, List.set_cons_zero, List.getElem?_cons_succ, List.getElem?_cons_zero, if_true, Nat.reduceAdd, Nat.reduceLT, add_nn, hr, mul_nn (cho (l + m) s) p 489 123 c1 p2 (by decide)]
theorem cn2 {l q m f p s : Nat} (p2 : p < 2 ^ 123) (q1 : subI (.int (q : Int)) (.int 1) = some (.int ((q - 1 : Nat) : Int))) (q2 : q - 1 < 2 ^ 3) :
    sSet 4 (dMul (dV 4) (d2 subI (dV 1) (d0 (.int 1)))) [.sh (.int (l : Int)), .sh (.int (q : Int)), .sh (.int (m : Int)), .sh (.int (f : Int)), .sh (.int (p : Int)), .sh (.int (s : Int))] =
    some (.nx [.sh (.int (l : Int)), .sh (.int (q : Int)), .sh (.int (m : Int)), .sh (.int (f : Int)), .sh (.int ((p * (q - 1) : Nat) : Int)), .sh (.int (s : Int))]) := by
  simp only [evl, List.length_cons, List.length_nil, List.set_cons_succ, List.set_cons_zero, List.getElem?_cons_succ, List.getElem?_cons_zero, if_true, Nat.reduceAdd, Nat.reduceLT, q1, mul_nn p (q - 1) 123 3 p2 q2 (by decide)]
theorem cn3 {p s q : Nat} (hq5 : q ≤ 5) (hp : p ≤ 4 ^ s) : p * (q - 1) ≤ 4 ^ (s + 1) := by
  rw [Nat.pow_succ]
  exact Nat.mul_le_mul hp (by omega)
theorem cn4 {l m s : Nat} (h : s ≤ 61) (h' : l + m ≤ 255) : cho (l + m) s < 2 ^ 489 := two_of s h (cho_le h')
theorem cn5 {s p : Nat} (h : s ≤ 61) (hp : p ≤ 4 ^ s) : p < 2 ^ 123 := by
  have h1 : 4 ^ s ≤ 4 ^ 61 := Nat.pow_le_pow_right (by decide) h
  have h2 : 4 ^ 61 < 2 ^ 123 := by decide +kernel
  exact Nat.lt_of_le_of_lt (Nat.le_trans hp h1) h2
theorem cnx1 {q : Nat} (hq : 1 ≤ q) : subI (.int (q : Int)) (.int 1) = some (.int ((q - 1 : Nat) : Int)) := sub_nn q 1 hq
theorem cnx2 {l m s : Nat} (hlm : l + m ≤ 255) (hs2 : s ≤ 61) (hs3 : s ≤ l + m + 1) : runD 4 2 m_choose_in [.int ((l + m : Nat) : Int), .int (s : Int)] = some (.int (cho (l + m) s : Int)) := r_choose (l + m) s hlm hs2 hs3
theorem cnx3 {l q m f p s : Nat} {k0 : Sl} : gN 5 (.int (s : Int)) [.sh (.int (l : Int)), .sh (.int (q : Int)), .sh (.int (m : Int)), .sh (.int (f : Int)), .sh (.int (p : Int)), k0] = some [.sh (.int (l : Int)), .sh (.int (q : Int)), .sh (.int (m : Int)), .sh (.int (f : Int)), .sh (.int (p : Int)), .sh (.int (s : Int))] := rfl
theorem cnx4 {l q m f p s : Nat} (hlm : l + m ≤ 255) (hs2 : s ≤ 61) (p2 : p < 2 ^ 123) (q1 : subI (.int (q : Int)) (.int 1) = some (.int ((q - 1 : Nat) : Int))) (q2 : q - 1 < 2 ^ 3) (hr : runD 4 2 m_choose_in [.int ((l + m : Nat) : Int), .int (s : Int)] = some (.int (cho (l + m) s : Int))) : bCnt [.sh (.int (l : Int)), .sh (.int (q : Int)), .sh (.int (m : Int)), .sh (.int (f : Int)), .sh (.int (p : Int)), .sh (.int (s : Int))] = some (.nx [.sh (.int (l : Int)), .sh (.int (q : Int)), .sh (.int (m : Int)), .sh (.int ((f + cho (l + m) s * p : Nat) : Int)), .sh (.int ((p * (q - 1) : Nat) : Int)), .sh (.int (s : Int))]) := by
  have a1 := cn1 (q := q) (f := f) (cn4 hs2 hlm) p2 hr
  have a2 := cn2 (l := l) (m := m) (f := f + cho (l + m) s * p) (s := s) p2 q1 q2
  rw [show bCnt [.sh (.int (l : Int)), .sh (.int (q : Int)), .sh (.int (m : Int)), .sh (.int (f : Int)), .sh (.int (p : Int)), .sh (.int (s : Int))] = _ from sSeq_ap, a1, bnd_s, kSq_n, a2]
theorem forD_step {g : DenG} {b : DenS} {d : D} {ds : List D} {ρ ρ1 ρ2 : Rho} (hg : g d ρ = some ρ1) (hb : b ρ1 = some (.nx ρ2)) : forD g b (d :: ds) ρ = forD g b ds ρ2 := by
  rw [forD, hg]
  dsimp only
  rw [hb]
theorem cn7 {l q m f p s : Nat} {ds : List D} {k0 : Sl} {z : Option Out} (hlm : l + m ≤ 255) (hs2 : s ≤ 61) (hs3 : s ≤ l + m + 1) (p2 : p < 2 ^ 123) (hq : 1 ≤ q) (q2 : q - 1 < 2 ^ 3)
   (e : forD (gN 5) bCnt ds [.sh (.int (l : Int)), .sh (.int (q : Int)), .sh (.int (m : Int)), .sh (.int ((f + cho (l + m) s * p : Nat) : Int)), .sh (.int ((p * (q - 1) : Nat) : Int)), .sh (.int (s : Int))] = z) :
   forD (gN 5) bCnt (.int (s : Int) :: ds) [.sh (.int (l : Int)), .sh (.int (q : Int)), .sh (.int (m : Int)), .sh (.int (f : Int)), .sh (.int (p : Int)), k0] = z :=
  (forD_step (cnx3 (l := l) (q := q) (m := m) (f := f) (p := p) (s := s) (k0 := k0)) (cnx4 (f := f) hlm hs2 p2 (cnx1 hq) q2 (cnx2 hlm hs2 hs3))).trans e
def cnR (t q : Nat) : Nat → Nat → Nat → Nat → Nat
  | 0, _, f, _ => f
  | j + 1, s, f, p => cnR t q j (s + 1) (f + cho t s * p) (p * (q - 1))
theorem cnR_succ {t q j s f p : Nat} : cnR t q (j + 1) s f p = cnR t q j (s + 1) (f + cho t s * p) (p * (q - 1)) := rfl
theorem cn8 {l q m s f p : Nat} {k0 : Sl} : ∃ p1 k1, forD (gN 5) bCnt
      ((List.range' s 0).map fun k : Nat => D.int (k : Int)) [.sh (.int (l : Int)), .sh (.int (q : Int)), .sh (.int (m : Int)), .sh (.int (f : Int)), .sh (.int (p : Int)), k0]
      = some (.nx [.sh (.int (l : Int)), .sh (.int (q : Int)), .sh (.int (m : Int)), .sh (.int ((cnR (l + m) q 0 s f p : Nat) : Int)), p1, k1]) := ⟨_, k0, rfl⟩
def cnG (l q m j s f p : Nat) (k0 : Sl) : Prop := ∃ p1 k1, forD (gN 5) bCnt
      ((List.range' s j).map fun k : Nat => D.int (k : Int)) [.sh (.int (l : Int)), .sh (.int (q : Int)), .sh (.int (m : Int)), .sh (.int (f : Int)), .sh (.int (p : Int)), k0]
      = some (.nx [.sh (.int (l : Int)), .sh (.int (q : Int)), .sh (.int (m : Int)), .sh (.int ((cnR (l + m) q j s f p : Nat) : Int)), p1, k1])
theorem cn9 {l q m j s f p : Nat} {k0 : Sl} (hlm : l + m ≤ 255) (hs2 : s ≤ 61) (hs3 : s ≤ l + m + 1) (p2 : p < 2 ^ 123) (hq : 1 ≤ q) (q2 : q - 1 < 2 ^ 3)
   (e : cnG l q m j (s + 1) (f + cho (l + m) s * p) (p * (q - 1)) (.sh (.int (s : Int)))) : cnG l q m (j + 1) s f p k0 := by
  obtain ⟨p1, k1, e⟩ := e
  refine ⟨p1, k1, ?_⟩
  rw [List.range'_succ, List.map_cons, cnR_succ]
  exact cn7 hlm hs2 hs3 p2 hq q2 e
theorem cnt_loop {l q m : Nat} (hl : l ≤ 60) (hq : 1 ≤ q) (hq5 : q ≤ 5) (hm : m ≤ 60) (j : Nat) : ∀ (s f p : Nat) (k0 : Sl), p ≤ 4 ^ s → s + j ≤ m + 1 → cnG l q m j s f p k0 := by
  induction j with
  | zero => intro s f p k0 _ _; exact cn8
  | succ j ih =>
    intro s f p k0 hp hs
    have q2 : q - 1 < 2 ^ 3 := by omega
    have hs1 : s + 1 + j ≤ m + 1 := by omega
    have hs2 : s ≤ 61 := by omega
    have hs3 : s ≤ l + m + 1 := by omega
    have hlm : l + m ≤ 255 := by omega
    exact cn9 hlm hs2 hs3 (cn5 hs2 hp) hq q2 (ih (s + 1) (f + cho (l + m) s * p) (p * (q - 1)) (.sh (.int (s : Int))) (cn3 hq5 hp) hs1)
def cnt (l q m : Nat) : Nat := cnR (l + m) q (m + 1) 0 0 1
theorem r_count (l q m : Nat) (hl : l ≤ 60) (hq : 1 ≤ q) (hq5 : q ≤ 5) (hm : m ≤ 60) : runD 6 3 m_count_puts [.int (l : Int), .int (q : Int), .int (m : Int)] = some (.int (cnt l q m : Int)) := by
  obtain ⟨p1, k1, e⟩ := cnt_loop hl hq hq5 hm (m + 1) 0 0 1 .no (Nat.le_refl 1) (by omega)
  rw [← List.range_eq_range', show (((1 : Nat) : Int)) = 1 from rfl, show (((0 : Nat) : Int)) = 0 from rfl] at e
  have n1 := r_number (l : Int) 0 60 (by omega) (by omega) (by omega) (by omega)
  have n2 := r_number (q : Int) 1 5 (by omega) (by omega) (by omega) (by omega)
  have n3 := r_number (m : Int) 0 60 (by omega) (by omega) (by omega) (by omega)
  rw [runD_3]
  simp only [evl, startR, m_count_puts, List.length_cons, List.length_nil, List.map_cons, List.map_nil, Nat.reduceSub, Nat.reduceAdd, Nat.reduceLT, List.replicate_succ, List.replicate_zero, List.cons_append, List.nil_append, List.set_cons_succ, List.set_cons_zero, List.getElem?_cons_succ, List.getElem?_cons_zero, if_true,
    n1, n2, n3, add_n1, range_n (m + 1) (by omega), mkTup, Nat.reduceLeDiff]
  rw [e]
  simp only [evl, List.getElem?_cons_succ, List.getElem?_cons_zero]
  unfold cnt
  rfl
/-- the number of words above -/
theorem cnt_sup : ∀ q, q = 1 ∨ q = 2 ∨ q = 3 → ∀ n, n ≤ 6 → ∀ m, m ≤ 2 → cnt n q m = supN q n m := by
  have key : ((List.range 7).all fun n => (List.range 3).all fun m => cnt n 1 m == supN 1 n m && cnt n 2 m == supN 2 n m && cnt n 3 m == supN 3 n m) = true := by decide +kernel
  intro q hq n hn m hm
  have h1 := List.all_eq_true.mp (List.all_eq_true.mp key n (List.mem_range.mpr (by omega))) m (List.mem_range.mpr (by omega))
  rw [Bool.and_eq_true, Bool.and_eq_true, beq_iff_eq, beq_iff_eq, beq_iff_eq] at h1
  rcases hq with e | e | e <;> subst e
  · exact h1.1.1
  · exact h1.1.2
  · exact h1.2
end DLP

/-! The plain law, part 6: runs, the longest common part. -/
namespace DLP
open PySem PySem.Spec PyProof.Rows L2 RZ DL

/-! ### items -/
theorem at_n {α : Type} (l : List α) (k : Nat) : atI l (k : Int) = l[k]? := by
  unfold atI ixN
  rw [if_pos (Int.natCast_nonneg k)]
  by_cases h : k < l.length
  · rw [if_pos (by omega)]
    show l[((k : Int)).toNat]? = _
    rw [Int.toNat_natCast]
  · rw [if_neg (by omega), List.getElem?_eq_none (by omega)]
    rfl
theorem at_last {α : Type} (l : List α) (x : α) : atI (l ++ [x]) (-1) = some x := by
  unfold atI ixN
  rw [if_neg (by decide), List.length_append, List.length_singleton, if_pos (by omega)]
  show (l ++ [x])[((-1 : Int) + ((l.length + 1 : Nat) : Int)).toNat]? = some x
  rw [show ((-1 : Int) + ((l.length + 1 : Nat) : Int)).toNat = l.length by omega, List.getElem?_append_right (Nat.le_refl _), Nat.sub_self]
  rfl
theorem ix_str {w : Tx} {k : Nat} (h : k < w.length) (hl : w.length ≤ 16777216) : ixD (.str w) (.int (k : Int)) = some (.str [w.getD k 0]) := by
  show (if w.length ≤ 16777216 then (atI w (k : Int)).map (fun c => D.str [c]) else none) = _
  rw [if_pos hl, at_n, List.getD_eq_getElem?_getD, List.getElem?_eq_getElem h]
  rfl
theorem ok_of {w : Tx} (v : Valid w) : Ok w := by
  intro c hc
  have h := List.all_eq_true.mp v c hc
  rw [decide_eq_true_eq] at h
  have : ∀ d ∈ sgs, d < 1114112 := by decide
  exact this c h
theorem ok_1 {w : Tx} {k : Nat} (o : Ok w) (h : k < w.length) : Ok [w.getD k 0] := by
  intro c hc
  rw [List.mem_singleton.mp hc, List.getD_eq_getElem?_getD, List.getElem?_eq_getElem h]
  exact o _ (List.getElem_mem h)
theorem enumL_w (w : Tx) : ∀ n, enumL n (w.map fun c => D.str [c]) = (List.range w.length).map fun k => D.tup [.int ((n + k : Nat) : Int), .str [w.getD k 0]] := by
  intro n
  refine List.ext_getElem? fun i => ?_
  rw [enumL_get, List.getElem?_map, List.getElem?_map]
  by_cases h : i < w.length
  · rw [List.getElem?_range h, List.getElem?_eq_getElem h]
    simp [List.getD_eq_getElem?_getD, List.getElem?_eq_getElem h]
  · rw [List.getElem?_eq_none (by omega), List.getElem?_eq_none (by rw [List.length_range]; omega)]
    rfl
/-! ### runs -/
def fl (w : Tx) (k : Nat) : Bool := decide (k = 0) || !decide (w.getD (k - 1) 0 = w.getD k 0)
theorem flags_rng : ∀ (w : Tx) (p : Nat), (flags (some p) w) = (List.range w.length).map fun k => fl (p :: w) (k + 1)
  | [], _ => rfl
  | c :: w, p => by
    rw [flags, flags_rng w c, List.length_cons, List.range_succ_eq_map, List.map_cons, List.map_map]
    congr 1
    unfold fl
    simp
theorem flags_fl : ∀ (w : Tx), flags none w = (List.range w.length).map (fl w)
  | [] => rfl
  | c :: w => by
    rw [flags, flags_rng w c, List.length_cons, List.range_succ_eq_map, List.map_cons, List.map_map]
    rfl
theorem runs_fl (w : Tx) : runs w = ((List.range w.length).filter (fl w)).length := by
  unfold runs
  rw [flags_fl, List.count_eq_countP, List.countP_map, List.countP_eq_length_filter]
  congr 2
  funext k
  simp
theorem blsOf_map {α : Type} (f : α → Bool) : ∀ xs : List α, blsOf (xs.map fun x => D.bl (f x)) = some (xs.map f)
  | [] => rfl
  | x :: xs => by
    rw [List.map_cons, List.map_cons]
    unfold blsOf
    rw [blsOf_map f xs]
theorem b2i_sum : ∀ bs : List Bool, (bs.map DL.b2i).sum = (bs.count true : Int)
  | [] => rfl
  | b :: bs => by
    rw [List.map_cons, List.sum_cons, b2i_sum bs, List.count_cons]
    cases b
    · simp [DL.b2i]
    · simp [DL.b2i]; omega
theorem ints_ne {k : Nat} : ((k : Int) = 0) = (k = 0) := propext ⟨fun h => by omega, fun h => by omega⟩
theorem ss1 {a b : Nat} : (([a] : Tx) = [b]) = (a = b) := propext ⟨fun h => (List.cons.inj h).1, fun h => by rw [h]⟩
theorem sub_n1 {k : Nat} (h : k ≠ 0) : subI (.int (k : Int)) (.int 1) = some (.int ((k - 1 : Nat) : Int)) := sub_nn k 1 (by omega)
theorem r_flag {w : Tx} {k : Nat} (o : Ok w) (hl : w.length ≤ 16777216) (hk : k < w.length) :
    dOrV (d2 eqD (dV 1) (d0 (.int 0))) (d2 neD (dAtN 0 (d2 subI (dV 1) (d0 (.int 1)))) (dV 2)) [.sh (.str w), .sh (.int (k : Int)), .sh (.str [w.getD k 0])] =
    some (.bl (fl w k), [.sh (.str w), .sh (.int (k : Int)), .sh (.str [w.getD k 0])]) := by
  by_cases h : k = 0
  · subst h
    rfl
  · simp only [evl, List.getElem?_cons_succ, List.getElem?_cons_zero, eq_ii, ints_ne, h, decide_false, Bool.false_eq_true, if_false, sub_n1 h, ix_str (show k - 1 < w.length by omega) hl, ne_ss (ok_1 o (show k - 1 < w.length by omega)) (ok_1 o hk), ss1]
    simp only [fl, h, decide_false, Bool.false_or]
theorem r_runs_in (w : Tx) (v : Valid w) (h : w.length ≤ 8) : runD 3 1 m_runs_in [.str w] = some (.int (runs w : Int)) := by
  have e : lcD (gT (gsCons (gN 1) (gsCons (gN 2) gsNil))) tYesD (dOrV (d2 eqD (dV 1) (d0 (.int 0))) (d2 neD (dAtN 0 (d2 subI (dV 1) (d0 (.int 1)))) (dV 2))) [1, 2]
      ((List.range w.length).map fun k => D.tup [.int ((0 + k : Nat) : Int), .str [w.getD k 0]]) [.sh (.str w), .no, .no] = some ((List.range w.length).map fun k => D.bl (fl w k), [.sh (.str w), .no, .no]) := by
    refine lcD_all rfl _ fun k hk => ⟨[.sh (.str w), .sh (.int (k : Int)), .sh (.str [w.getD k 0])], [.sh (.str w), .sh (.int (k : Int)), .sh (.str [w.getD k 0])], ?_, r_flag (ok_of v) (by omega) (List.mem_range.mp hk), rfl⟩
    rw [Nat.zero_add]
    rfl
  rw [runD_1]
  simp only [evl, startR, m_runs_in, List.length_cons, List.length_nil, List.map_cons, List.map_nil, Nat.reduceSub, Nat.reduceAdd, List.replicate_succ, List.replicate_zero, List.cons_append, List.nil_append, List.getElem?_cons_zero, enumSD, enumL_w]
  rw [e]
  simp only [evl, List.length_map, List.length_range, show w.length ≤ 16777216 by omega, if_true, sumB, blsOf_map, b2i_sum]
  unfold runs
  rw [flags_fl]
theorem r_runs_of (w : Tx) (v : Valid w) (h : w.length ≤ 8) : runD 1 1 m_runs_of [.str w] = some (.int (runs w : Int)) := by
  rw [runD_1]
  simp only [evl, startR, m_runs_of, List.length_cons, List.length_nil, List.map_cons, List.map_nil, Nat.reduceSub, Nat.reduceAdd, List.replicate_zero, List.append_nil, List.getElem?_cons_succ, List.getElem?_cons_zero, r_short w v h, r_runs_in w v h]
end DLP

/-! The plain law, part 7: the longest common part. -/
namespace DLP
open PySem PySem.Spec PyProof.Rows L2 RZ DL

theorem seq_step {φ ψ : DenS} {ρ ρ1 : Rho} (h : φ ρ = some (.nx ρ1)) : sSeq φ ψ ρ = ψ ρ1 := by rw [sSeq_ap, h]; rfl
theorem at_s {prev : List Tx} {k : Nat} (h : k < prev.length) : atI (prev.map D.str) (k : Int) = some (.str (prev.getD k [])) := by
  rw [at_n, List.getElem?_map, List.getD_eq_getElem?_getD, List.getElem?_eq_getElem h]
  rfl
theorem ix_l {l : List D} {i : Int} : ixD (.lst l) (.int i) = atI l i := rfl
abbrev bBest : DenS := sSeq (sSet 7 (dIf (dBl (d2 eqD (dV 3) (dV 6))) (dAdd (d2 ixD (dAtN 2 (d1 negI (d0 (.int 1)))) (dV 5)) (dV 3)) (dC maxLen (dCons (d2 ixD (dAtN 2 (d1 negI (d0 (.int 1)))) (dAdd (dV 5) (d0 (.int 1)))) (dCons (dAtN 4 (dV 5)) dNil)))))
    (sApp 4 (dV 7))
theorem neg_1 : negI (.int 1) = some (.int (-1)) := rfl
theorem max_len (x y : Tx) (hx : x.length ≤ 100) (hy : y.length ≤ 100) : maxLen [.str x, .str y] = some (.str (if y.length > x.length then y else x)) := by
  show (if x.length ≤ 16777216 ∧ y.length ≤ 16777216 then some (D.str (if y.length > x.length then y else x)) else none) = _
  rw [if_pos ⟨by omega, by omega⟩]
theorem wl_snoc {row : List Tx} {x : Tx} : D.lst (row.map D.str ++ [.str x]) = WL (row ++ [x]) := by unfold WL; rw [List.map_append]; rfl
theorem best_step {A B t7 : Sl} {R : List D} {prev row : List Tx} {a b k : Nat} (ha : a < 1114112) (hb : b < 1114112) (h1 : k + 1 < prev.length) (h2 : k < row.length) (hr : row.length ≤ 100)
    (lp : ∀ j, (prev.getD j []).length ≤ 100) (lr : ∀ j, (row.getD j []).length ≤ 100) :
    bBest [A, B, .ow false (.lst (R ++ [WL prev])), .sh (.str [a]), .ow false (WL row), .sh (.int (k : Int)), .sh (.str [b]), t7] =
    some (.nx [A, B, .ow false (.lst (R ++ [WL prev])), .sh (.str [a]), .ow false (WL (row ++ [nextI prev a row k b])), .sh (.int (k : Int)), .sh (.str [b]), .sh (.str (nextI prev a row k b))]) := by
  have oa : Ok [a] := fun c hc => by rw [List.mem_singleton.mp hc]; exact ha
  have ob : Ok [b] := fun c hc => by rw [List.mem_singleton.mp hc]; exact hb
  have l0 := lp k
  have l1 := lp (k + 1)
  have l2 := lr k
  by_cases h : a = b
  · have en : nextI prev a row k b = prev.getD k [] ++ [a] := by unfold nextI; rw [if_pos h]
    rw [en]
    subst h
    have hz : (prev.getD k []).length + [a].length ≤ 16777216 := by rw [List.length_singleton]; omega
    simp only [evl, List.length_cons, List.length_nil, List.set_cons_succ, List.set_cons_zero, List.getElem?_cons_succ, List.getElem?_cons_zero, Nat.reduceAdd, Nat.reduceLT, if_true, eq_ss oa oa, decide_true, neg_1, at_last, ix_l, at_s (show k < prev.length by omega), add_is, add_ss _ _ hz, List.length_map, show row.length < 16777216 by omega, wl_snoc]
  · have en : nextI prev a row k b = if (row.getD k []).length > (prev.getD (k + 1) []).length then row.getD k [] else prev.getD (k + 1) [] := by unfold nextI; rw [if_neg h]
    rw [en]
    simp only [evl, List.length_cons, List.length_nil, List.set_cons_succ, List.set_cons_zero, List.getElem?_cons_succ, List.getElem?_cons_zero, Nat.reduceAdd, Nat.reduceLT, if_true, eq_ss oa ob, ss1, h, decide_false, Bool.false_eq_true, if_false, neg_1, at_last, ix_l, add_n1, at_s h1, at_s h2, max_len _ _ l1 l2,
      List.length_map, show row.length < 16777216 by omega, wl_snoc]
theorem getD_le {ws : List Tx} {n : Nat} (h : ∀ x ∈ ws, x.length ≤ n) (j : Nat) : (ws.getD j []).length ≤ n := by
  rw [List.getD_eq_getElem?_getD]
  by_cases hj : j < ws.length
  · rw [List.getElem?_eq_getElem hj]
    exact h _ (List.getElem_mem hj)
  · rw [List.getElem?_eq_none (by omega)]
    exact Nat.zero_le _
theorem nextI_le {prev row : List Tx} {a k b n : Nat} (h1 : ∀ x ∈ prev, x.length ≤ n) (h2 : ∀ x ∈ row, x.length ≤ n + 1) : (nextI prev a row k b).length ≤ n + 1 := by
  have l0 := getD_le h1 k
  have l1 := getD_le h1 (k + 1)
  have l2 := getD_le h2 k
  unfold nextI
  split
  · rw [List.length_append, List.length_singleton]; omega
  · split <;> omega
theorem row_loop {A B : Sl} {R : List D} {prev : List Tx} {a n i : Nat} (ha : a < 1114112) (hp : prev.length = n + 1) (hn : n ≤ 50) (hi : i ≤ 50) (lp : ∀ x ∈ prev, x.length ≤ i) : ∀ (r : Tx) (row : List Tx) (k : Nat) (t5 t6 t7 : Sl), k + r.length = n → row.length = k + 1 → (∀ x ∈ row, x.length ≤ i + 1) → Ok r →
    (∃ u5 u6 u7, forD (gT (gsCons (gN 5) (gsCons (gN 6) gsNil))) bBest (enumL k (r.map fun c => D.str [c])) [A, B, .ow false (.lst (R ++ [WL prev])), .sh (.str [a]), .ow false (WL row), t5, t6, t7] =
      some (.nx [A, B, .ow false (.lst (R ++ [WL prev])), .sh (.str [a]), .ow false (WL (rowG prev a row k r)), u5, u6, u7])) ∧ (rowG prev a row k r).length = n + 1 ∧ ∀ x ∈ rowG prev a row k r, x.length ≤ i + 1
  | [], row, k, t5, t6, t7, hk, hr, lr, _ => ⟨⟨t5, t6, t7, rfl⟩, by rw [rowG, hr]; simp at hk; omega, lr⟩
  | b :: r, row, k, t5, t6, t7, hk, hr, lr, o => by
    rw [List.length_cons] at hk
    have hb := o b List.mem_cons_self
    have st := best_step (A := A) (B := B) (R := R) (t7 := t7) (prev := prev) (row := row) (a := a) (b := b) (k := k) ha hb (by omega) (by omega) (by omega)
      (fun j => Nat.le_trans (getD_le lp j) (by omega)) (fun j => Nat.le_trans (getD_le lr j) (by omega))
    obtain ⟨⟨u5, u6, u7, e⟩, e1, e2⟩ := row_loop (A := A) (B := B) (R := R) ha hp hn hi lp r (row ++ [nextI prev a row k b]) (k + 1) (.sh (.int (k : Int))) (.sh (.str [b])) (.sh (.str (nextI prev a row k b))) (by omega)
      (by rw [List.length_append, List.length_singleton, hr]) (fun x hx => by
        rcases List.mem_append.mp hx with h | h
        · exact lr x h
        · rw [List.mem_singleton.mp h]; exact nextI_le lp lr) (fun c hc => o c (List.mem_cons_of_mem _ hc))
    refine ⟨⟨u5, u6, u7, ?_⟩, e1, e2⟩
    rw [List.map_cons, enumL, rowG, ← e]
    refine forD_step ?_ st
    rfl
abbrev bRow : DenS := sSeq (sSetO 4 (dC mkLst (dCons (d0 (.str [])) dNil)))
    (sSeq (sFor (dLL enumSD (dCons (dV 1) dNil)) (gT (gsCons (gN 5) (gsCons (gN 6) gsNil))) bBest) (sApp 2 (dV 4)))
theorem row_step {A : Sl} {other : Tx} {rs : List (List Tx)} {prev : List Tx} {a i : Nat} {t4 t5 t6 t7 : Sl} (ha : a < 1114112) (oo : Ok other) (hp : prev.length = other.length + 1) (hn : other.length ≤ 50) (hi : i ≤ 50) (hs : rs.length ≤ 60) (lp : ∀ x ∈ prev, x.length ≤ i) :
    ∃ u4 u5 u6 u7, bRow [A, .sh (.str other), .ow false (.lst ((rs ++ [prev]).map WL)), .sh (.str [a]), t4, t5, t6, t7] = some (.nx [A, .sh (.str other), .ow false (.lst ((rs ++ [prev] ++ [nextRow prev a other]).map WL)), .sh (.str [a]), u4, u5, u6, u7]) := by
  obtain ⟨⟨u5, u6, u7, e⟩, e1, e2⟩ := row_loop (A := A) (B := .sh (.str other)) (R := rs.map WL) ha hp hn hi lp other [[]] 0 t5 t6 t7 (by omega) rfl (fun x hx => by rw [List.mem_singleton.mp hx]; exact Nat.zero_le _) oo
  refine ⟨.sh (WL (nextRow prev a other)), u5, u6, u7, ?_⟩
  have e' : forD (gT (gsCons (gN 5) (gsCons (gN 6) gsNil))) bBest (enumL 0 (other.map fun c => D.str [c])) [A, .sh (.str other), .ow false (.lst ((rs ++ [prev]).map WL)), .sh (.str [a]), .ow false (.lst [.str []]), t5, t6, t7] =
      some (.nx [A, .sh (.str other), .ow false (.lst ((rs ++ [prev]).map WL)), .sh (.str [a]), .ow false (WL (nextRow prev a other)), u5, u6, u7]) := by
    rw [List.map_append]
    exact e
  have s1 : sSetO 4 (dC mkLst (dCons (d0 (.str [])) dNil)) [A, .sh (.str other), .ow false (.lst ((rs ++ [prev]).map WL)), .sh (.str [a]), t4, t5, t6, t7] = some (.nx [A, .sh (.str other), .ow false (.lst ((rs ++ [prev]).map WL)), .sh (.str [a]), .ow false (.lst [.str []]), t5, t6, t7]) := rfl
  have s2 : sFor (dLL enumSD (dCons (dV 1) dNil)) (gT (gsCons (gN 5) (gsCons (gN 6) gsNil))) bBest [A, .sh (.str other), .ow false (.lst ((rs ++ [prev]).map WL)), .sh (.str [a]), .ow false (.lst [.str []]), t5, t6, t7] = some (.nx [A, .sh (.str other), .ow false (.lst ((rs ++ [prev]).map WL)), .sh (.str [a]), .ow false (WL (nextRow prev a other)), u5, u6, u7]) := by
    rw [← e', sFor_ap]
    rfl
  have s3 : sApp 2 (dV 4) [A, .sh (.str other), .ow false (.lst ((rs ++ [prev]).map WL)), .sh (.str [a]), .ow false (WL (nextRow prev a other)), u5, u6, u7] = some (.nx [A, .sh (.str other), .ow false (.lst ((rs ++ [prev] ++ [nextRow prev a other]).map WL)), .sh (.str [a]), .sh (WL (nextRow prev a other)), u5, u6, u7]) := by
    have hz : ((rs ++ [prev]).map WL).length < 16777216 := by rw [List.length_map, List.length_append, List.length_singleton]; omega
    simp only [evl, List.length_cons, List.length_nil, List.set_cons_succ, List.set_cons_zero, List.getElem?_cons_succ, List.getElem?_cons_zero, hz, if_true]
    rw [List.map_append (l₁ := rs ++ [prev])]
    rfl
  exact (seq_step s1).trans ((seq_step s2).trans s3)
theorem nextRow_len {prev : List Tx} {a : Nat} {other : Tx} : ∀ (r : Tx) (row : List Tx) (k : Nat), (rowG prev a row k r).length = row.length + r.length
  | [], row, k => rfl
  | b :: r, row, k => by rw [rowG, nextRow_len (other := other) r, List.length_append, List.length_singleton, List.length_cons]; omega
theorem nextRow_le {prev : List Tx} {a n : Nat} (h1 : ∀ x ∈ prev, x.length ≤ n) : ∀ (r : Tx) (row : List Tx) (k : Nat), (∀ x ∈ row, x.length ≤ n + 1) → ∀ x ∈ rowG prev a row k r, x.length ≤ n + 1
  | [], row, k, h => h
  | b :: r, row, k, h => by
    rw [rowG]
    refine nextRow_le h1 r _ _ fun x hx => ?_
    rcases List.mem_append.mp hx with h' | h'
    · exact h x h'
    · rw [List.mem_singleton.mp h']; exact nextI_le h1 h
theorem rows_loop {A : Sl} {other : Tx} (oo : Ok other) (hn : other.length ≤ 50) : ∀ (one : Tx) (rs : List (List Tx)) (prev : List Tx) (i : Nat) (t3 t4 t5 t6 t7 : Sl), Ok one → prev.length = other.length + 1 → i + one.length ≤ 50 → rs.length + one.length ≤ 60 → (∀ x ∈ prev, x.length ≤ i) →
    (∃ rs1 prev1, allRows other (rs ++ [prev]) one = rs1 ++ [prev1] ∧ prev1.length = other.length + 1) ∧ ∃ u3 u4 u5 u6 u7, forD (gN 3) bRow (one.map fun c => D.str [c]) [A, .sh (.str other), .ow false (.lst ((rs ++ [prev]).map WL)), t3, t4, t5, t6, t7] =
      some (.nx [A, .sh (.str other), .ow false (.lst ((allRows other (rs ++ [prev]) one).map WL)), u3, u4, u5, u6, u7])
  | [], rs, prev, i, t3, t4, t5, t6, t7, _, hp, _, _, _ => ⟨⟨rs, prev, rfl, hp⟩, t3, t4, t5, t6, t7, rfl⟩
  | a :: one, rs, prev, i, t3, t4, t5, t6, t7, o, hp, h1, h2, lp => by
    rw [List.length_cons] at h1 h2
    obtain ⟨u4, u5, u6, u7, st⟩ := row_step (A := A) (other := other) (rs := rs) (prev := prev) (a := a) (i := i) (t4 := t4) (t5 := t5) (t6 := t6) (t7 := t7) (o a List.mem_cons_self) oo hp hn (by omega) (by omega) lp
    have ea : allRows other (rs ++ [prev]) (a :: one) = allRows other (rs ++ [prev] ++ [nextRow prev a other]) one := by
      unfold allRows
      rw [List.foldl_cons]
      congr 2
      simp
    obtain ⟨e1, v3, v4, v5, v6, v7, e⟩ := rows_loop (A := A) oo hn one (rs ++ [prev]) (nextRow prev a other) (i + 1) (.sh (.str [a])) u4 u5 u6 u7 (fun c hc => o c (List.mem_cons_of_mem _ hc))
      (by unfold nextRow; rw [nextRow_len (other := other)]; simp; omega) (by omega) (by rw [List.length_append, List.length_singleton]; omega)
      (nextRow_le lp other [[]] 0 fun x hx => by rw [List.mem_singleton.mp hx]; exact Nat.zero_le _)
    refine ⟨by rw [ea]; exact e1, v3, v4, v5, v6, v7, ?_⟩
    rw [ea, ← e, List.map_cons]
    refine forD_step ?_ st
    rfl
theorem r_shared_word (one other : Tx) (v1 : Valid one) (v2 : Valid other) (h1 : one.length ≤ 8) (h2 : other.length ≤ 8) : runD 8 2 m_shared_word [.str one, .str other] = some (.str (lcs one other)) := by
  obtain ⟨⟨rs1, prev1, ea, el⟩, u3, u4, u5, u6, u7, e⟩ := rows_loop (A := .sh (.str one)) (ok_of v2) (by omega) one [] (List.replicate (other.length + 1) []) 0 .no .no .no .no .no (ok_of v1) (by rw [List.length_replicate]) (by omega) (by rw [List.length_nil]; omega)
    (fun x hx => by rw [(List.mem_replicate.mp hx).2]; exact Nat.le_refl _)
  rw [List.nil_append] at e ea
  have er : repL (.lst [.str []]) (.int ((other.length + 1 : Nat) : Int)) = some (WL (List.replicate (other.length + 1) [])) := by
    unfold repL
    dsimp only
    rw [Int.toNat_natCast, if_pos (by rw [List.length_singleton]; refine ⟨?_, ?_, ?_⟩ <;> omega)]
    congr 2
    have : ∀ n : Nat, (List.replicate n [D.str []]).flatten = (List.replicate n ([] : Tx)).map D.str := by
      intro n
      induction n with
      | zero => rfl
      | succ n ih => rw [List.replicate_succ, List.flatten_cons, ih]; rfl
    exact this _
  have em : mulI (.lst [.str []]) (.int ((other.length + 1 : Nat) : Int)) = none := rfl
  have es : seqD (.str one) = some (one.map fun c => D.str [c]) := rfl
  obtain ⟨p1, x, ep⟩ : ∃ p1 x, prev1 = p1 ++ [x] := by
    cases hq : prev1.reverse with
    | nil => rw [List.reverse_eq_nil_iff.mp hq] at el; cases el
    | cons x p => exact ⟨p.reverse, x, by rw [← List.reverse_reverse prev1, hq, List.reverse_cons]⟩
  have ex : lcs one other = x := by unfold lcs; rw [ea, ep]; simp
  generalize List.replicate (other.length + 1) ([] : Tx) = rp at e ea er
  rw [runD_2]
  simp only [evl, startR, m_shared_word, List.length_cons, List.length_nil, List.map_cons, List.map_nil, Nat.reduceSub, Nat.reduceAdd, Nat.reduceLT, List.replicate_succ, List.replicate_zero, List.cons_append, List.nil_append, List.set_cons_succ, List.set_cons_zero, List.getElem?_cons_succ, List.getElem?_cons_zero, if_true, mkLst, Nat.zero_le, lenD, show other.length ≤ 16777216 by omega, add_n1, Nat.reduceLeDiff, es, em, er]
  have e' := e
  rw [List.map_cons, List.map_nil] at e'
  rw [e', ea, ep]
  simp only [evl, List.getElem?_cons_succ, List.getElem?_cons_zero, neg_1, List.map_append, List.map_cons, List.map_nil, at_last, ix_l, ex]
theorem r_shared_part (one other : Tx) (v1 : Valid one) (v2 : Valid other) (h1 : one.length ≤ 8) (h2 : other.length ≤ 8) : runD 2 2 m_shared_part [.str one, .str other] = some (.int ((lcs one other).length : Int)) := by
  have hb := (lcs_best one other).l
  rw [runD_2]
  simp only [evl, startR, m_shared_part, List.length_cons, List.length_nil, List.map_cons, List.map_nil, Nat.reduceSub, Nat.reduceAdd, List.replicate_zero, List.append_nil, List.getElem?_cons_succ, List.getElem?_cons_zero, r_short one v1 h1, r_short other v2 h2, r_shared_word one other v1 v2 h1 h2, lenD, show (lcs one other).length ≤ 16777216 from Nat.le_trans hb.length_le (by omega), if_true]
end DLP

/-! The plain law, part 8: the sack of draws. -/
namespace DLP
open PySem PySem.Spec PyProof.Rows L2 RZ DL

theorem mod_nn (a b : Nat) (hb : 0 < b) : modI (.int (a : Int)) (.int (b : Int)) = some (.int ((a % b : Nat) : Int)) := by
  show (if 0 < (b : Int) then some (D.int ((a : Int) % (b : Int))) else none) = _
  rw [if_pos (by omega), Int.natCast_emod]
theorem int_i (i : Int) : intD [.int i] = some (.int i) := rfl
theorem gt_ii (i j : Int) : gtD (.int i) (.int j) = some (.bl (decide (j < i))) := rfl
theorem lt_ii (i j : Int) : ltD (.int i) (.int j) = some (.bl (decide (i < j))) := rfl
theorem at3_0 {x y z : D} : atI [x, y, z] 0 = some x := rfl
theorem at3_1 {x y z : D} : atI [x, y, z] 1 = some y := rfl
theorem at3_2 {x y z : D} : atI [x, y, z] 2 = some z := rfl
theorem ix3_0 : ixN 3 0 = some 0 := rfl
theorem ix3_2 : ixN 3 2 = some 2 := rfl
/-- the sack -/
def sk (a b c : Nat) : D := .lst [.int (a : Int), .int (b : Int), .int (c : Int)]
abbrev skS (a b c : Nat) : Sl := .ow true (.lst [.int (a : Int), .int (b : Int), .int (c : Int)])
def dipA (b c : Nat) : Nat := (b + 10000121 * c) % 2305843009213693951
def dipB (b c : Nat) : Nat := ((dipA b c * dipA b c + 587 * c) % 2305843009213693951) * 8589934609 + dipA b c
theorem dipA_lt (b c : Nat) : dipA b c < 2305843009213693951 := Nat.mod_lt _ (by decide)
theorem mul_k {k a : Nat} (hk : k < 2 ^ 40) (ha : a < 2 ^ 100) : mulI (.int (k : Int)) (.int (a : Int)) = some (.int ((k * a : Nat) : Int)) := mul_nn k a 40 100 hk ha (by decide)
theorem dip_pos (a b c t : Nat) (ha : 0 < a) (ht : 0 < t) (h : t < 1000) : runIO 5 1 m__law_dip (sk a b c) [.int (t : Int)] = some (.int ((a % t : Nat) : Int), sk (a / t) b c) := by
  have g : decide ((0 : Int) < (a : Int)) = true := decide_eq_true (by omega)
  have dv := div_nn a t ht (Nat.lt_trans h (Nat.lt_of_lt_of_le (show 1000 < 2 ^ 10 by decide) (Nat.pow_le_pow_right (n := 2) (by decide) (show 10 ≤ 8999 by decide))))
  rw [runIO_1]
  simp only [evl, sk, startIO, m__law_dip, List.length_cons, List.length_nil, List.map_cons, List.map_nil, Nat.reduceSub, Nat.reduceAdd, Nat.reduceLT, List.replicate_succ, List.replicate_zero, List.cons_append, List.nil_append, List.set_cons_succ, List.set_cons_zero, List.getElem?_cons_succ, List.getElem?_cons_zero, at3_0, gt_ii, g, if_true, int_i, mod_nn a t ht, dv, ix3_0]
theorem dip_s1 {b c t : Nat} : sIf (dBl (d2 gtD (dAtN 0 (d0 (.int 0))) (d0 (.int 0)))) (sSeq (sSet 2 (d2 modI (dC intD (dCons (dAtN 0 (d0 (.int 0))) dNil)) (dV 1)))
    (sSeq (sSetAt 0 (d2 divW (dAtN 0 (d0 (.int 0))) (dV 1)) (d0 (.int 0)))
    (sRet (dV 2)))) sNil [skS 0 b c, .sh (.int (t : Int)), .no, .no, .no] = some (.nx [skS 0 b c, .sh (.int (t : Int)), .no, .no, .no]) := rfl
theorem dip_s2 {b c t : Nat} : sSetAt 0 (dAdd (dAtN 0 (d0 (.int 2))) (d0 (.int 1))) (d0 (.int 2)) [skS 0 b c, .sh (.int (t : Int)), .no, .no, .no] = some (.nx [skS 0 b (c + 1), .sh (.int (t : Int)), .no, .no, .no]) := rfl
theorem dip_s3 {b c t : Nat} (hc : c < 2 ^ 100) : sSet 3 (d2 modI (dC intD (dCons (dAdd (dAtN 0 (d0 (.int 1))) (dMul (d0 (.int 10000121)) (dAtN 0 (d0 (.int 2))))) dNil)) (d0 (.int 2305843009213693951))) [skS 0 b c, .sh (.int (t : Int)), .no, .no, .no] =
    some (.nx [skS 0 b c, .sh (.int (t : Int)), .no, .sh (.int (dipA b c : Int)), .no]) := by
  have e1 : mulI (.int 10000121) (.int (c : Int)) = some (.int ((10000121 * c : Nat) : Int)) := mul_k (by decide) hc
  have e2 : modI (.int ((b + 10000121 * c : Nat) : Int)) (.int 2305843009213693951) = some (.int (dipA b c : Int)) := mod_nn _ _ (by decide)
  simp only [evl, List.length_cons, List.length_nil, List.set_cons_succ, List.set_cons_zero, List.getElem?_cons_succ, List.getElem?_cons_zero, Nat.reduceAdd, Nat.reduceLT, if_true, at3_1, at3_2, e1, add_nn, int_i, e2]
theorem dip_s4 {b c t d : Nat} (hc : c < 2 ^ 100) (hd : d < 2 ^ 61) : sSet 4 (dAdd (dMul (d2 modI (dC intD (dCons (dAdd (dMul (dV 3) (dV 3)) (dMul (d0 (.int 587)) (dAtN 0 (d0 (.int 2))))) dNil)) (d0 (.int 2305843009213693951))) (d0 (.int 8589934609))) (dV 3)) [skS 0 b c, .sh (.int (t : Int)), .no, .sh (.int (d : Int)), .no] =
    some (.nx [skS 0 b c, .sh (.int (t : Int)), .no, .sh (.int (d : Int)), .sh (.int ((((d * d + 587 * c) % 2305843009213693951) * 8589934609 + d : Nat) : Int))]) := by
  have e1 : mulI (.int 587) (.int (c : Int)) = some (.int ((587 * c : Nat) : Int)) := mul_k (by decide) hc
  have e2 : modI (.int ((d * d + 587 * c : Nat) : Int)) (.int 2305843009213693951) = some (.int (((d * d + 587 * c) % 2305843009213693951 : Nat) : Int)) := mod_nn _ _ (by decide)
  have e3 := mul_nn d d 61 61 hd hd (by decide)
  have e4 : mulI (.int (((d * d + 587 * c) % 2305843009213693951 : Nat) : Int)) (.int 8589934609) = some (.int ((((d * d + 587 * c) % 2305843009213693951) * 8589934609 : Nat) : Int)) :=
    mul_nn _ _ 61 40 (Nat.lt_trans (Nat.mod_lt _ (by decide)) (by decide)) (by decide) (by decide)
  simp only [evl, List.length_cons, List.length_nil, List.set_cons_succ, List.set_cons_zero, List.getElem?_cons_succ, List.getElem?_cons_zero, Nat.reduceAdd, Nat.reduceLT, if_true, at3_2, e1, e3, add_nn, int_i, e2, e4]
theorem dip_s5 {b c t d e : Nat} (ht : 0 < t) : sRet (d2 modI (dC intD (dCons (d2 divW (dV 4) (d0 (.int 131072))) dNil)) (dV 1)) [skS 0 b c, .sh (.int (t : Int)), .no, .sh (.int (d : Int)), .sh (.int (e : Int))] =
    some (.rt (.int ((e / 131072 % t : Nat) : Int)) [skS 0 b c, .sh (.int (t : Int)), .no, .sh (.int (d : Int)), .sh (.int (e : Int))]) := by
  have e1 : divW (.int (e : Int)) (.int 131072) = some (.int ((e / 131072 : Nat) : Int)) := div_nn e 131072 (by decide) (Nat.lt_of_lt_of_le (show 131072 < 2 ^ 18 by decide) (Nat.pow_le_pow_right (n := 2) (by decide) (show 18 ≤ 8999 by decide)))
  simp only [evl, List.length_cons, List.length_nil, List.getElem?_cons_succ, List.getElem?_cons_zero, e1, int_i, mod_nn _ t ht]
theorem dip_zero (b c t : Nat) (ht : 0 < t) (hc : c + 1 < 2 ^ 100) : runIO 5 1 m__law_dip (sk 0 b c) [.int (t : Int)] = some (.int ((dipB b (c + 1) / 131072 % t : Nat) : Int), sk 0 b (c + 1)) := by
  have hd := dipA_lt b (c + 1)
  rw [runIO_1, show m__law_dip (startIO 5 (sk 0 b c) [.int (t : Int)]) = some (.rt (.int ((dipB b (c + 1) / 131072 % t : Nat) : Int)) [skS 0 b (c + 1), .sh (.int (t : Int)), .no, .sh (.int (dipA b (c + 1) : Int)), .sh (.int (dipB b (c + 1) : Int))]) from
    (seq_step dip_s1).trans ((seq_step dip_s2).trans ((seq_step (dip_s3 hc)).trans ((seq_step (dip_s4 hc (Nat.lt_trans hd (by decide)))).trans (dip_s5 ht))))]
  rfl
def SkOk (n : Nat) (io : D) : Prop := ∃ a b c : Nat, io = sk a b c ∧ c ≤ n
theorem SkOk.mono {n m : Nat} {io : D} (h : SkOk n io) (le : n ≤ m) : SkOk m io := by
  obtain ⟨a, b, c, e, hc⟩ := h
  exact ⟨a, b, c, e, Nat.le_trans hc le⟩
theorem r_dip {n : Nat} {io : D} (h : SkOk n io) (hn : n ≤ 1000000) (t : Nat) (ht : 0 < t) (h9 : t < 1000) : ∃ (d : Nat) (io' : D), runIO 5 1 m__law_dip io [.int (t : Int)] = some (.int (d : Int), io') ∧ d < t ∧ SkOk (n + 1) io' := by
  obtain ⟨a, b, c, rfl, hc⟩ := h
  by_cases h0 : a = 0
  · subst h0
    exact ⟨_, _, dip_zero b c t ht (Nat.lt_of_le_of_lt (show c + 1 ≤ 1000001 by omega) (by decide)), Nat.mod_lt _ ht, 0, b, c + 1, rfl, by omega⟩
  · exact ⟨_, _, dip_pos a b c t (by omega) ht h9, Nat.mod_lt _ ht, a / t, b, c, rfl, by omega⟩
theorem r_one {n : Nat} {io : D} (h : SkOk n io) (hn : n ≤ 1000000) (x : D) (l : List D) (hx : x = .lst l ∨ x = .tup l) (h1 : 0 < l.length) (h9 : l.length < 1000) : ∃ d io', runIO 2 1 m__law_one io [x] = some (d, io') ∧ d ∈ l ∧ SkOk (n + 1) io' := by
  obtain ⟨k, io', e, hk, h'⟩ := r_dip h hn l.length h1 h9
  refine ⟨l[k], io', ?_, List.getElem_mem hk, h'⟩
  have el : lenD [x] = some (.int (l.length : Int)) := by rcases hx with rfl | rfl <;> rfl
  have ei : ixD x (.int (k : Int)) = some l[k] := by
    have : atI l (k : Int) = some l[k] := by rw [at_n, List.getElem?_eq_getElem hk]
    rcases hx with rfl | rfl <;> exact this
  have hs : ∀ z : D, dAtO 1 (dCio 0 (runIO 5 1 m__law_dip) (dCons (dC lenD (dCons (dV 1) dNil)) dNil)) [.ow true io, .sh z] = none := fun z => rfl
  rw [runIO_1]
  simp only [evl, startIO, m__law_one, List.length_cons, List.length_nil, List.map_cons, List.map_nil, Nat.reduceSub, Nat.reduceAdd, List.replicate_zero, List.append_nil, List.set_cons_succ, List.set_cons_zero, List.getElem?_cons_succ, List.getElem?_cons_zero, el, e, ei]
theorem pow_of {i j r : Int} (h : CPowW i j) (e : i ^ j.toNat = r) : powI (.int i) (.int j) = some (.int r) := by
  show (if CPowW i j then some (D.int (i ^ j.toNat)) else none) = _
  rw [if_pos h, e]
theorem pw1 : powI (.int 10) (.int 53) = some (.int 100000000000000000000000000000000000000000000000000000) := pow_of (by decide +kernel) (by decide +kernel)
theorem pw2 : powI (.int 100000000000000000000000000000000000000000000000000000) (.int 6) = some (.int 1000000000000000000000000000000000000000000000000000000000000000000000000000000000000000000000000000000000000000000000000000000000000000000000000000000000000000000000000000000000000000000000000000000000000000000000000000000000000000000000000000000000000000000000000000000000000000000000000000000000000000000000000000000) := pow_of (by decide +kernel) (by decide +kernel)
theorem pw3 : powI (.int 10) (.int 15) = some (.int 1000000000000000) := pow_of (by decide +kernel) (by decide +kernel)
theorem abs_i (z : Int) : absD [.int z] = some (.int (z.natAbs : Int)) := by
  show some (D.int (if z < 0 then -z else z)) = _
  congr 2
  split <;> omega
def skB (z : Int) (s : Nat) : Nat := ((z.natAbs % 1000000000000000000000000000000000000000000000000000000000000000000000000000000000000000000000000000000000000000000000000000000000000000000000000000000000000000000000000000000000000000000000000000000000000000000000000000000000000000000000000000000000000000000000000000000000000000000000000000000000000000000000000000000) % 2305843009213693951) * 97 + 613 * s + 41 * (if z < 0 then 1 else 0) + 67
theorem sack_s1 (ns : List Int) (s : Nat) (hs : s < 100) : ∃ z : Int, sSet 2 (dIf (dBl (d2 ltD (dV 1) (dC lenD (dCons (dV 0) dNil)))) (dC intD (dCons (dAtN 0 (dV 1)) dNil)) (dAdd (dMul (d0 (.int 389)) (dV 1)) (d0 (.int 23)))) [.sh (.scr ns), .sh (.int (s : Int)), .no, .no, .no] =
    some (.nx [.sh (.scr ns), .sh (.int (s : Int)), .sh (.int z), .no, .no]) := by
  have el : lenD [.scr ns] = some (.int (ns.length : Int)) := rfl
  by_cases h : s < ns.length
  · have g : decide ((s : Int) < (ns.length : Int)) = true := decide_eq_true (by omega)
    have ei : ixD (.scr ns) (.int (s : Int)) = some (.int ns[s]) := by
      show (atI ns (s : Int)).map D.int = _
      rw [at_n, List.getElem?_eq_getElem h]
      rfl
    refine ⟨ns[s], ?_⟩
    simp only [evl, List.length_cons, List.length_nil, List.set_cons_succ, List.set_cons_zero, List.getElem?_cons_succ, List.getElem?_cons_zero, Nat.reduceAdd, Nat.reduceLT, if_true, el, lt_ii, g, ei, int_i]
  · have g : decide ((s : Int) < (ns.length : Int)) = false := decide_eq_false (by omega)
    have em : mulI (.int 389) (.int (s : Int)) = some (.int ((389 * s : Nat) : Int)) := mul_k (by decide) (Nat.lt_trans hs (by decide))
    refine ⟨((389 * s : Nat) : Int) + 23, ?_⟩
    simp only [evl, List.length_cons, List.length_nil, List.set_cons_succ, List.set_cons_zero, List.getElem?_cons_succ, List.getElem?_cons_zero, Nat.reduceAdd, Nat.reduceLT, if_true, el, lt_ii, g, Bool.false_eq_true, if_false, em, add_ii]
theorem sack_s2 {ns : List Int} {s : Nat} {z : Int} : sSet 3 (d2 modI (dC intD (dCons (dC absD (dCons (dV 2) dNil)) dNil)) (d2 powI (d2 powI (d0 (.int 10)) (d0 (.int 53))) (d0 (.int 6)))) [.sh (.scr ns), .sh (.int (s : Int)), .sh (.int z), .no, .no] =
    some (.nx [.sh (.scr ns), .sh (.int (s : Int)), .sh (.int z), .sh (.int ((z.natAbs % 1000000000000000000000000000000000000000000000000000000000000000000000000000000000000000000000000000000000000000000000000000000000000000000000000000000000000000000000000000000000000000000000000000000000000000000000000000000000000000000000000000000000000000000000000000000000000000000000000000000000000000000000000000000 : Nat) : Int)), .no]) := by
  have em : modI (.int (z.natAbs : Int)) (.int 1000000000000000000000000000000000000000000000000000000000000000000000000000000000000000000000000000000000000000000000000000000000000000000000000000000000000000000000000000000000000000000000000000000000000000000000000000000000000000000000000000000000000000000000000000000000000000000000000000000000000000000000000000000) = some (.int ((z.natAbs % 1000000000000000000000000000000000000000000000000000000000000000000000000000000000000000000000000000000000000000000000000000000000000000000000000000000000000000000000000000000000000000000000000000000000000000000000000000000000000000000000000000000000000000000000000000000000000000000000000000000000000000000000000000000 : Nat) : Int)) := mod_nn _ _ (by decide +kernel)
  simp only [evl, List.length_cons, List.length_nil, List.set_cons_succ, List.set_cons_zero, List.getElem?_cons_succ, List.getElem?_cons_zero, Nat.reduceAdd, Nat.reduceLT, if_true, abs_i, int_i, pw1, pw2, em]
theorem sack_s3 {ns : List Int} {s r : Nat} {z : Int} (hs : s < 100) : sSet 4 (dAdd (dAdd (dAdd (dMul (d2 modI (dV 3) (d0 (.int 2305843009213693951))) (d0 (.int 97))) (dMul (d0 (.int 613)) (dV 1))) (dMul (d0 (.int 41)) (dC intD (dCons (d2 ltD (dV 2) (d0 (.int 0))) dNil)))) (d0 (.int 67))) [.sh (.scr ns), .sh (.int (s : Int)), .sh (.int z), .sh (.int (r : Int)), .no] =
    some (.nx [.sh (.scr ns), .sh (.int (s : Int)), .sh (.int z), .sh (.int (r : Int)), .sh (.int (((r % 2305843009213693951) * 97 + 613 * s + 41 * (if z < 0 then 1 else 0) + 67 : Nat) : Int))]) := by
  have e1 : modI (.int (r : Int)) (.int 2305843009213693951) = some (.int ((r % 2305843009213693951 : Nat) : Int)) := mod_nn _ _ (by decide)
  have e2 : mulI (.int ((r % 2305843009213693951 : Nat) : Int)) (.int 97) = some (.int ((r % 2305843009213693951 * 97 : Nat) : Int)) := mul_nn _ _ 61 40 (Nat.lt_trans (Nat.mod_lt _ (by decide)) (by decide)) (by decide) (by decide)
  have e3 : mulI (.int 613) (.int (s : Int)) = some (.int ((613 * s : Nat) : Int)) := mul_k (by decide) (Nat.lt_trans hs (by decide))
  have e4 : intD [.bl (decide (z < 0))] = some (.int ((if z < 0 then 1 else 0 : Nat) : Int)) := by
    by_cases h : z < 0
    · rw [decide_eq_true h, if_pos h]; rfl
    · rw [decide_eq_false h, if_neg h]; rfl
  have e5 : ∀ k : Nat, k ≤ 1 → mulI (.int 41) (.int (k : Int)) = some (.int ((41 * k : Nat) : Int)) := fun k hk => mul_k (by decide) (Nat.lt_of_le_of_lt hk (by decide))
  have e6 : ∀ k : Nat, addI (.int (k : Int)) (.int 67) = some (.int ((k + 67 : Nat) : Int)) := fun k => rfl
  have hk : (if z < 0 then 1 else 0 : Nat) ≤ 1 := by split <;> omega
  generalize (if z < 0 then 1 else 0 : Nat) = k at e4 hk ⊢
  simp only [evl, List.length_cons, List.length_nil, List.set_cons_succ, List.set_cons_zero, List.getElem?_cons_succ, List.getElem?_cons_zero, Nat.reduceAdd, Nat.reduceLT, if_true, e1, e2, e3, add_nn, lt_ii, e4, e5 k hk, e6]
theorem sack_s4 {ns : List Int} {s r u : Nat} {z : Int} : sRetO (dC mkLst (dCons (dC max2D (dCons (d0 (.int 0)) (dCons (d2 subI (dV 3) (d2 powI (d0 (.int 10)) (d0 (.int 15)))) dNil))) (dCons (dV 4) (dCons (d0 (.int 0)) dNil)))) [.sh (.scr ns), .sh (.int (s : Int)), .sh (.int z), .sh (.int (r : Int)), .sh (.int (u : Int))] =
    some (.ro (sk (r - 1000000000000000) u 0) [.sh (.scr ns), .sh (.int (s : Int)), .sh (.int z), .sh (.int (r : Int)), .sh (.int (u : Int))]) := by
  have e1 : subI (.int (r : Int)) (.int 1000000000000000) = some (.int ((r : Int) - 1000000000000000)) := rfl
  have e2 : max2D [.int 0, .int ((r : Int) - 1000000000000000)] = some (.int ((r - 1000000000000000 : Nat) : Int)) := by
    show some (D.int (if (r : Int) - 1000000000000000 > 0 then (r : Int) - 1000000000000000 else 0)) = _
    congr 2
    split <;> omega
  simp only [evl, List.length_cons, List.length_nil, List.getElem?_cons_succ, List.getElem?_cons_zero, pw3, e1, e2, mkLst, Nat.reduceAdd, Nat.reduceLeDiff, if_true]
  rfl
theorem runN_of {nN : Nat} {φ : DenS} {a b d : D} {ρ : Rho} (e : φ (startR nN [a, b]) = some (.ro d ρ)) : DL.runN nN 2 φ [a, b] = some d := by rw [runN_2, e]; rfl
theorem r_law_sack (ns : List Int) (s : Nat) (hs : s < 100) : ∃ io, DL.runN 5 2 m__law_sack [.scr ns, .int (s : Int)] = some io ∧ SkOk 0 io := by
  obtain ⟨z, s1⟩ := sack_s1 ns s hs
  have e := (seq_step s1).trans ((seq_step sack_s2).trans ((seq_step (sack_s3 hs)).trans sack_s4))
  exact ⟨_, runN_of e, _, _, 0, rfl, Nat.le_refl 0⟩
end DLP

/-! The plain law, part 9: the law's draws; its four layers. -/
namespace DLP
open PySem PySem.Spec PyProof.Rows L2 RZ DL
abbrev P0 : DenS := (sSet 1 (dCio 0 (runIO 2 1 m__law_one) (dCons (dC mkLst (dCons (dC mkTup (dCons (d0 (.str [97])) (dCons (d0 (.str [98])) dNil))) (dCons (dC mkTup (dCons (d0 (.str [97])) (dCons (d0 (.str [98])) dNil))) (dCons (dC mkTup (dCons (d0 (.str [97])) dNil)) (dCons (dC mkTup (dCons (d0 (.str [97])) (dCons (d0 (.str [98])) (dCons (d0 (.str [99])) dNil)))) (dCons (dC mkTup (dCons (d0 (.str [98])) (dCons (d0 (.str [101])) dNil))) dNil)))))) dNil)))
abbrev P1 : DenS := (sSet 2 (d2 joinD (d0 (.str [])) (dLc (dLL range1L (dCons (dCio 0 (runIO 5 1 m__law_dip) (dCons (d0 (.int 7)) dNil)) dNil)) (gN 15) tYesD (dCio 0 (runIO 2 1 m__law_one) (dCons (dV 1) dNil)) [15])))
abbrev P2 : DenS := (sSet 3 (d2 joinD (d0 (.str [])) (dLc (dLL range1L (dCons (dCio 0 (runIO 5 1 m__law_dip) (dCons (d0 (.int 7)) dNil)) dNil)) (gN 15) tYesD (dCio 0 (runIO 2 1 m__law_one) (dCons (dV 1) dNil)) [15])))
abbrev P3 : DenS := (sPar 4 5 (dCons (dC mkLst (dCons (dV 2) dNil)) (dCons (dC mkLst (dCons (dV 2) dNil)) dNil)))
abbrev P4 : DenS := (sFor (dLL range1L (dCons (d0 (.int 4)) dNil)) (gN 6) (sSeq (sIf (dBl (d2 neD (dC (runD 2 2 m_outs_of) (dCons (dV 2) (dCons (dV 6) dNil))) (dC tupleD (dCons (dV 4) dNil)))) (sRet (d0 (.bl false))) sNil)
    (sSeq (sIf (dAndT (dBl (d2 ltD (dV 6) (d0 (.int 3)))) (dOrT (dBl (d2 neD (dC (runD 3 3 m_puts_of) (dCons (dV 2) (dCons (dV 1) (dCons (dV 6) dNil)))) (dC tupleD (dCons (dV 5) dNil)))) (dBl (d2 neD (dC lenD (dCons (dV 5) dNil)) (dC (runD 6 3 m_count_puts) (dCons (dC lenD (dCons (dV 2) dNil)) (dCons (dC lenD (dCons (dV 1) dNil)) (dCons (dV 6) dNil)))))))) (sRet (d0 (.bl false))) sNil)
    (sPar 4 5 (dCons (dC (runD 4 1 m__law_outs) (dCons (dV 4) dNil)) (dCons (dIf (dBl (d2 ltD (dV 6) (d0 (.int 2)))) (dC (runD 6 2 m__law_puts) (dCons (dV 5) (dCons (dV 1) dNil))) (dC mkLst dNil)) dNil))))))
abbrev P5 : DenS := (sSet 7 (dC lenD (dCons (dLc (dLL range1L (dCons (dC lenD (dCons (dV 2) dNil)) dNil)) (gN 16) (dOrT (dBl (d2 eqD (dV 16) (d0 (.int 0)))) (dBl (d2 neD (dAtN 2 (d2 subI (dV 16) (d0 (.int 1)))) (dAtN 2 (dV 16))))) (dV 16) [16]) dNil)))
abbrev P6 : DenS := (sIf (dOrT (dBl (d2 neD (dC (runD 1 1 m_runs_of) (dCons (dV 2) dNil)) (dV 7))) (dBl (d2 neD (dC lenD (dCons (dC (runD 2 2 m_outs_of) (dCons (dV 2) (dCons (d0 (.int 1)) dNil))) dNil)) (dV 7)))) (sRet (d0 (.bl false))) sNil)
abbrev P7 : DenS := (sPar 8 9 (dCons (dC mkLst (dCons (dV 2) dNil)) (dCons (dC mkLst (dCons (dV 2) dNil)) dNil)))
abbrev P8 : DenS := (whD (dBl (d2 neD (dV 9) (dC mkLst dNil))) (sSeq (sSet 9 (dC (runD 4 1 m__law_outs) (dCons (dV 9) dNil)))
    (sSet 8 (dAdd (dV 8) (dV 9)))) 12)
abbrev P9 : DenS := (sTgt (dC mkTup (dCons (dC dictP (dCons (dLc (dL seqD (dV 8)) (gN 17) tYesD (dC mkTup (dCons (dV 17) (dCons (d0 (.bl true)) dNil))) [17]) dNil)) (dCons (dC mkLst (dCons (dV 3) dNil)) dNil))) (gT (gsCons (gN 10) (gsCons (gN 9) gsNil))))
abbrev P10 : DenS := (whD (dBl (d2 eqD (dLc (dL seqD (dV 9)) (gN 17) (dBl (dIn (dV 17) (dV 10))) (dV 17) [17]) (dC mkLst dNil))) (sSet 9 (dC (runD 4 1 m__law_outs) (dCons (dV 9) dNil))) 12)
abbrev P11 : DenS := (sIf (dBl (d2 neD (dC (runD 2 2 m_shared_part) (dCons (dV 2) (dCons (dV 3) dNil))) (dC maxD (dCons (dLc (dL seqD (dV 9)) (gN 17) (dBl (dIn (dV 17) (dV 10))) (dC lenD (dCons (dV 17) dNil)) [17]) dNil)))) (sRet (d0 (.bl false))) sNil)
abbrev P12 : DenS := (sPar3 11 12 6 (dCons (dCio 0 (runIO 5 1 m__law_dip) (dCons (d0 (.int 61)) dNil)) (dCons (dAdd (d0 (.int 1)) (dCio 0 (runIO 5 1 m__law_dip) (dCons (d0 (.int 5)) dNil))) (dCons (dCio 0 (runIO 5 1 m__law_dip) (dCons (d0 (.int 61)) dNil)) dNil))))
abbrev P13 : DenS := (sTgt (dC mkTup (dCons (d0 (.int 0)) (dCons (d0 (.int 1)) dNil))) (gT (gsCons (gN 13) (gsCons (gN 14) gsNil))))
abbrev P14 : DenS := (sFor (dLL range1L (dCons (dAdd (dV 6) (d0 (.int 1))) dNil)) (gN 4) (sPar 13 14 (dCons (dAdd (dV 13) (dMul (dC (runD 4 2 m__law_choose) (dCons (dAdd (dV 11) (dV 6)) (dCons (dV 4) dNil))) (dV 14))) (dCons (dMul (dV 14) (d2 subI (dV 12) (d0 (.int 1)))) dNil))))
abbrev P15 : DenS := (sRet (d2 eqD (dC (runD 6 3 m_count_puts) (dCons (dV 11) (dCons (dV 12) (dCons (dV 6) dNil)))) (dV 13)))
theorem right_eq : m__law_right = sSeq P0 (sSeq P1 (sSeq P2 (sSeq P3 (sSeq P4 (sSeq P5 (sSeq P6 (sSeq P7 (sSeq P8 (sSeq P9 (sSeq P10 (sSeq P11 (sSeq P12 (sSeq P13 (sSeq P14 (P15))))))))))))))) := rfl

theorem join_w : ∀ ys : Tx, (Str.join (S []) (ys.map fun c => S [c])).cps.toList = ys
  | [] => rfl
  | [c] => rfl
  | c :: d :: r => by
    have ih := join_w (d :: r)
    show ((S [c]).cps ++ (S []).cps ++ (Str.join (S []) ((d :: r).map fun c => S [c])).cps).toList = _
    rw [Array.toList_append, ih]
    rfl
theorem strsOf_w : ∀ ys : Tx, strsOf (ys.map sgD) = some (ys.map fun c => [c])
  | [] => rfl
  | c :: r => by
    rw [List.map_cons, strsOf, strsOf_w r]
    rfl
theorem join_0 (ys : Tx) (h : ys.length ≤ 1000) : joinD (.str []) (.lst (ys.map sgD)) = some (.str ys) := by
  unfold joinD
  dsimp only
  rw [strsOf_w]
  dsimp only
  have hs : ∀ zs : Tx, (((zs.map fun c => ([c] : Tx)).map S).map (·.length)).sum = zs.length := by
    intro zs
    induction zs with
    | nil => rfl
    | cons c r ih => rw [List.map_cons, List.map_cons, List.map_cons, List.sum_cons, ih, List.length_cons]; show 1 + _ = _; omega
  have h0 : (S []).length = 0 := rfl
  rw [hs, h0, Nat.mul_zero, if_pos (by omega), show Txt.join (S []) ((ys.map fun c => ([c] : Tx)).map S) = Str.join (S []) ((ys.map fun c => ([c] : Tx)).map S) from StrLaws.glued_eq_join _ _, List.map_map]
  exact congrArg (fun z => some (D.str z)) (join_w ys)
theorem wd_lc {qs : List Nat} (hq : 0 < qs.length) (hq9 : qs.length < 1000) {A : Sl} : ∀ (ds : List D) (io : D) (n : Nat), SkOk n io → n + ds.length ≤ 1000000 →
    ∃ (ys : Tx) (io1 : D), lcD (gN 15) tYesD (dCio 0 (runIO 2 1 m__law_one) (dCons (dV 1) dNil)) [15] ds [.ow true io, .sh (.tup (qs.map sgD)), A, .no, .no, .no, .no, .no, .no, .no, .no, .no, .no, .no, .no, .no, .no, .no] = some (ys.map sgD, [.ow true io1, .sh (.tup (qs.map sgD)), A, .no, .no, .no, .no, .no, .no, .no, .no, .no, .no, .no, .no, .no, .no, .no]) ∧
      ys.length = ds.length ∧ (∀ c ∈ ys, c ∈ qs) ∧ SkOk (n + ds.length) io1
  | [], io, n, h, _ => ⟨[], io, rfl, rfl, fun c hc => (List.not_mem_nil hc).elim, h⟩
  | d :: ds, io, n, h, hn => by
    rw [List.length_cons] at hn
    obtain ⟨z, io1, e, hz, h1⟩ := r_one h (by omega) (.tup (qs.map sgD)) (qs.map sgD) (.inr rfl) (by rw [List.length_map]; exact hq) (by rw [List.length_map]; exact hq9)
    obtain ⟨c, hc, rfl⟩ := List.mem_map.mp hz
    obtain ⟨ys, io2, e2, l2, m2, h2⟩ := wd_lc hq hq9 (A := A) ds io1 (n + 1) h1 (by omega)
    refine ⟨c :: ys, io2, ?_, by rw [List.length_cons, List.length_cons, l2], fun x hx => ?_, by rw [List.length_cons, show n + (ds.length + 1) = n + 1 + ds.length by omega]; exact h2⟩
    · have s1 : gN 15 d (wipeR [.ow true io, .sh (.tup (qs.map sgD)), A, .no, .no, .no, .no, .no, .no, .no, .no, .no, .no, .no, .no, .no, .no, .no] [15]) = some [.ow true io, .sh (.tup (qs.map sgD)), A, .no, .no, .no, .no, .no, .no, .no, .no, .no, .no, .no, .no, .sh d, .no, .no] := rfl
      have s2 : dCio 0 (runIO 2 1 m__law_one) (dCons (dV 1) dNil) [.ow true io, .sh (.tup (qs.map sgD)), A, .no, .no, .no, .no, .no, .no, .no, .no, .no, .no, .no, .no, .sh d, .no, .no] = some (sgD c, [.ow true io1, .sh (.tup (qs.map sgD)), A, .no, .no, .no, .no, .no, .no, .no, .no, .no, .no, .no, .no, .sh d, .no, .no]) := by
        simp only [evl, List.length_cons, List.length_nil, List.set_cons_succ, List.set_cons_zero, List.getElem?_cons_succ, List.getElem?_cons_zero, Nat.reduceAdd, Nat.reduceLT, if_true, e]
      have s3 : back [.ow true io, .sh (.tup (qs.map sgD)), A, .no, .no, .no, .no, .no, .no, .no, .no, .no, .no, .no, .no, .no, .no, .no] [.ow true io1, .sh (.tup (qs.map sgD)), A, .no, .no, .no, .no, .no, .no, .no, .no, .no, .no, .no, .no, .sh d, .no, .no] [15] = [.ow true io1, .sh (.tup (qs.map sgD)), A, .no, .no, .no, .no, .no, .no, .no, .no, .no, .no, .no, .no, .no, .no, .no] := rfl
      have ok : ownOk [.ow true io, .sh (.tup (qs.map sgD)), A, .no, .no, .no, .no, .no, .no, .no, .no, .no, .no, .no, .no, .no, .no, .no] [15] = true := rfl
      rw [lcD, if_pos ok, s1]
      dsimp only
      rw [show ∀ ρ : Rho, tYesD ρ = some (true, ρ) from fun ρ => rfl]
      dsimp only
      rw [s2]
      dsimp only
      rw [s3, e2]
      rfl
    · rcases List.mem_cons.mp hx with rfl | hx
      · exact hc
      · exact m2 x hx
theorem wd_s {qs : List Nat} (hq : 0 < qs.length) (hq9 : qs.length < 1000) {A : Sl} {io : D} {n : Nat} (h : SkOk n io) (hn : n ≤ 1000) :
    ∃ (w : Tx) (io1 : D), d2 joinD (d0 (.str [])) (dLc (dLL range1L (dCons (dCio 0 (runIO 5 1 m__law_dip) (dCons (d0 (.int 7)) dNil)) dNil)) (gN 15) tYesD (dCio 0 (runIO 2 1 m__law_one) (dCons (dV 1) dNil)) [15]) [.ow true io, .sh (.tup (qs.map sgD)), A, .no, .no, .no, .no, .no, .no, .no, .no, .no, .no, .no, .no, .no, .no, .no] = some (.str w, [.ow true io1, .sh (.tup (qs.map sgD)), A, .no, .no, .no, .no, .no, .no, .no, .no, .no, .no, .no, .no, .no, .no, .no]) ∧ w.length ≤ 6 ∧ (∀ c ∈ w, c ∈ qs) ∧ SkOk (n + 7) io1 := by
  obtain ⟨t, io1, e1, ht, h1⟩ := r_dip h (by omega) 7 (by decide) (by decide)
  obtain ⟨w, io2, e2, l2, m2, h2⟩ := wd_lc hq hq9 (A := A) ((List.range t).map fun k : Nat => D.int (k : Int)) io1 (n + 1) h1 (by rw [List.length_map, List.length_range]; omega)
  rw [List.length_map, List.length_range] at l2 h2
  refine ⟨w, io2, ?_, by omega, m2, h2.mono (by omega)⟩
  rw [show (((7 : Nat) : Int)) = 7 from rfl] at e1
  simp only [evl, List.length_cons, List.length_nil, List.set_cons_succ, List.set_cons_zero, List.getElem?_cons_succ, List.getElem?_cons_zero, Nat.reduceAdd, Nat.reduceLT, if_true, e1, range_n t (by omega), e2, List.length_map, l2, show t ≤ 16777216 by omega, join_0 w (by omega)]
theorem p1 {qs : List Nat} (hq : 0 < qs.length) (hq9 : qs.length < 1000) {io : D} {n : Nat} (h : SkOk n io) (hn : n ≤ 1000) :
    ∃ (w : Tx) (io1 : D), P1 [.ow true io, .sh (.tup (qs.map sgD)), .no, .no, .no, .no, .no, .no, .no, .no, .no, .no, .no, .no, .no, .no, .no, .no] = some (.nx [.ow true io1, .sh (.tup (qs.map sgD)), .sh (.str w), .no, .no, .no, .no, .no, .no, .no, .no, .no, .no, .no, .no, .no, .no, .no]) ∧ w.length ≤ 6 ∧ (∀ c ∈ w, c ∈ qs) ∧ SkOk (n + 7) io1 := by
  obtain ⟨w, io1, e, r⟩ := wd_s hq hq9 (A := .no) h hn
  refine ⟨w, io1, ?_, r⟩
  rw [show P1 = sSet 2 _ from rfl, sSet_ap, e]
  rfl
theorem p2 {qs : List Nat} (hq : 0 < qs.length) (hq9 : qs.length < 1000) {A : Sl} {io : D} {n : Nat} (h : SkOk n io) (hn : n ≤ 1000) :
    ∃ (w : Tx) (io1 : D), P2 [.ow true io, .sh (.tup (qs.map sgD)), A, .no, .no, .no, .no, .no, .no, .no, .no, .no, .no, .no, .no, .no, .no, .no] = some (.nx [.ow true io1, .sh (.tup (qs.map sgD)), A, .sh (.str w), .no, .no, .no, .no, .no, .no, .no, .no, .no, .no, .no, .no, .no, .no]) ∧ w.length ≤ 6 ∧ (∀ c ∈ w, c ∈ qs) ∧ SkOk (n + 7) io1 := by
  obtain ⟨w, io1, e, r⟩ := wd_s hq hq9 (A := A) h hn
  refine ⟨w, io1, ?_, r⟩
  rw [show P2 = sSet 3 _ from rfl, sSet_ap, e]
  rfl
theorem p0 {io : D} {n : Nat} (h : SkOk n io) (hn : n ≤ 1000) : ∃ (qs : List Nat) (io1 : D), P0 [.ow true io, .no, .no, .no, .no, .no, .no, .no, .no, .no, .no, .no, .no, .no, .no, .no, .no, .no] = some (.nx [.ow true io1, .sh (.tup (qs.map sgD)), .no, .no, .no, .no, .no, .no, .no, .no, .no, .no, .no, .no, .no, .no, .no, .no]) ∧ SG qs ∧ SkOk (n + 1) io1 := by
  obtain ⟨d, io1, e, hd, h1⟩ := r_one h (by omega) (.lst [.tup [.str [97], .str [98]], .tup [.str [97], .str [98]], .tup [.str [97]], .tup [.str [97], .str [98], .str [99]], .tup [.str [98], .str [101]]]) _ (.inl rfl) (by decide) (by decide)
  obtain ⟨qs, hq, rfl⟩ : ∃ qs, SG qs ∧ d = .tup (qs.map sgD) := by
    simp only [List.mem_cons, List.not_mem_nil, or_false] at hd
    rcases hd with rfl | rfl | rfl | rfl | rfl
    · exact ⟨_, .inl rfl, rfl⟩
    · exact ⟨_, .inl rfl, rfl⟩
    · exact ⟨_, .inr (.inl rfl), rfl⟩
    · exact ⟨_, .inr (.inr (.inl rfl)), rfl⟩
    · exact ⟨_, .inr (.inr (.inr rfl)), rfl⟩
  refine ⟨qs, io1, ?_, hq, h1⟩
  simp only [evl, List.length_cons, List.length_nil, List.set_cons_succ, List.set_cons_zero, List.getElem?_cons_succ, List.getElem?_cons_zero, Nat.reduceAdd, Nat.reduceLT, if_true, mkTup, mkLst, Nat.reduceLeDiff, e]

/-! ### the layers -/
theorem SG.pos {qs : List Nat} (h : SG qs) : 0 < qs.length := by rcases h with e | e | e | e <;> subst e <;> decide
theorem SG.val {qs : List Nat} (h : SG qs) {w : Tx} (hw : ∀ c ∈ w, c ∈ qs) : Valid w := List.all_eq_true.mpr fun c hc => decide_eq_true (h.in c (hw c hc))
theorem pow3 {q n k : Nat} (hq : q ≤ 3) (hp : 0 < q) (hn : n ≤ k) : q ^ n ≤ 3 ^ k := Nat.le_trans (Nat.pow_le_pow_left hq n) (Nat.pow_le_pow_right (by decide) hn)
theorem bel_few {qs : List Nat} (hq : SG qs) {w : Tx} (hw : ∀ c ∈ w, c ∈ qs) (m : Nat) : (below w m).length ≤ qs.length ^ (w.length - m) :=
  few_words (below_nd w m) fun x hx => by
    obtain ⟨h1, h2⟩ := below_mem.mp hx
    exact ⟨by omega, fun c hc => hw c (h1.subset hc)⟩
theorem bel_le {w : Tx} {m : Nat} {x : Tx} (hx : x ∈ below w m) : x.length ≤ w.length := by have := (below_mem.mp hx).2; omega
theorem bel_ok {qs : List Nat} (hq : SG qs) {w : Tx} (hw : ∀ c ∈ w, c ∈ qs) {m : Nat} : ∀ x ∈ below w m, Ok x := fun x hx => ok_of (hq.val fun c hc => hw c ((below_mem.mp hx).1.subset hc))
theorem l_outs {qs : List Nat} (hq : SG qs) {w : Tx} (hw : ∀ c ∈ w, c ∈ qs) (hl : w.length ≤ 6) (m : Nat) : runD 4 1 m__law_outs [WL (below w m)] = some (WL (below w (m + 1))) := by
  have hf : Few (below w m) 729 6 := ⟨Nat.le_trans (bel_few hq hw m) (pow3 hq.len hq.pos (show w.length - m ≤ 6 by omega)), fun x hx => Nat.le_trans (bel_le hx) hl⟩
  have hc := few_cuts hf
  rw [below_outs]
  refine r_law_outs _ (fun x hx => Nat.le_trans (hf.l x hx) (by decide)) (Nat.le_trans hc.n (by decide)) ?_
  refine Nat.lt_of_le_of_lt (once_len (m := below w (m + 1)) fun x hx => ?_) ?_
  · show x ∈ byW _
    exact byW_mem.mpr hx
  · exact Nat.lt_of_le_of_lt (Nat.le_trans (bel_few hq hw (m + 1)) (pow3 hq.len hq.pos (show w.length - (m + 1) ≤ 5 by omega))) (by decide)
theorem ab_few {qs : List Nat} (hq : SG qs) {w : Tx} (hw : ∀ c ∈ w, c ∈ qs) (hl : w.length ≤ 6) {m : Nat} (hm : m ≤ 2) : (above w qs m).length ≤ 299 := by
  rw [above_len hq.nd hw]
  have key : ((List.range 4).all fun q => (List.range 7).all fun n => (List.range 3).all fun m => decide (supN q n m ≤ 299)) = true := by decide +kernel
  have h1 := List.all_eq_true.mp (List.all_eq_true.mp (List.all_eq_true.mp key qs.length (List.mem_range.mpr (by have := hq.len; omega))) w.length (List.mem_range.mpr (by omega))) m (List.mem_range.mpr (by omega))
  exact of_decide_eq_true h1
theorem l_puts {qs : List Nat} (hq : SG qs) {w : Tx} (hw : ∀ c ∈ w, c ∈ qs) (hl : w.length ≤ 6) (m : Nat) (hm : m < 2) : runD 6 2 m__law_puts [WL (above w qs m), .tup (qs.map sgD)] = some (WL (above w qs (m + 1))) := by
  have hf := few_above (qs := qs) hl m
  have h9 := few_ins (qs := qs) hf
  have hmono := abv_mono (l := 6) (q := qs.length) (by decide) hq.len m (by omega)
  have e : ∀ x ∈ above w qs m, x.length ≤ 16777214 := fun x hx => Nat.le_trans (hf.l x hx) (by omega)
  have he : ∀ ws : List Tx, (ws.flatMap fun x => insL x qs).length = (ws.flatMap fun x => insP x qs).length := by
    intro ws
    induction ws with
    | nil => rfl
    | cons x ws ih =>
      rw [List.flatMap_cons, List.flatMap_cons, List.length_append, List.length_append, ih, insP_len]
      congr 1
      unfold insL
      rw [List.length_flatMap]
      have hsum : ∀ l : List Nat, (l.map fun _ : Nat => x.length + 1).sum = l.length * (x.length + 1) := by
        intro l
        induction l with
        | nil => simp
        | cons c l ih => rw [List.map_cons, List.sum_cons, ih, List.length_cons, Nat.add_mul]; omega
      simp only [List.length_map, List.length_range]
      rw [hsum, Nat.mul_comm]
  rw [above_puts]
  refine r_law_puts _ _ e ?_ ?_
  · rw [he]; exact Nat.le_trans h9.n hmono
  refine Nat.lt_of_le_of_lt (once_len (m := above w qs (m + 1)) fun x hx => ?_) ?_
  · show x ∈ byW _
    refine byW_mem.mpr ?_
    obtain ⟨y, hy, h⟩ := List.mem_flatMap.mp hx
    exact List.mem_flatMap.mpr ⟨y, hy, mem_insP.mpr (mem_insL.mp h)⟩
  · exact Nat.lt_of_le_of_lt (ab_few hq hw hl (show m + 1 ≤ 2 by omega)) (by decide)
end DLP

/-! The plain law, part 10: the layers, the runs. -/
namespace DLP
open PySem PySem.Spec PyProof.Rows L2 RZ DL
abbrev B4a : DenS := (sIf (dBl (d2 neD (dC (runD 2 2 m_outs_of) (dCons (dV 2) (dCons (dV 6) dNil))) (dC tupleD (dCons (dV 4) dNil)))) (sRet (d0 (.bl false))) sNil)
abbrev B4b : DenS := (sIf (dAndT (dBl (d2 ltD (dV 6) (d0 (.int 3)))) (dOrT (dBl (d2 neD (dC (runD 3 3 m_puts_of) (dCons (dV 2) (dCons (dV 1) (dCons (dV 6) dNil)))) (dC tupleD (dCons (dV 5) dNil)))) (dBl (d2 neD (dC lenD (dCons (dV 5) dNil)) (dC (runD 6 3 m_count_puts) (dCons (dC lenD (dCons (dV 2) dNil)) (dCons (dC lenD (dCons (dV 1) dNil)) (dCons (dV 6) dNil)))))))) (sRet (d0 (.bl false))) sNil)
abbrev B4c : DenS := (sPar 4 5 (dCons (dC (runD 4 1 m__law_outs) (dCons (dV 4) dNil)) (dCons (dIf (dBl (d2 ltD (dV 6) (d0 (.int 2)))) (dC (runD 6 2 m__law_puts) (dCons (dV 5) (dCons (dV 1) dNil))) (dC mkLst dNil)) dNil)))
theorem p4_eq : P4 = sFor (dLL range1L (dCons (d0 (.int 4)) dNil)) (gN 6) (sSeq B4a (sSeq B4b B4c)) := rfl
section
variable {qs : List Nat} {w : Tx} {I X3 X7 X8 X9 : Sl}
theorem p3 {io : D} {o : Tx} : P3 [.ow true io, I, .sh (.str w), .sh (.str o), .no, .no, .no, .no, .no, .no, .no, .no, .no, .no, .no, .no, .no, .no] = some (.nx [.ow true io, I, .sh (.str w), .sh (.str o), .sh (WL [w]), .sh (WL [w]), .no, .no, .no, .no, .no, .no, .no, .no, .no, .no, .no, .no]) := rfl
theorem b4a (hq : SG qs) (hw : ∀ c ∈ w, c ∈ qs) (hl : w.length ≤ 6) {m : Nat} (hm : m ≤ 3) {H : D} : B4a [I, .sh (.tup (qs.map sgD)), .sh (.str w), X3, .sh (WL (below w m)), .sh (H), .sh (.int (m : Int)), X7, X8, X9, .no, .no, .no, .no, .no, .no, .no, .no] = some (.nx [I, .sh (.tup (qs.map sgD)), .sh (.str w), X3, .sh (WL (below w m)), .sh (H), .sh (.int (m : Int)), X7, X8, X9, .no, .no, .no, .no, .no, .no, .no, .no]) := by
  have e := r_outs_of w m (hq.val hw) (by omega) hm
  have n := ne_tt (bel_ok hq hw (m := m)) (bel_ok hq hw (m := m))
  rw [decide_eq_true rfl] at n
  simp only [evl, List.length_cons, List.length_nil, List.set_cons_succ, List.set_cons_zero, List.getElem?_cons_succ, List.getElem?_cons_zero, Nat.reduceAdd, Nat.reduceLT, if_true, e, tupleD, n, Bool.not_true, Bool.false_eq_true, if_false]
theorem b4b (hq : SG qs) (hw : ∀ c ∈ w, c ∈ qs) (hl : w.length ≤ 6) {m : Nat} (hm : m < 3) : B4b [I, .sh (.tup (qs.map sgD)), .sh (.str w), X3, .sh (WL (below w m)), .sh (WL (above w qs m)), .sh (.int (m : Int)), X7, X8, X9, .no, .no, .no, .no, .no, .no, .no, .no] = some (.nx [I, .sh (.tup (qs.map sgD)), .sh (.str w), X3, .sh (WL (below w m)), .sh (WL (above w qs m)), .sh (.int (m : Int)), X7, X8, X9, .no, .no, .no, .no, .no, .no, .no, .no]) := by
  have e := r_puts_of w qs m (hq.val hw) (by omega) hq (by omega)
  have ok : ∀ x ∈ above w qs m, Ok x := fun x hx => ok_of (hq.val ((above_mem hw).mp hx).2.2)
  have n := ne_tt ok ok
  rw [decide_eq_true rfl] at n
  have g : decide ((m : Int) < 3) = true := decide_eq_true (by omega)
  have hq3 := hq.len
  have hq0 := hq.pos
  have c := r_count w.length qs.length m (by omega) (by omega) (by omega) (by omega)
  have lw : lenD [.str w] = some (.int (w.length : Int)) := by
    show (if w.length ≤ 16777216 then some (D.int (w.length : Int)) else none) = _
    rw [if_pos (by omega)]
  have lq : lenD [.tup (qs.map sgD)] = some (.int (qs.length : Int)) := by
    show some (D.int ((qs.map sgD).length : Int)) = _
    rw [List.length_map]
  have la : lenD [WL (above w qs m)] = some (.int ((above w qs m).length : Int)) := by
    show some (D.int (((above w qs m).map D.str).length : Int)) = _
    rw [List.length_map]
  have ec : cnt w.length qs.length m = (above w qs m).length := by
    rw [above_len hq.nd hw]
    exact cnt_sup qs.length (by omega) w.length hl m (by omega)
  rw [ec] at c
  simp only [evl, List.length_cons, List.length_nil, List.set_cons_succ, List.set_cons_zero, List.getElem?_cons_succ, List.getElem?_cons_zero, Nat.reduceAdd, Nat.reduceLT, if_true, lt_ii, g, e, tupleD, n, Bool.not_true, Bool.false_eq_true, if_false, lw, lq, la, c, ne_ii, decide_true]
theorem b4b3 {lo hi : D} : B4b [I, .sh (.tup (qs.map sgD)), .sh (.str w), X3, .sh (lo), .sh (hi), .sh (.int 3), X7, X8, X9, .no, .no, .no, .no, .no, .no, .no, .no] = some (.nx [I, .sh (.tup (qs.map sgD)), .sh (.str w), X3, .sh (lo), .sh (hi), .sh (.int 3), X7, X8, X9, .no, .no, .no, .no, .no, .no, .no, .no]) := rfl
theorem b4c (hq : SG qs) (hw : ∀ c ∈ w, c ∈ qs) (hl : w.length ≤ 6) {m : Nat} (hm : m < 2) : B4c [I, .sh (.tup (qs.map sgD)), .sh (.str w), X3, .sh (WL (below w m)), .sh (WL (above w qs m)), .sh (.int (m : Int)), X7, X8, X9, .no, .no, .no, .no, .no, .no, .no, .no] = some (.nx [I, .sh (.tup (qs.map sgD)), .sh (.str w), X3, .sh (WL (below w (m + 1))), .sh (WL (above w qs (m + 1))), .sh (.int (m : Int)), X7, X8, X9, .no, .no, .no, .no, .no, .no, .no, .no]) := by
  have g : decide ((m : Int) < 2) = true := decide_eq_true (by omega)
  simp only [evl, List.length_cons, List.length_nil, List.set_cons_succ, List.set_cons_zero, List.getElem?_cons_succ, List.getElem?_cons_zero, Nat.reduceAdd, Nat.reduceLT, if_true, lt_ii, g, l_outs hq hw hl m, l_puts hq hw hl m hm, and_self]
theorem b4c2 (hq : SG qs) (hw : ∀ c ∈ w, c ∈ qs) (hl : w.length ≤ 6) {m : Nat} (hm : 2 ≤ m) {H : D} : B4c [I, .sh (.tup (qs.map sgD)), .sh (.str w), X3, .sh (WL (below w m)), .sh (H), .sh (.int (m : Int)), X7, X8, X9, .no, .no, .no, .no, .no, .no, .no, .no] = some (.nx [I, .sh (.tup (qs.map sgD)), .sh (.str w), X3, .sh (WL (below w (m + 1))), .sh (WL []), .sh (.int (m : Int)), X7, X8, X9, .no, .no, .no, .no, .no, .no, .no, .no]) := by
  have g : decide ((m : Int) < 2) = false := decide_eq_false (by omega)
  have e : mkLst [] = some (WL []) := rfl
  simp only [evl, List.length_cons, List.length_nil, List.set_cons_succ, List.set_cons_zero, List.getElem?_cons_succ, List.getElem?_cons_zero, Nat.reduceAdd, Nat.reduceLT, if_true, lt_ii, g, l_outs hq hw hl m, and_self, Bool.false_eq_true, if_false, e]
theorem p4 (hq : SG qs) (hw : ∀ c ∈ w, c ∈ qs) (hl : w.length ≤ 6) {X6 : Sl} : P4 [I, .sh (.tup (qs.map sgD)), .sh (.str w), X3, .sh (WL (below w 0)), .sh (WL (above w qs 0)), X6, X7, X8, X9, .no, .no, .no, .no, .no, .no, .no, .no] = some (.nx [I, .sh (.tup (qs.map sgD)), .sh (.str w), X3, .sh (WL (below w 4)), .sh (WL []), .sh (.int ((3 : Nat) : Int)), X7, X8, X9, .no, .no, .no, .no, .no, .no, .no, .no]) := by
  have g : ∀ (k : Nat) (x y : Sl) (X : Sl), gN 6 (.int (k : Int)) [I, .sh (.tup (qs.map sgD)), .sh (.str w), X3, x, y, X, X7, X8, X9, .no, .no, .no, .no, .no, .no, .no, .no] = some [I, .sh (.tup (qs.map sgD)), .sh (.str w), X3, x, y, .sh (.int (k : Int)), X7, X8, X9, .no, .no, .no, .no, .no, .no, .no, .no] := fun k x y X => rfl
  have r : dLL range1L (dCons (d0 (.int 4)) dNil) [I, .sh (.tup (qs.map sgD)), .sh (.str w), X3, .sh (WL (below w 0)), .sh (WL (above w qs 0)), X6, X7, X8, X9, .no, .no, .no, .no, .no, .no, .no, .no] = some ([.int ((0 : Nat) : Int), .int ((1 : Nat) : Int), .int ((2 : Nat) : Int), .int ((3 : Nat) : Int)], [I, .sh (.tup (qs.map sgD)), .sh (.str w), X3, .sh (WL (below w 0)), .sh (WL (above w qs 0)), X6, X7, X8, X9, .no, .no, .no, .no, .no, .no, .no, .no]) := rfl
  rw [p4_eq, sFor_ap, r, bnd_s, kFor_ap]
  refine (forD_step (g 0 _ _ _) ((seq_step (b4a hq hw hl (by decide))).trans ((seq_step (b4b hq hw hl (by decide))).trans (b4c hq hw hl (by decide))))).trans ?_
  refine (forD_step (g 1 _ _ _) ((seq_step (b4a hq hw hl (by decide))).trans ((seq_step (b4b hq hw hl (by decide))).trans (b4c hq hw hl (by decide))))).trans ?_
  refine (forD_step (g 2 _ _ _) ((seq_step (b4a hq hw hl (by decide))).trans ((seq_step (b4b hq hw hl (by decide))).trans (b4c2 hq hw hl (by decide))))).trans ?_
  refine (forD_step (g 3 _ _ _) ((seq_step (b4a hq hw hl (by decide))).trans ((seq_step b4b3).trans (b4c2 hq hw hl (by decide))))).trans ?_
  rfl
end
section
variable {w : Tx} {I X1 X3 X4 X5 X6 : Sl}
theorem r_tt {k : Nat} (o : Ok w) (hl : w.length ≤ 16777216) (hk : k < w.length) : (dOrT (dBl (d2 eqD (dV 16) (d0 (.int 0)))) (dBl (d2 neD (dAtN 2 (d2 subI (dV 16) (d0 (.int 1)))) (dAtN 2 (dV 16))))) [I, X1, .sh (.str w), X3, X4, X5, X6, .no, .no, .no, .no, .no, .no, .no, .no, .no, .sh (.int (k : Int)), .no] = some (fl w k, [I, X1, .sh (.str w), X3, X4, X5, X6, .no, .no, .no, .no, .no, .no, .no, .no, .no, .sh (.int (k : Int)), .no]) := by
  by_cases h : k = 0
  · subst h
    rfl
  · simp only [evl, List.length_cons, List.length_nil, List.set_cons_succ, List.set_cons_zero, List.getElem?_cons_succ, List.getElem?_cons_zero, Nat.reduceAdd, Nat.reduceLT, if_true, eq_ii, ints_ne, h, decide_false, Bool.false_eq_true, if_false, sub_n1 h, ix_str (show k - 1 < w.length by omega) hl, ix_str hk hl, ne_ss (ok_1 o (show k - 1 < w.length by omega)) (ok_1 o hk), ss1]
    simp only [fl, h, decide_false, Bool.false_or]
theorem p5 (v : Valid w) (hl : w.length ≤ 6) : P5 [I, X1, .sh (.str w), X3, X4, X5, X6, .no, .no, .no, .no, .no, .no, .no, .no, .no, .no, .no] = some (.nx [I, X1, .sh (.str w), X3, X4, X5, X6, .sh (.int (runs w : Int)), .no, .no, .no, .no, .no, .no, .no, .no, .no, .no]) := by
  have e : lcD (gN 16) (dOrT (dBl (d2 eqD (dV 16) (d0 (.int 0)))) (dBl (d2 neD (dAtN 2 (d2 subI (dV 16) (d0 (.int 1)))) (dAtN 2 (dV 16))))) (dV 16) [16] ((List.range w.length).map fun k : Nat => D.int (k : Int)) [I, X1, .sh (.str w), X3, X4, X5, X6, .no, .no, .no, .no, .no, .no, .no, .no, .no, .no, .no] = some (((List.range w.length).filter (fl w)).map fun k : Nat => D.int (k : Int), [I, X1, .sh (.str w), X3, X4, X5, X6, .no, .no, .no, .no, .no, .no, .no, .no, .no, .no, .no]) := by
    refine lcD_map rfl _ fun k hk => ⟨[I, X1, .sh (.str w), X3, X4, X5, X6, .no, .no, .no, .no, .no, .no, .no, .no, .no, .sh (.int (k : Int)), .no], [I, X1, .sh (.str w), X3, X4, X5, X6, .no, .no, .no, .no, .no, .no, .no, .no, .no, .sh (.int (k : Int)), .no], rfl, r_tt (ok_of v) (by omega) (List.mem_range.mp hk), fun _ => rfl, fun _ => ⟨_, rfl, rfl⟩⟩
  have lw : lenD [.str w] = some (.int (w.length : Int)) := by
    show (if w.length ≤ 16777216 then some (D.int (w.length : Int)) else none) = _
    rw [if_pos (by omega)]
  have ll : ((List.range w.length).filter (fl w)).length ≤ w.length := Nat.le_trans (List.length_filter_le _ _) (by rw [List.length_range]; exact Nat.le_refl _)
  have lz : lenD [.lst (((List.range w.length).filter (fl w)).map fun k : Nat => D.int (k : Int))] = some (.int (runs w : Int)) := by
    show some (D.int ((((List.range w.length).filter (fl w)).map fun k : Nat => D.int (k : Int)).length : Int)) = _
    rw [List.length_map, runs_fl]
  have hd : dLL range1L (dCons (dC lenD (dCons (dV 2) dNil)) dNil) [I, X1, .sh (.str w), X3, X4, X5, X6, .no, .no, .no, .no, .no, .no, .no, .no, .no, .no, .no] = some ((List.range w.length).map fun k : Nat => D.int (k : Int), [I, X1, .sh (.str w), X3, X4, X5, X6, .no, .no, .no, .no, .no, .no, .no, .no, .no, .no, .no]) := by
    simp only [evl, List.length_cons, List.length_nil, List.set_cons_succ, List.set_cons_zero, List.getElem?_cons_succ, List.getElem?_cons_zero, Nat.reduceAdd, Nat.reduceLT, if_true, lw, range_n w.length (by omega)]
  have hc : (dLc (dLL range1L (dCons (dC lenD (dCons (dV 2) dNil)) dNil)) (gN 16) (dOrT (dBl (d2 eqD (dV 16) (d0 (.int 0)))) (dBl (d2 neD (dAtN 2 (d2 subI (dV 16) (d0 (.int 1)))) (dAtN 2 (dV 16))))) (dV 16) [16]) [I, X1, .sh (.str w), X3, X4, X5, X6, .no, .no, .no, .no, .no, .no, .no, .no, .no, .no, .no] = some (.lst (((List.range w.length).filter (fl w)).map fun k : Nat => D.int (k : Int)), [I, X1, .sh (.str w), X3, X4, X5, X6, .no, .no, .no, .no, .no, .no, .no, .no, .no, .no, .no]) := by
    rw [dLc_ap, hd, bnd_s, kLc_ap, e, bnd_s, kLcE_ap, if_pos (by rw [List.length_map]; omega)]
  rw [show P5 = sSet 7 (dC lenD (dCons (dLc (dLL range1L (dCons (dC lenD (dCons (dV 2) dNil)) dNil)) (gN 16) (dOrT (dBl (d2 eqD (dV 16) (d0 (.int 0)))) (dBl (d2 neD (dAtN 2 (d2 subI (dV 16) (d0 (.int 1)))) (dAtN 2 (dV 16))))) (dV 16) [16]) dNil)) from rfl, sSet_ap, dC_ap, dCons_ap, hc]
  simp only [evl, List.length_cons, List.length_nil, List.set_cons_succ, List.set_cons_zero, List.getElem?_cons_succ, List.getElem?_cons_zero, Nat.reduceAdd, Nat.reduceLT, if_true, lz]
theorem p6 (v : Valid w) (hl : w.length ≤ 6) : P6 [I, X1, .sh (.str w), X3, X4, X5, X6, .sh (.int (runs w : Int)), .no, .no, .no, .no, .no, .no, .no, .no, .no, .no] = some (.nx [I, X1, .sh (.str w), X3, X4, X5, X6, .sh (.int (runs w : Int)), .no, .no, .no, .no, .no, .no, .no, .no, .no, .no]) := by
  have e1 := r_runs_of w v (by omega)
  have e2 : runD 2 2 m_outs_of [.str w, .int 1] = some (.tup ((below w 1).map .str)) := r_outs_of w 1 v (by omega) (by decide)
  have e3 : lenD [.tup ((below w 1).map .str)] = some (.int (runs w : Int)) := by
    show some (D.int (((below w 1).map D.str).length : Int)) = _
    rw [List.length_map, below1_len]
  simp only [evl, List.length_cons, List.length_nil, List.set_cons_succ, List.set_cons_zero, List.getElem?_cons_succ, List.getElem?_cons_zero, Nat.reduceAdd, Nat.reduceLT, if_true, e1, e2, e3, ne_ii, decide_true, Bool.not_true, Bool.false_eq_true, if_false]
theorem p7 {X7 : Sl} : P7 [I, X1, .sh (.str w), X3, X4, X5, X6, X7, .no, .no, .no, .no, .no, .no, .no, .no, .no, .no] = some (.nx [I, X1, .sh (.str w), X3, X4, X5, X6, X7, .sh (WL [w]), .sh (WL [w]), .no, .no, .no, .no, .no, .no, .no, .no]) := rfl
end
end DLP

/-! The plain law, part 11: all parts, the first shared layer. -/
namespace DLP
open PySem PySem.Spec PyProof.Rows L2 RZ DL
theorem wh_step {c : DenT} {b : DenS} {n : Nat} {ρ ρ1 ρ2 : Rho} (hc : c ρ = some (true, ρ1)) (hb : b ρ1 = some (.nx ρ2)) : whD c b (n + 1) ρ = whD c b n ρ2 := by
  rw [whD, hc]
  dsimp only
  rw [hb]
theorem wh_end {c : DenT} {b : DenS} {n : Nat} {ρ ρ1 : Rho} (hc : c ρ = some (false, ρ1)) : whD c b (n + 1) ρ = some (.nx ρ1) := by
  rw [whD, hc]
abbrev C8 : DenT := (dBl (d2 neD (dV 9) (dC mkLst dNil)))
abbrev B8 : DenS := (sSeq (sSet 9 (dC (runD 4 1 m__law_outs) (dCons (dV 9) dNil)))
    (sSet 8 (dAdd (dV 8) (dV 9))))
abbrev C10 : DenT := (dBl (d2 eqD (dLc (dL seqD (dV 9)) (gN 17) (dBl (dIn (dV 17) (dV 10))) (dV 17) [17]) (dC mkLst dNil)))
abbrev B10 : DenS := (sSet 9 (dC (runD 4 1 m__law_outs) (dCons (dV 9) dNil)))
abbrev L9 : Den := (dLc (dL seqD (dV 8)) (gN 17) tYesD (dC mkTup (dCons (dV 17) (dCons (d0 (.bl true)) dNil))) [17])
abbrev L10 : Den := (dLc (dL seqD (dV 9)) (gN 17) (dBl (dIn (dV 17) (dV 10))) (dV 17) [17])
abbrev L11 : Den := (dLc (dL seqD (dV 9)) (gN 17) (dBl (dIn (dV 17) (dV 10))) (dC lenD (dCons (dV 17) dNil)) [17])
theorem bel_nil {w : Tx} {m : Nat} : below w m = [] ↔ w.length < m := by
  constructor
  · intro h
    by_cases g : w.length < m
    · exact g
    · have : w.take (w.length - m) ∈ below w m := below_mem.mpr ⟨List.take_sublist _ _, by rw [List.length_take]; omega⟩
      rw [h] at this
      exact (List.not_mem_nil this).elim
  · intro h
    cases e : below w m with
    | nil => rfl
    | cons x r =>
      have := (below_mem.mp (show x ∈ below w m by rw [e]; exact List.mem_cons_self)).2
      omega
def partsTo (w : Tx) : Nat → List Tx
  | 0 => [w]
  | m + 1 => partsTo w m ++ below w (m + 1)
theorem mem_partsTo {w x : Tx} : ∀ {m : Nat}, x ∈ partsTo w m ↔ ∃ j, j ≤ m ∧ x ∈ below w j
  | 0 => by
    constructor
    · intro h; exact ⟨0, Nat.le_refl 0, h⟩
    · rintro ⟨j, hj, h⟩
      have : j = 0 := by omega
      subst this
      exact h
  | m + 1 => by
    rw [partsTo, List.mem_append, mem_partsTo]
    constructor
    · rintro (⟨j, hj, h⟩ | h)
      · exact ⟨j, by omega, h⟩
      · exact ⟨m + 1, Nat.le_refl _, h⟩
    · rintro ⟨j, hj, h⟩
      by_cases e : j = m + 1
      · subst e; exact .inr h
      · exact .inl ⟨j, by omega, h⟩
theorem parts_all {w x : Tx} : x ∈ partsTo w (w.length + 1) ↔ x.Sublist w := by
  rw [mem_partsTo]
  constructor
  · rintro ⟨j, _, h⟩
    exact (below_mem.mp h).1
  · intro h
    have := h.length_le
    exact ⟨w.length - x.length, by omega, below_mem.mpr ⟨h, by omega⟩⟩
theorem bel729 {qs : List Nat} (hq : SG qs) {w : Tx} (hw : ∀ c ∈ w, c ∈ qs) (hl : w.length ≤ 6) (m : Nat) : (below w m).length ≤ 729 := Nat.le_trans (bel_few hq hw m) (pow3 hq.len hq.pos (show w.length - m ≤ 6 by omega))
theorem wl_app {a b : List Tx} : WL (a ++ b) = D.lst (a.map D.str ++ b.map D.str) := by unfold WL; rw [List.map_append]
theorem partsTo_len {qs : List Nat} (hq : SG qs) {w : Tx} (hw : ∀ c ∈ w, c ∈ qs) (hl : w.length ≤ 6) : ∀ m, (partsTo w m).length ≤ 729 * (m + 1)
  | 0 => by simp [partsTo]
  | m + 1 => by
    rw [partsTo, List.length_append]
    have := partsTo_len hq hw hl m
    have := bel729 hq hw hl (m + 1)
    omega
section
variable {qs : List Nat} {w o : Tx} {I X1 X4 X5 X6 X7 : Sl}
theorem p8_at (hq : SG qs) (hw : ∀ c ∈ w, c ∈ qs) (hl : w.length ≤ 6) : ∀ (j m f : Nat), m + j = w.length + 1 → j + 1 ≤ f → whD C8 B8 f [I, X1, .sh (.str w), .sh (.str o), X4, X5, X6, X7, .sh (WL (partsTo w m)), .sh (WL (below w m)), .no, .no, .no, .no, .no, .no, .no, .no] = some (.nx [I, X1, .sh (.str w), .sh (.str o), X4, X5, X6, X7, .sh (WL (partsTo w (w.length + 1))), .sh (WL []), .no, .no, .no, .no, .no, .no, .no, .no])
  | 0, m, f, h, hf => by
    obtain ⟨f, rfl⟩ : ∃ g, f = g + 1 := ⟨f - 1, by omega⟩
    have e : below w m = [] := bel_nil.mpr (by omega)
    have em : m = w.length + 1 := by omega
    subst em
    rw [e]
    exact wh_end rfl
  | j + 1, m, f, h, hf => by
    obtain ⟨f, rfl⟩ : ∃ g, f = g + 1 := ⟨f - 1, by omega⟩
    have e : ¬ below w m = [] := fun z => by have := bel_nil.mp z; omega
    have n := ne_ll (bel_ok hq hw (m := m)) (vs := []) (fun _ h => (List.not_mem_nil h).elim)
    rw [decide_eq_false e] at n
    have e2 : mkLst [] = some (WL []) := rfl
    have c : C8 [I, X1, .sh (.str w), .sh (.str o), X4, X5, X6, X7, .sh (WL (partsTo w m)), .sh (WL (below w m)), .no, .no, .no, .no, .no, .no, .no, .no] = some (true, [I, X1, .sh (.str w), .sh (.str o), X4, X5, X6, X7, .sh (WL (partsTo w m)), .sh (WL (below w m)), .no, .no, .no, .no, .no, .no, .no, .no]) := by
      simp only [evl, List.length_cons, List.length_nil, List.set_cons_succ, List.set_cons_zero, List.getElem?_cons_succ, List.getElem?_cons_zero, Nat.reduceAdd, Nat.reduceLT, if_true, e2, n, Bool.not_false]
    have hz : ((partsTo w m).map D.str).length + ((below w (m + 1)).map D.str).length ≤ 16777216 := by
      rw [List.length_map, List.length_map]
      have := partsTo_len hq hw hl m
      have := bel729 hq hw hl (m + 1)
      have h7 : 729 * (m + 1) ≤ 729 * 8 := Nat.mul_le_mul_left _ (by omega)
      omega
    have b : B8 [I, X1, .sh (.str w), .sh (.str o), X4, X5, X6, X7, .sh (WL (partsTo w m)), .sh (WL (below w m)), .no, .no, .no, .no, .no, .no, .no, .no] = some (.nx [I, X1, .sh (.str w), .sh (.str o), X4, X5, X6, X7, .sh (WL (partsTo w (m + 1))), .sh (WL (below w (m + 1))), .no, .no, .no, .no, .no, .no, .no, .no]) := by
      rw [partsTo, wl_app]
      simp only [evl, List.length_cons, List.length_nil, List.set_cons_succ, List.set_cons_zero, List.getElem?_cons_succ, List.getElem?_cons_zero, Nat.reduceAdd, Nat.reduceLT, if_true, l_outs hq hw hl m, add_li, add_ls, add_ll _ _ hz]
    rw [wh_step c b]
    exact p8_at hq hw hl j (m + 1) f (by omega) (by omega)
theorem p8 (hq : SG qs) (hw : ∀ c ∈ w, c ∈ qs) (hl : w.length ≤ 6) : P8 [I, X1, .sh (.str w), .sh (.str o), X4, X5, X6, X7, .sh (WL [w]), .sh (WL [w]), .no, .no, .no, .no, .no, .no, .no, .no] = some (.nx [I, X1, .sh (.str w), .sh (.str o), X4, X5, X6, X7, .sh (WL (partsTo w (w.length + 1))), .sh (WL []), .no, .no, .no, .no, .no, .no, .no, .no]) :=
  p8_at hq hw hl (w.length + 1) 0 12 (by omega) (by omega)
/-- the parts' dict -/
def ownK (w : Tx) : List (KD × D) := ((partsTo w (w.length + 1)).foldl addK []).map keyT
theorem merge_key : ∀ (ws ks : List Tx), mergeD (ks.map keyT) (ws.map keyT) = (ws.foldl addK ks).map keyT
  | [], ks => rfl
  | x :: ws, ks => by
    have ih := merge_key ws (addK ks x)
    unfold mergeD at ih ⊢
    rw [List.map_cons, List.foldl_cons, List.foldl_cons, ← ih]
    congr 1
    exact putD_key ks x
theorem pairs_key : ∀ ws : List Tx, pairsD (ws.map fun x => D.tup [.str x, .bl true]) = some (ws.map keyT)
  | [] => rfl
  | x :: ws => by
    rw [List.map_cons, pairsD, pairs_key ws]
    rfl
theorem dict_key (ws : List Tx) : dictP [.lst (ws.map fun x => D.tup [.str x, .bl true])] = some (.dk ((ws.foldl addK []).map keyT)) := by
  unfold dictP
  dsimp only
  rw [pairs_key]
  dsimp only
  rw [show mergeD [] (ws.map keyT) = (ws.foldl addK []).map keyT from merge_key ws []]
theorem val_key (x : Tx) : ∀ ks : List Tx, (valD (ks.map keyT) (.inr x)).isSome = decide (x ∈ ks)
  | [] => rfl
  | k :: ks => by
    have ih := val_key x ks
    unfold valD at ih ⊢
    rw [List.map_cons, List.find?_cons]
    by_cases e : k = x
    · subst e
      rw [show decide ((keyT k).1 = Sum.inr k) = true from decide_eq_true rfl]
      simp
    · have ne : decide ((keyT k).1 = Sum.inr x) = false := decide_eq_false fun z => e (Sum.inr.inj z)
      rw [ne]
      dsimp only
      rw [ih]
      have : ¬ x = k := fun z => e z.symm
      simp [this]
theorem in_own (x : Tx) : inDk (.str x) (.dk (ownK w)) = some (.bl (decide (x.Sublist w))) := by
  show some (D.bl (valD (ownK w) (.inr x)).isSome) = _
  unfold ownK
  rw [val_key]
  congr 2
  refine decide_eq_decide.mpr ?_
  rw [foldK_mem, parts_all]
  simp
theorem p9 (hq : SG qs) (hw : ∀ c ∈ w, c ∈ qs) (hl : w.length ≤ 6) {X9 : Sl} {D9 : D} : P9 [I, X1, .sh (.str w), .sh (.str o), X4, X5, X6, X7, .sh (WL (partsTo w (w.length + 1))), .sh D9, .no, .no, .no, .no, .no, .no, .no, .no] = some (.nx [I, X1, .sh (.str w), .sh (.str o), X4, X5, X6, X7, .sh (WL (partsTo w (w.length + 1))), .sh (WL [o]), .sh (.dk (ownK w)), .no, .no, .no, .no, .no, .no, .no]) := by
  have hlen : (partsTo w (w.length + 1)).length ≤ 16777216 := by
    have := partsTo_len hq hw hl (w.length + 1)
    have h7 : 729 * (w.length + 1 + 1) ≤ 729 * 8 := Nat.mul_le_mul_left _ (by omega)
    omega
  have e : lcD (gN 17) tYesD (dC mkTup (dCons (dV 17) (dCons (d0 (.bl true)) dNil))) [17] ((partsTo w (w.length + 1)).map .str) [I, X1, .sh (.str w), .sh (.str o), X4, X5, X6, X7, .sh (WL (partsTo w (w.length + 1))), .sh D9, .no, .no, .no, .no, .no, .no, .no, .no] =
      some ((partsTo w (w.length + 1)).map fun x => D.tup [.str x, .bl true], [I, X1, .sh (.str w), .sh (.str o), X4, X5, X6, X7, .sh (WL (partsTo w (w.length + 1))), .sh D9, .no, .no, .no, .no, .no, .no, .no, .no]) :=
    lcD_all rfl _ fun x _ => ⟨_, _, rfl, rfl, rfl⟩
  have h9 : L9 [I, X1, .sh (.str w), .sh (.str o), X4, X5, X6, X7, .sh (WL (partsTo w (w.length + 1))), .sh D9, .no, .no, .no, .no, .no, .no, .no, .no] = some (.lst ((partsTo w (w.length + 1)).map fun x => D.tup [.str x, .bl true]), [I, X1, .sh (.str w), .sh (.str o), X4, X5, X6, X7, .sh (WL (partsTo w (w.length + 1))), .sh D9, .no, .no, .no, .no, .no, .no, .no, .no]) := by
    unfold L9
    rw [dLc_ap, show dL seqD (dV 8) [I, X1, .sh (.str w), .sh (.str o), X4, X5, X6, X7, .sh (WL (partsTo w (w.length + 1))), .sh D9, .no, .no, .no, .no, .no, .no, .no, .no] = some ((partsTo w (w.length + 1)).map .str, [I, X1, .sh (.str w), .sh (.str o), X4, X5, X6, X7, .sh (WL (partsTo w (w.length + 1))), .sh D9, .no, .no, .no, .no, .no, .no, .no, .no]) from rfl, bnd_s, kLc_ap, e, bnd_s, kLcE_ap, if_pos (by rw [List.length_map]; exact hlen)]
  have d9 : dC dictP (dCons L9 dNil) [I, X1, .sh (.str w), .sh (.str o), X4, X5, X6, X7, .sh (WL (partsTo w (w.length + 1))), .sh D9, .no, .no, .no, .no, .no, .no, .no, .no] = some (.dk (ownK w), [I, X1, .sh (.str w), .sh (.str o), X4, X5, X6, X7, .sh (WL (partsTo w (w.length + 1))), .sh D9, .no, .no, .no, .no, .no, .no, .no, .no]) := by
    rw [dC_ap, dCons_ap, h9, bnd_s, kCons_ap, dNil_ap, bnd_s, kApp_ap, bnd_s, kC_ap, dict_key, kV_s]
    rfl
  rw [show P9 = sTgt (dC mkTup (dCons (dC dictP (dCons L9 dNil)) (dCons (dC mkLst (dCons (dV 3) dNil)) dNil))) (gT (gsCons (gN 10) (gsCons (gN 9) gsNil))) from rfl, sTgt_ap, dC_ap, dCons_ap, d9]
  rfl
theorem in_sign_dk (x : Tx) (l : List (KD × D)) : inSign (.str x) (.dk l) = none := by
  cases x with
  | nil => rfl
  | cons c r => cases r <;> rfl
def hit (w : Tx) (ws : List Tx) : List Tx := ws.filter fun x => decide (x.Sublist w)
theorem t_in {K9 K8 : D} (x : Tx) : dBl (dIn (dV 17) (dV 10)) [I, X1, .sh (.str w), .sh (.str o), X4, X5, X6, X7, .sh K8, .sh K9, .sh (.dk (ownK w)), .no, .no, .no, .no, .no, .no, .sh (.str x)] = some (decide (x.Sublist w), [I, X1, .sh (.str w), .sh (.str o), X4, X5, X6, X7, .sh K8, .sh K9, .sh (.dk (ownK w)), .no, .no, .no, .no, .no, .no, .sh (.str x)]) := by
  simp only [evl, List.length_cons, List.length_nil, List.set_cons_succ, List.set_cons_zero, List.getElem?_cons_succ, List.getElem?_cons_zero, Nat.reduceAdd, Nat.reduceLT, if_true, in_sign_dk, in_own]
theorem l10 {K8 : D} {ws : List Tx} (h : ws.length ≤ 16777216) : L10 [I, X1, .sh (.str w), .sh (.str o), X4, X5, X6, X7, .sh K8, .sh (WL ws), .sh (.dk (ownK w)), .no, .no, .no, .no, .no, .no, .no] = some (WL (hit w ws), [I, X1, .sh (.str w), .sh (.str o), X4, X5, X6, X7, .sh K8, .sh (WL ws), .sh (.dk (ownK w)), .no, .no, .no, .no, .no, .no, .no]) := by
  have e : lcD (gN 17) (dBl (dIn (dV 17) (dV 10))) (dV 17) [17] (ws.map .str) [I, X1, .sh (.str w), .sh (.str o), X4, X5, X6, X7, .sh K8, .sh (WL ws), .sh (.dk (ownK w)), .no, .no, .no, .no, .no, .no, .no] = some ((hit w ws).map .str, [I, X1, .sh (.str w), .sh (.str o), X4, X5, X6, X7, .sh K8, .sh (WL ws), .sh (.dk (ownK w)), .no, .no, .no, .no, .no, .no, .no]) :=
    lcD_map rfl _ fun x _ => ⟨_, _, rfl, t_in x, fun _ => rfl, fun _ => ⟨_, rfl, rfl⟩⟩
  unfold L10
  rw [dLc_ap, show dL seqD (dV 9) [I, X1, .sh (.str w), .sh (.str o), X4, X5, X6, X7, .sh K8, .sh (WL ws), .sh (.dk (ownK w)), .no, .no, .no, .no, .no, .no, .no] = some (ws.map .str, [I, X1, .sh (.str w), .sh (.str o), X4, X5, X6, X7, .sh K8, .sh (WL ws), .sh (.dk (ownK w)), .no, .no, .no, .no, .no, .no, .no]) from rfl, bnd_s, kLc_ap, e, bnd_s, kLcE_ap, if_pos]
  rw [List.length_map]
  exact Nat.le_trans (List.length_filter_le _ _) h
theorem l11 {K8 : D} {ws : List Tx} (h : ws.length ≤ 16777216) (h6 : ∀ x ∈ ws, x.length ≤ 16777216) : L11 [I, X1, .sh (.str w), .sh (.str o), X4, X5, X6, X7, .sh K8, .sh (WL ws), .sh (.dk (ownK w)), .no, .no, .no, .no, .no, .no, .no] = some (.lst ((hit w ws).map fun x => D.int (x.length : Int)), [I, X1, .sh (.str w), .sh (.str o), X4, X5, X6, X7, .sh K8, .sh (WL ws), .sh (.dk (ownK w)), .no, .no, .no, .no, .no, .no, .no]) := by
  have e : lcD (gN 17) (dBl (dIn (dV 17) (dV 10))) (dC lenD (dCons (dV 17) dNil)) [17] (ws.map .str) [I, X1, .sh (.str w), .sh (.str o), X4, X5, X6, X7, .sh K8, .sh (WL ws), .sh (.dk (ownK w)), .no, .no, .no, .no, .no, .no, .no] = some ((hit w ws).map fun x => D.int (x.length : Int), [I, X1, .sh (.str w), .sh (.str o), X4, X5, X6, X7, .sh K8, .sh (WL ws), .sh (.dk (ownK w)), .no, .no, .no, .no, .no, .no, .no]) :=
    lcD_map rfl _ fun x hx => ⟨_, _, rfl, t_in x, fun _ => rfl, fun _ => ⟨[I, X1, .sh (.str w), .sh (.str o), X4, X5, X6, X7, .sh K8, .sh (WL ws), .sh (.dk (ownK w)), .no, .no, .no, .no, .no, .no, .sh (.str x)], by
      have lw : lenD [.str x] = some (.int (x.length : Int)) := by
        show (if x.length ≤ 16777216 then some (D.int (x.length : Int)) else none) = _
        rw [if_pos (h6 x hx)]
      simp only [evl, List.length_cons, List.length_nil, List.set_cons_succ, List.set_cons_zero, List.getElem?_cons_succ, List.getElem?_cons_zero, Nat.reduceAdd, Nat.reduceLT, if_true, lw], rfl⟩⟩
  unfold L11
  rw [dLc_ap, show dL seqD (dV 9) [I, X1, .sh (.str w), .sh (.str o), X4, X5, X6, X7, .sh K8, .sh (WL ws), .sh (.dk (ownK w)), .no, .no, .no, .no, .no, .no, .no] = some (ws.map .str, [I, X1, .sh (.str w), .sh (.str o), X4, X5, X6, X7, .sh K8, .sh (WL ws), .sh (.dk (ownK w)), .no, .no, .no, .no, .no, .no, .no]) from rfl, bnd_s, kLc_ap, e, bnd_s, kLcE_ap, if_pos]
  rw [List.length_map]
  exact Nat.le_trans (List.length_filter_le _ _) h
theorem hit_nil {j : Nat} (h : j + (lcs w o).length < o.length) : hit w (below o j) = [] := by
  unfold hit
  refine List.filter_eq_nil_iff.mpr fun x hx => ?_
  rw [decide_eq_true_eq]
  intro hs
  obtain ⟨h1, h2⟩ := below_mem.mp hx
  have := (lcs_best w o).max x hs h1
  omega
theorem hit_lcs {j : Nat} (h : j + (lcs w o).length = o.length) : lcs w o ∈ hit w (below o j) :=
  List.mem_filter.mpr ⟨below_mem.mpr ⟨(lcs_best w o).r, by omega⟩, decide_eq_true (lcs_best w o).l⟩
theorem p10_at (hq : SG qs) (ho : ∀ c ∈ o, c ∈ qs) (hl : o.length ≤ 6) {K8 : D} : ∀ (k j f : Nat), j + k + (lcs w o).length = o.length → k + 1 ≤ f → whD C10 B10 f [I, X1, .sh (.str w), .sh (.str o), X4, X5, X6, X7, .sh K8, .sh (WL (below o j)), .sh (.dk (ownK w)), .no, .no, .no, .no, .no, .no, .no] =
    some (.nx [I, X1, .sh (.str w), .sh (.str o), X4, X5, X6, X7, .sh K8, .sh (WL (below o (o.length - (lcs w o).length))), .sh (.dk (ownK w)), .no, .no, .no, .no, .no, .no, .no])
  | k, j, f, h, hf => by
    obtain ⟨f, rfl⟩ : ∃ g, f = g + 1 := ⟨f - 1, by omega⟩
    have l := l10 (w := w) (o := o) (I := I) (X1 := X1) (X4 := X4) (X5 := X5) (X6 := X6) (X7 := X7) (K8 := K8) (ws := below o j) (Nat.le_trans (bel729 hq ho hl j) (by decide))
    have n := eq_ll (ws := hit w (below o j)) (vs := []) (fun x hx => bel_ok hq ho x (List.mem_filter.mp hx).1) (fun _ h => (List.not_mem_nil h).elim)
    have e2 : mkLst [] = some (WL []) := rfl
    have c : C10 [I, X1, .sh (.str w), .sh (.str o), X4, X5, X6, X7, .sh K8, .sh (WL (below o j)), .sh (.dk (ownK w)), .no, .no, .no, .no, .no, .no, .no] = some (decide (hit w (below o j) = []), [I, X1, .sh (.str w), .sh (.str o), X4, X5, X6, X7, .sh K8, .sh (WL (below o j)), .sh (.dk (ownK w)), .no, .no, .no, .no, .no, .no, .no]) := by
      rw [show C10 = dBl (d2 eqD L10 (dC mkLst dNil)) from rfl, dBl_ap, d2_ap, l, bnd_s, k2_ap, dC_ap, dNil_ap, bnd_s, kC_ap, e2, kV_s, bnd_s, kF_ap, n, kV_s, bnd_s, kBl_b]
    match k, h, hf with
    | 0, h, hf =>
      have g : ¬ hit w (below o j) = [] := fun z => by
        have := hit_lcs (w := w) (o := o) (j := j) (by omega)
        rw [z] at this
        exact List.not_mem_nil this
      rw [decide_eq_false g] at c
      rw [wh_end c, show o.length - (lcs w o).length = j by omega]
    | k + 1, h, hf =>
      rw [decide_eq_true (hit_nil (w := w) (o := o) (j := j) (by omega))] at c
      have b : B10 [I, X1, .sh (.str w), .sh (.str o), X4, X5, X6, X7, .sh K8, .sh (WL (below o j)), .sh (.dk (ownK w)), .no, .no, .no, .no, .no, .no, .no] = some (.nx [I, X1, .sh (.str w), .sh (.str o), X4, X5, X6, X7, .sh K8, .sh (WL (below o (j + 1))), .sh (.dk (ownK w)), .no, .no, .no, .no, .no, .no, .no]) := by
        simp only [evl, List.length_cons, List.length_nil, List.set_cons_succ, List.set_cons_zero, List.getElem?_cons_succ, List.getElem?_cons_zero, Nat.reduceAdd, Nat.reduceLT, if_true, l_outs hq ho hl j]
      rw [wh_step c b]
      exact p10_at hq ho hl k (j + 1) f (by omega) (by omega)
theorem p10 (hq : SG qs) (ho : ∀ c ∈ o, c ∈ qs) (hl : o.length ≤ 6) {K8 : D} : P10 [I, X1, .sh (.str w), .sh (.str o), X4, X5, X6, X7, .sh K8, .sh (WL [o]), .sh (.dk (ownK w)), .no, .no, .no, .no, .no, .no, .no] =
    some (.nx [I, X1, .sh (.str w), .sh (.str o), X4, X5, X6, X7, .sh K8, .sh (WL (below o (o.length - (lcs w o).length))), .sh (.dk (ownK w)), .no, .no, .no, .no, .no, .no, .no]) := by
  have := (lcs_best w o).r.length_le
  exact p10_at hq ho hl (o.length - (lcs w o).length) 0 12 (by omega) (by omega)
theorem ints_rep (k : Nat) : ∀ n : Nat, intsOf (List.replicate n (D.int (k : Int))) = some (List.replicate n (k : Int))
  | 0 => rfl
  | n + 1 => by rw [List.replicate_succ, intsOf, ints_rep k n]; rfl
theorem max_rep (k n : Nat) : maxD [.lst (List.replicate (n + 1) (D.int (k : Int)))] = some (.int (k : Int)) := by
  unfold maxD
  dsimp only
  rw [ints_rep, List.replicate_succ]
  dsimp only
  have : ∀ n : Nat, (List.replicate n (k : Int)).foldl max (k : Int) = (k : Int) := by
    intro n
    induction n with
    | zero => rfl
    | succ n ih => rw [List.replicate_succ, List.foldl_cons, Int.max_self, ih]
  rw [this]
theorem p11 (hq : SG qs) (hw : ∀ c ∈ w, c ∈ qs) (hlw : w.length ≤ 6) (ho : ∀ c ∈ o, c ∈ qs) (hl : o.length ≤ 6) {K8 : D} : P11 [I, X1, .sh (.str w), .sh (.str o), X4, X5, X6, X7, .sh K8, .sh (WL (below o (o.length - (lcs w o).length))), .sh (.dk (ownK w)), .no, .no, .no, .no, .no, .no, .no] =
    some (.nx [I, X1, .sh (.str w), .sh (.str o), X4, X5, X6, X7, .sh K8, .sh (WL (below o (o.length - (lcs w o).length))), .sh (.dk (ownK w)), .no, .no, .no, .no, .no, .no, .no]) := by
  have hle := (lcs_best w o).r.length_le
  have hin := hit_lcs (w := w) (o := o) (j := o.length - (lcs w o).length) (by omega)
  have hall : ∀ x ∈ hit w (below o (o.length - (lcs w o).length)), x.length = (lcs w o).length := fun x hx => by
    have := (below_mem.mp (List.mem_filter.mp hx).1).2
    omega
  have l := l11 (w := w) (o := o) (I := I) (X1 := X1) (X4 := X4) (X5 := X5) (X6 := X6) (X7 := X7) (K8 := K8) (ws := below o (o.length - (lcs w o).length)) (Nat.le_trans (bel729 hq ho hl _) (by decide)) (fun x hx => Nat.le_trans (bel_le hx) (by omega))
  have er : (hit w (below o (o.length - (lcs w o).length))).map (fun x => D.int (x.length : Int)) = List.replicate (hit w (below o (o.length - (lcs w o).length))).length (D.int ((lcs w o).length : Int)) := by
    refine List.eq_replicate_iff.mpr ⟨List.length_map _, fun d hd => ?_⟩
    obtain ⟨x, hx, rfl⟩ := List.mem_map.mp hd
    rw [hall x hx]
  have hp := List.length_pos_of_mem hin
  obtain ⟨n, en⟩ : ∃ n, (hit w (below o (o.length - (lcs w o).length))).length = n + 1 := ⟨(hit w (below o (o.length - (lcs w o).length))).length - 1, by omega⟩
  rw [er, en] at l
  have es := r_shared_part w o (hq.val hw) (hq.val ho) (by omega) (by omega)
  have s : dC (runD 2 2 m_shared_part) (dCons (dV 2) (dCons (dV 3) dNil)) [I, X1, .sh (.str w), .sh (.str o), X4, X5, X6, X7, .sh K8, .sh (WL (below o (o.length - (lcs w o).length))), .sh (.dk (ownK w)), .no, .no, .no, .no, .no, .no, .no] = some (.int ((lcs w o).length : Int), [I, X1, .sh (.str w), .sh (.str o), X4, X5, X6, X7, .sh K8, .sh (WL (below o (o.length - (lcs w o).length))), .sh (.dk (ownK w)), .no, .no, .no, .no, .no, .no, .no]) := by
    simp only [evl, List.length_cons, List.length_nil, List.set_cons_succ, List.set_cons_zero, List.getElem?_cons_succ, List.getElem?_cons_zero, Nat.reduceAdd, Nat.reduceLT, if_true, es]
  rw [show P11 = sIf (dBl (d2 neD (dC (runD 2 2 m_shared_part) (dCons (dV 2) (dCons (dV 3) dNil))) (dC maxD (dCons L11 dNil)))) (sRet (d0 (.bl false))) sNil from rfl, sIf_ap, dBl_ap, d2_ap, s, bnd_s, k2_ap, dC_ap, dCons_ap, l, bnd_s, kCons_ap, dNil_ap, bnd_s, kApp_ap, bnd_s, kC_ap, max_rep, kV_s, bnd_s, kF_ap, ne_ii, decide_eq_true rfl, Bool.not_true, kV_s, bnd_s, kBl_b, bnd_s, kIf_ap, if_neg Bool.false_ne_true, sNil_ap]
end
end DLP

/-! The plain law, part 12: the count; the law. -/
namespace DLP
open PySem PySem.Spec PyProof.Rows L2 RZ DL
abbrev B14 : DenS := (sPar 13 14 (dCons (dAdd (dV 13) (dMul (dC (runD 4 2 m__law_choose) (dCons (dAdd (dV 11) (dV 6)) (dCons (dV 4) dNil))) (dV 14))) (dCons (dMul (dV 14) (d2 subI (dV 12) (d0 (.int 1)))) dNil)))
section
variable {X1 X2 X3 X4 X5 X7 X8 X9 X10 : Sl} {I : Sl}
theorem p12 {io : D} {n : Nat} {X6 : Sl} (h : SkOk n io) (hn : n ≤ 1000) : ∃ (l d m : Nat) (io1 : D), P12 [.ow true io, X1, X2, X3, X4, X5, X6, X7, X8, X9, X10, .no, .no, .no, .no, .no, .no, .no] = some (.nx [.ow true io1, X1, X2, X3, X4, X5, .sh (.int (m : Int)), X7, X8, X9, X10, .sh (.int (l : Int)), .sh (.int ((1 + d : Nat) : Int)), .no, .no, .no, .no, .no]) ∧ l ≤ 60 ∧ d ≤ 4 ∧ m ≤ 60 ∧ SkOk (n + 3) io1 := by
  obtain ⟨l, io1, e1, hl, h1⟩ := r_dip h (by omega) 61 (by decide) (by decide)
  obtain ⟨d, io2, e2, hd, h2⟩ := r_dip h1 (by omega) 5 (by decide) (by decide)
  obtain ⟨m, io3, e3, hm, h3⟩ := r_dip h2 (by omega) 61 (by decide) (by decide)
  rw [show (((61 : Nat) : Int)) = 61 from rfl] at e1 e3
  rw [show (((5 : Nat) : Int)) = 5 from rfl] at e2
  have ea : addI (.int 1) (.int (d : Int)) = some (.int ((1 + d : Nat) : Int)) := add_nn 1 d
  refine ⟨l, d, m, io3, ?_, by omega, by omega, by omega, h3⟩
  simp only [evl, List.length_cons, List.length_nil, List.set_cons_succ, List.set_cons_zero, List.getElem?_cons_succ, List.getElem?_cons_zero, Nat.reduceAdd, Nat.reduceLT, if_true, e1, e2, e3, ea, and_self]
theorem p13 {l q m : Nat} : P13 [I, X1, X2, X3, X4, X5, .sh (.int (m : Int)), X7, X8, X9, X10, .sh (.int (l : Int)), .sh (.int (q : Int)), .no, .no, .no, .no, .no] = some (.nx [I, X1, X2, X3, X4, X5, .sh (.int (m : Int)), X7, X8, X9, X10, .sh (.int (l : Int)), .sh (.int (q : Int)), .sh (.int ((0 : Nat) : Int)), .sh (.int ((1 : Nat) : Int)), .no, .no, .no]) := rfl
theorem b14 {l q m f p s : Nat} (c1 : cho (l + m) s < 2 ^ 489) (p2 : p < 2 ^ 123) (q1 : subI (.int (q : Int)) (.int 1) = some (.int ((q - 1 : Nat) : Int))) (q2 : q - 1 < 2 ^ 3) (hr : runD 4 2 m__law_choose [.int ((l + m : Nat) : Int), .int (s : Int)] = some (.int (cho (l + m) s : Int))) :
    B14 [I, X1, X2, X3, .sh (.int (s : Int)), X5, .sh (.int (m : Int)), X7, X8, X9, X10, .sh (.int (l : Int)), .sh (.int (q : Int)), .sh (.int (f : Int)), .sh (.int (p : Int)), .no, .no, .no] = some (.nx [I, X1, X2, X3, .sh (.int (s : Int)), X5, .sh (.int (m : Int)), X7, X8, X9, X10, .sh (.int (l : Int)), .sh (.int (q : Int)), .sh (.int ((f + cho (l + m) s * p : Nat) : Int)), .sh (.int ((p * (q - 1) : Nat) : Int)), .no, .no, .no]) := by
  simp only [evl, List.length_cons, List.length_nil, List.set_cons_succ, List.set_cons_zero, List.getElem?_cons_succ, List.getElem?_cons_zero, Nat.reduceAdd, Nat.reduceLT, if_true, add_nn, hr, mul_nn (cho (l + m) s) p 489 123 c1 p2 (by decide), q1, mul_nn p (q - 1) 123 3 p2 q2 (by decide), and_self]
theorem g14 {l q m f p s : Nat} : gN 4 (.int (s : Int)) [I, X1, X2, X3, X4, X5, .sh (.int (m : Int)), X7, X8, X9, X10, .sh (.int (l : Int)), .sh (.int (q : Int)), .sh (.int (f : Int)), .sh (.int (p : Int)), .no, .no, .no] = some [I, X1, X2, X3, .sh (.int (s : Int)), X5, .sh (.int (m : Int)), X7, X8, X9, X10, .sh (.int (l : Int)), .sh (.int (q : Int)), .sh (.int (f : Int)), .sh (.int (p : Int)), .no, .no, .no] := rfl
def G14 (ρ : Nat → Nat → Sl → Rho) (l q m j s f p : Nat) (k0 : Sl) : Prop := ∃ p1 k1, forD (gN 4) B14 ((List.range' s j).map fun k : Nat => D.int (k : Int)) (ρ f p k0) = some (.nx (ρ (cnR (l + m) q j s f p) p1 k1))
def rho14 (I X1 X2 X3 X5 X7 X8 X9 X10 : Sl) (l q m : Nat) (f p : Nat) (k : Sl) : Rho := [I, X1, X2, X3, k, X5, .sh (.int (m : Int)), X7, X8, X9, X10, .sh (.int (l : Int)), .sh (.int (q : Int)), .sh (.int (f : Int)), .sh (.int (p : Int)), .no, .no, .no]
theorem l14 {l q m : Nat} (hl : l ≤ 60) (hq : 1 ≤ q) (hq5 : q ≤ 5) (hm : m ≤ 60) (j : Nat) : ∀ (s f p : Nat) (k0 : Sl), p ≤ 4 ^ s → s + j ≤ m + 1 → G14 (rho14 I X1 X2 X3 X5 X7 X8 X9 X10 l q m) l q m j s f p k0 := by
  induction j with
  | zero => intro s f p k0 _ _; exact ⟨p, k0, rfl⟩
  | succ j ih =>
    intro s f p k0 hp hs
    have q2 : q - 1 < 2 ^ 3 := by omega
    have hs1 : s + 1 + j ≤ m + 1 := by omega
    have hs2 : s ≤ 61 := by omega
    have hs3 : s ≤ l + m + 1 := by omega
    have hlm : l + m ≤ 255 := by omega
    obtain ⟨p1, k1, e⟩ := ih (s + 1) (f + cho (l + m) s * p) (p * (q - 1)) (.sh (.int (s : Int))) (cn3 hq5 hp) hs1
    refine ⟨p1, k1, ?_⟩
    rw [List.range'_succ, List.map_cons, cnR_succ]
    have hr : runD 4 2 m__law_choose [.int ((l + m : Nat) : Int), .int (s : Int)] = some (.int (cho (l + m) s : Int)) := by rw [law_choose_eq]; exact cnx2 hlm hs2 hs3
    exact (forD_step (g14 (I := I) (X1 := X1) (X2 := X2) (X3 := X3) (X4 := k0) (X5 := X5) (X7 := X7) (X8 := X8) (X9 := X9) (X10 := X10) (l := l) (q := q) (m := m) (f := f) (p := p) (s := s)) (b14 (f := f) (cn4 hs2 hlm) (cn5 hs2 hp) (cnx1 hq) q2 hr)).trans e
theorem p14 {l q m : Nat} (hl : l ≤ 60) (hq : 1 ≤ q) (hq5 : q ≤ 5) (hm : m ≤ 60) : ∃ (p1 : Nat) (k1 : Sl), P14 [I, X1, X2, X3, X4, X5, .sh (.int (m : Int)), X7, X8, X9, X10, .sh (.int (l : Int)), .sh (.int (q : Int)), .sh (.int ((0 : Nat) : Int)), .sh (.int ((1 : Nat) : Int)), .no, .no, .no] = some (.nx [I, X1, X2, X3, k1, X5, .sh (.int (m : Int)), X7, X8, X9, X10, .sh (.int (l : Int)), .sh (.int (q : Int)), .sh (.int ((cnt l q m) : Int)), .sh (.int (p1 : Int)), .no, .no, .no]) := by
  obtain ⟨p1, k1, e⟩ := l14 (I := I) (X1 := X1) (X2 := X2) (X3 := X3) (X5 := X5) (X7 := X7) (X8 := X8) (X9 := X9) (X10 := X10) hl hq hq5 hm (m + 1) 0 0 1 X4 (Nat.le_refl 1) (by omega)
  rw [← List.range_eq_range'] at e
  refine ⟨p1, k1, ?_⟩
  have r : (dLL range1L (dCons (dAdd (dV 6) (d0 (.int 1))) dNil)) [I, X1, X2, X3, X4, X5, .sh (.int (m : Int)), X7, X8, X9, X10, .sh (.int (l : Int)), .sh (.int (q : Int)), .sh (.int ((0 : Nat) : Int)), .sh (.int ((1 : Nat) : Int)), .no, .no, .no] = some ((List.range (m + 1)).map fun k : Nat => D.int (k : Int), [I, X1, X2, X3, X4, X5, .sh (.int (m : Int)), X7, X8, X9, X10, .sh (.int (l : Int)), .sh (.int (q : Int)), .sh (.int ((0 : Nat) : Int)), .sh (.int ((1 : Nat) : Int)), .no, .no, .no]) := by
    simp only [evl, List.length_cons, List.length_nil, List.set_cons_succ, List.set_cons_zero, List.getElem?_cons_succ, List.getElem?_cons_zero, Nat.reduceAdd, Nat.reduceLT, if_true, add_n1, range_n (m + 1) (by omega)]
  rw [show P14 = sFor (dLL range1L (dCons (dAdd (dV 6) (d0 (.int 1))) dNil)) (gN 4) B14 from rfl, sFor_ap, r, bnd_s, kFor_ap]
  exact e
theorem p15 {l q m : Nat} (hl : l ≤ 60) (hq : 1 ≤ q) (hq5 : q ≤ 5) (hm : m ≤ 60) {p1 : Nat} : P15 [I, X1, X2, X3, X4, X5, .sh (.int (m : Int)), X7, X8, X9, X10, .sh (.int (l : Int)), .sh (.int (q : Int)), .sh (.int ((cnt l q m) : Int)), .sh (.int (p1 : Int)), .no, .no, .no] = some (.rt (.bl true) [I, X1, X2, X3, X4, X5, .sh (.int (m : Int)), X7, X8, X9, X10, .sh (.int (l : Int)), .sh (.int (q : Int)), .sh (.int ((cnt l q m) : Int)), .sh (.int (p1 : Int)), .no, .no, .no]) := by
  simp only [evl, List.length_cons, List.length_nil, List.set_cons_succ, List.set_cons_zero, List.getElem?_cons_succ, List.getElem?_cons_zero, Nat.reduceAdd, Nat.reduceLT, if_true, r_count l q m hl hq hq5 hm, eq_ii, decide_true]
end
theorem runIO0_of {nN : Nat} {φ : DenS} {io io' d : D} {ρ : Rho} (e : φ (startIO nN io []) = some (.rt d (.ow true io' :: ρ))) : runIO nN 0 φ io [] = some (d, io') := by rw [runIO_0, e]; rfl
theorem r_right {io : D} {n : Nat} (h : SkOk n io) (hn : n ≤ 500) : ∃ io1, runIO 18 0 m__law_right io [] = some (.bl true, io1) ∧ SkOk (n + 18) io1 := by
  obtain ⟨qs, io1, e0, hq, h1⟩ := p0 h (by omega)
  have q9 : qs.length < 1000 := by have := hq.len; omega
  obtain ⟨w, io2, e1, lw, hw, h2⟩ := p1 hq.pos q9 h1 (by omega)
  obtain ⟨o, io3, e2, lo, ho, h3⟩ := p2 hq.pos q9 (A := .sh (.str w)) h2 (by omega)
  have v := hq.val hw
  have e3 := p3 (w := w) (I := .sh (.tup (qs.map sgD))) (io := io3) (o := o)
  have e4 := p4 (I := .ow true io3) (X3 := .sh (.str o)) (X7 := .no) (X8 := .no) (X9 := .no) hq hw lw (X6 := .no)
  have e5 := p5 (I := .ow true io3) (X1 := .sh (.tup (qs.map sgD))) (X3 := .sh (.str o)) (X4 := .sh (WL (below w 4))) (X5 := .sh (WL [])) (X6 := .sh (.int ((3 : Nat) : Int))) v lw
  have e6 := p6 (I := .ow true io3) (X1 := .sh (.tup (qs.map sgD))) (X3 := .sh (.str o)) (X4 := .sh (WL (below w 4))) (X5 := .sh (WL [])) (X6 := .sh (.int ((3 : Nat) : Int))) v lw
  have e7 := p7 (w := w) (I := .ow true io3) (X1 := .sh (.tup (qs.map sgD))) (X3 := .sh (.str o)) (X4 := .sh (WL (below w 4))) (X5 := .sh (WL [])) (X6 := .sh (.int ((3 : Nat) : Int))) (X7 := .sh (.int (runs w : Int)))
  have e8 := p8 (o := o) (I := .ow true io3) (X1 := .sh (.tup (qs.map sgD))) (X4 := .sh (WL (below w 4))) (X5 := .sh (WL [])) (X6 := .sh (.int ((3 : Nat) : Int))) (X7 := .sh (.int (runs w : Int))) hq hw lw
  have e9 := p9 (o := o) (I := .ow true io3) (X1 := .sh (.tup (qs.map sgD))) (X4 := .sh (WL (below w 4))) (X5 := .sh (WL [])) (X6 := .sh (.int ((3 : Nat) : Int))) (X7 := .sh (.int (runs w : Int))) (X9 := .no) (D9 := WL []) hq hw lw
  have e10 := p10 (w := w) (I := .ow true io3) (X1 := .sh (.tup (qs.map sgD))) (X4 := .sh (WL (below w 4))) (X5 := .sh (WL [])) (X6 := .sh (.int ((3 : Nat) : Int))) (X7 := .sh (.int (runs w : Int))) (K8 := WL (partsTo w (w.length + 1))) hq ho lo
  have e11 := p11 (I := .ow true io3) (X1 := .sh (.tup (qs.map sgD))) (X4 := .sh (WL (below w 4))) (X5 := .sh (WL [])) (X6 := .sh (.int ((3 : Nat) : Int))) (X7 := .sh (.int (runs w : Int))) (K8 := WL (partsTo w (w.length + 1))) hq hw lw ho lo
  obtain ⟨l, d, m, io4, e12, hl, hd, hm, h4⟩ := p12 (X1 := .sh (.tup (qs.map sgD))) (X2 := .sh (.str w)) (X3 := .sh (.str o)) (X4 := .sh (WL (below w 4))) (X5 := .sh (WL [])) (X6 := .sh (.int ((3 : Nat) : Int))) (X7 := .sh (.int (runs w : Int))) (X8 := .sh (WL (partsTo w (w.length + 1)))) (X9 := .sh (WL (below o (o.length - (lcs w o).length)))) (X10 := .sh (.dk (ownK w))) h3 (by omega)
  have e13 := p13 (I := .ow true io4) (X1 := .sh (.tup (qs.map sgD))) (X2 := .sh (.str w)) (X3 := .sh (.str o)) (X4 := .sh (WL (below w 4))) (X5 := .sh (WL [])) (X7 := .sh (.int (runs w : Int))) (X8 := .sh (WL (partsTo w (w.length + 1)))) (X9 := .sh (WL (below o (o.length - (lcs w o).length)))) (X10 := .sh (.dk (ownK w))) (l := l) (q := 1 + d) (m := m)
  obtain ⟨r, k1, e14⟩ := p14 (I := .ow true io4) (X1 := .sh (.tup (qs.map sgD))) (X2 := .sh (.str w)) (X3 := .sh (.str o)) (X4 := .sh (WL (below w 4))) (X5 := .sh (WL [])) (X7 := .sh (.int (runs w : Int))) (X8 := .sh (WL (partsTo w (w.length + 1)))) (X9 := .sh (WL (below o (o.length - (lcs w o).length)))) (X10 := .sh (.dk (ownK w))) hl (show 1 ≤ 1 + d by omega) (show 1 + d ≤ 5 by omega) hm
  have e15 := p15 (I := .ow true io4) (X1 := .sh (.tup (qs.map sgD))) (X2 := .sh (.str w)) (X3 := .sh (.str o)) (X4 := k1) (X5 := .sh (WL [])) (X7 := .sh (.int (runs w : Int))) (X8 := .sh (WL (partsTo w (w.length + 1)))) (X9 := .sh (WL (below o (o.length - (lcs w o).length)))) (X10 := .sh (.dk (ownK w))) hl (show 1 ≤ 1 + d by omega) (show 1 + d ≤ 5 by omega) hm (p1 := r)
  refine ⟨io4, ?_, h4.mono (by omega)⟩
  rw [right_eq]
  apply runIO0_of
  refine (seq_step e0).trans ?_
  refine (seq_step e1).trans ?_
  refine (seq_step e2).trans ?_
  refine (seq_step e3).trans ?_
  refine (seq_step e4).trans ?_
  refine (seq_step e5).trans ?_
  refine (seq_step e6).trans ?_
  refine (seq_step e7).trans ?_
  refine (seq_step e8).trans ?_
  refine (seq_step e9).trans ?_
  refine (seq_step e10).trans ?_
  refine (seq_step e11).trans ?_
  refine (seq_step e12).trans ?_
  refine (seq_step e13).trans ?_
  refine (seq_step e14).trans ?_
  exact e15

/-! ### the law -/
abbrev Lt : DenS := (sIf (dNotT (dBl (dCio 2 (runIO 18 0 m__law_right) dNil))) (sRet (d0 (.bl false))) sNil)
abbrev Lb0 : DenS := (sSetO 2 (dC (runN 5 2 m__law_sack) (dCons (dV 0) (dCons (dV 1) dNil))))
abbrev Lb : DenS := sSeq Lb0 (sFor (dLL range1L (dCons (d0 (.int 5)) dNil)) (gN 3) Lt)
abbrev Le : DenS := (sRet (d2 eqD (dC mkLst (dCons (dC (runD 2 2 m_outs_of) (dCons (d0 (.str [])) (dCons (d0 (.int 1)) dNil))) (dCons (dC (runD 2 2 m_outs_of) (dCons (d0 (.str [])) (dCons (d0 (.int 0)) dNil))) (dCons (dC (runD 2 2 m_outs_of) (dCons (d0 (.str [97, 98])) (dCons (d0 (.int 3)) dNil))) (dCons (dC (runD 1 1 m_runs_of) (dCons (d0 (.str [])) dNil)) (dCons (dC (runD 2 2 m_shared_part) (dCons (d0 (.str [97, 98, 99, 100, 101])) (dCons (d0 (.str [101, 100, 99, 98, 97])) dNil))) (dCons (dC (runD 6 3 m_count_puts) (dCons (d0 (.int 60)) (dCons (d0 (.int 1)) (dCons (d0 (.int 60)) dNil)))) dNil))))))) (dC mkLst (dCons (dC mkTup dNil) (dCons (dC mkTup (dCons (d0 (.str [])) dNil)) (dCons (dC mkTup dNil) (dCons (d0 (.int 0)) (dCons (d0 (.int 1)) (dCons (d0 (.int 1)) dNil)))))))))
theorem law_eq : m_law = sSeq (sFor (dLL range1L (dCons (dC max2D (dCons (d0 (.int 1)) (dCons (dC min2D (dCons (d0 (.int 3)) (dCons (dC lenD (dCons (dV 0) dNil)) dNil))) dNil))) dNil)) (gN 1) Lb) Le := rfl
theorem turns {A B : Sl} : ∀ (ks : List Nat) (io : D) (n : Nat) (t : Sl), SkOk n io → n + 18 * ks.length ≤ 400 → ∃ u2 u3, forD (gN 3) Lt (ks.map fun k : Nat => D.int (k : Int)) [A, B, .ow false io, t] = some (.nx [A, B, u2, u3])
  | [], io, n, t, _, _ => ⟨.ow false io, t, rfl⟩
  | k :: ks, io, n, t, h, hn => by
    rw [List.length_cons] at hn
    obtain ⟨io1, e, h1⟩ := r_right h (by omega)
    obtain ⟨u2, u3, e2⟩ := turns (A := A) (B := B) ks io1 (n + 18) (.sh (.int (k : Int))) h1 (by omega)
    refine ⟨u2, u3, ?_⟩
    have g : gN 3 (.int (k : Int)) [A, B, .ow false io, t] = some [A, B, .ow false io, .sh (.int (k : Int))] := rfl
    have b : Lt [A, B, .ow false io, .sh (.int (k : Int))] = some (.nx [A, B, .ow false io1, .sh (.int (k : Int))]) := by
      simp only [evl, List.length_cons, List.length_nil, List.set_cons_succ, List.set_cons_zero, List.getElem?_cons_succ, List.getElem?_cons_zero, Nat.reduceAdd, Nat.reduceLT, if_true, e, Bool.not_true, Bool.false_eq_true, if_false]
    rw [List.map_cons]
    exact (forD_step g b).trans e2
theorem spots {ns : List Int} : ∀ (ks : List Nat) (t1 t2 t3 : Sl), (∀ k ∈ ks, k < 100) → ∃ u1 u2 u3, forD (gN 1) Lb (ks.map fun k : Nat => D.int (k : Int)) [.sh (.scr ns), t1, t2, t3] = some (.nx [.sh (.scr ns), u1, u2, u3])
  | [], t1, t2, t3, _ => ⟨t1, t2, t3, rfl⟩
  | k :: ks, t1, t2, t3, hk => by
    obtain ⟨io, e, h⟩ := r_law_sack ns k (hk k List.mem_cons_self)
    obtain ⟨u2, u3, e2⟩ := turns (A := .sh (.scr ns)) (B := .sh (.int (k : Int))) (List.range 5) io 0 t3 h (by decide)
    obtain ⟨v1, v2, v3, e3⟩ := spots ks (.sh (.int (k : Int))) u2 u3 fun j hj => hk j (List.mem_cons_of_mem _ hj)
    refine ⟨v1, v2, v3, ?_⟩
    have g : gN 1 (.int (k : Int)) [.sh (.scr ns), t1, t2, t3] = some [.sh (.scr ns), .sh (.int (k : Int)), t2, t3] := rfl
    have b0 : Lb0 [.sh (.scr ns), .sh (.int (k : Int)), t2, t3] = some (.nx [.sh (.scr ns), .sh (.int (k : Int)), .ow false io, t3]) := by
      simp only [evl, List.length_cons, List.length_nil, List.set_cons_succ, List.set_cons_zero, List.getElem?_cons_succ, List.getElem?_cons_zero, Nat.reduceAdd, Nat.reduceLT, if_true, e]
    have r : (dLL range1L (dCons (d0 (.int 5)) dNil)) [.sh (.scr ns), .sh (.int (k : Int)), .ow false io, t3] = some ((List.range 5).map fun k : Nat => D.int (k : Int), [.sh (.scr ns), .sh (.int (k : Int)), .ow false io, t3]) := rfl
    have b1 : sFor (dLL range1L (dCons (d0 (.int 5)) dNil)) (gN 3) Lt [.sh (.scr ns), .sh (.int (k : Int)), .ow false io, t3] = some (.nx [.sh (.scr ns), .sh (.int (k : Int)), u2, u3]) := by
      rw [sFor_ap, r, bnd_s, kFor_ap]
      exact e2
    rw [List.map_cons]
    exact (forD_step g ((seq_step b0).trans b1)).trans e3
theorem eq_end : eqD (.lst [.tup [], .tup [.str []], .tup [], .int 0, .int 1, .int 1]) (.lst [.tup [], .tup [.str []], .tup [], .int 0, .int 1, .int 1]) = some (.bl true) := by
  have h1 : toPy (.lst [.tup [], .tup [.str []], .tup [], .int 0, .int 1, .int 1]) = some (.list [.tuple [], .tuple [.str (S [])], .tuple [], .int 0, .int 1, .int 1]) := rfl
  unfold eqD
  rw [h1]
  dsimp only
  rw [if_pos ⟨by decide +kernel, by decide +kernel⟩]
  congr 2
theorem r_end {ns : List Int} {u1 u2 u3 : Sl} : ∃ ρ, Le [.sh (.scr ns), u1, u2, u3] = some (.rt (.bl true) ρ) := by
  have a1 : runD 2 2 m_outs_of [.str [], .int 1] = some (.tup []) := by
    rw [show (D.int 1) = .int ((1 : Nat) : Int) from rfl, r_outs_of [] 1 rfl (by decide) (by decide), bel_nil.mpr (by decide)]
    rfl
  have a2 : runD 2 2 m_outs_of [.str [], .int 0] = some (.tup [.str []]) := r_outs_of [] 0 rfl (by decide) (by decide)
  have a3 : runD 2 2 m_outs_of [.str [97, 98], .int 3] = some (.tup []) := by
    rw [show (D.int 3) = .int ((3 : Nat) : Int) from rfl, r_outs_of [97, 98] 3 (by unfold Valid; decide) (by decide) (by decide), bel_nil.mpr (by decide)]
    rfl
  have a4 : runD 1 1 m_runs_of [.str []] = some (.int 0) := r_runs_of [] rfl (by decide)
  have a5 : runD 2 2 m_shared_part [.str [97, 98, 99, 100, 101], .str [101, 100, 99, 98, 97]] = some (.int 1) := by
    rw [r_shared_part [97, 98, 99, 100, 101] [101, 100, 99, 98, 97] (by unfold Valid; decide) (by unfold Valid; decide) (by decide) (by decide), show (lcs [97, 98, 99, 100, 101] [101, 100, 99, 98, 97]).length = 1 by decide +kernel]
    rfl
  have a6 : runD 6 3 m_count_puts [.int 60, .int 1, .int 60] = some (.int 1) := by
    have := r_count 60 1 60 (by decide) (by decide) (by decide) (by decide)
    rw [show cnt 60 1 60 = 1 by decide +kernel] at this
    exact this
  refine ⟨[.sh (.scr ns), u1, u2, u3], ?_⟩
  simp only [evl, List.length_cons, List.length_nil, List.set_cons_succ, List.set_cons_zero, List.getElem?_cons_succ, List.getElem?_cons_zero, Nat.reduceAdd, Nat.reduceLT, if_true, a1, a2, a3, a4, a5, a6, mkLst, mkTup, Nat.reduceLeDiff, Nat.zero_le, eq_end]
theorem r_law (ns : List Int) : runD 4 1 m_law [.scr ns] = some (.bl true) := by
  obtain ⟨N, hN, eN⟩ : ∃ N : Nat, N ≤ 3 ∧ (dLL range1L (dCons (dC max2D (dCons (d0 (.int 1)) (dCons (dC min2D (dCons (d0 (.int 3)) (dCons (dC lenD (dCons (dV 0) dNil)) dNil))) dNil))) dNil)) [.sh (.scr ns), .no, .no, .no] = some ((List.range N).map fun k : Nat => D.int (k : Int), [.sh (.scr ns), .no, .no, .no]) := by
    have el : lenD [.scr ns] = some (.int (ns.length : Int)) := rfl
    have e1 : min2D [.int 3, .int (ns.length : Int)] = some (.int ((min ns.length 3 : Nat) : Int)) := by
      show some (D.int (if (ns.length : Int) < 3 then (ns.length : Int) else 3)) = _
      congr 2
      split <;> omega
    have e2 : max2D [.int 1, .int ((min ns.length 3 : Nat) : Int)] = some (.int ((max 1 (min ns.length 3) : Nat) : Int)) := by
      show some (D.int (if ((min ns.length 3 : Nat) : Int) > 1 then ((min ns.length 3 : Nat) : Int) else 1)) = _
      congr 2
      split <;> omega
    refine ⟨max 1 (min ns.length 3), by omega, ?_⟩
    simp only [evl, List.length_cons, List.length_nil, List.set_cons_succ, List.set_cons_zero, List.getElem?_cons_succ, List.getElem?_cons_zero, Nat.reduceAdd, Nat.reduceLT, if_true, el, e1, e2, range_n (max 1 (min ns.length 3)) (by omega)]
  obtain ⟨u1, u2, u3, e⟩ := spots (ns := ns) (List.range N) .no .no .no fun k hk => by have := List.mem_range.mp hk; omega
  obtain ⟨ρ, e2⟩ := r_end (ns := ns) (u1 := u1) (u2 := u2) (u3 := u3)
  have s1 : sFor (dLL range1L (dCons (dC max2D (dCons (d0 (.int 1)) (dCons (dC min2D (dCons (d0 (.int 3)) (dCons (dC lenD (dCons (dV 0) dNil)) dNil))) dNil))) dNil)) (gN 1) Lb [.sh (.scr ns), .no, .no, .no] = some (.nx [.sh (.scr ns), u1, u2, u3]) := by
    rw [sFor_ap, eN, bnd_s, kFor_ap]
    exact e
  rw [runD_1, law_eq, show startR 4 [.scr ns] = [.sh (.scr ns), .no, .no, .no] from rfl, seq_step s1, e2]
  rfl
end DLP

/-! Printed by gen_end.py: the end. -/
namespace DLP
open PySem PySem.Spec PyProof.Rows L2 RZ DL
def spLaw (K : PySem.W.Frag) : Sp := fun vs H Q _ => ∃ (a : Addr) (ns : List Int), vs = [.ref a] ∧ SqL K H a (ns.map V.int) ∧ ns.length ≤ 63 ∧ ∀ H, Q (.bl true) H
theorem sp_law {K : PySem.W.Frag} (vs : List V) (H : Hp) (Q : VK) (E : XK) (h : ∃ (a : Addr) (ns : List Int), vs = [.ref a] ∧ SqL K H a (ns.map V.int) ∧ ns.length ≤ 63 ∧ ∀ H, Q (.bl true) H) : spD K 1 (runD 4 1 m_law) vs H Q E := by
  obtain ⟨a, ns, rfl, hs, _, hQ⟩ := h
  refine ⟨H, [.scr ns], .bl true, rfl, Same.refl H, rpl_cons.mpr ⟨_, _, rfl, rp_scr.mpr ⟨a, rfl, hs⟩, rpl_nil.mpr rfl⟩, r_law ns, fun v G' H' _ _ r => ?_⟩
  rw [rp_bl.mp r]
  exact hQ H'
theorem con_int {K : PySem.W.Frag} {h : Heap} {mg : Str → Option Value} {x : Str} {n : Int} {t : Tok} (X : K.In h) (G : h.Ns mainGlobals mg) (e : PySem.W.nsIn K mainGlobals x = some (some (.int n t))) : ∃ t, mg x = some (.int n t) := ⟨t, PySem.W.mg_of X G e⟩
theorem con_str {K : PySem.W.Frag} {h : Heap} {mg : Str → Option Value} {x n : Str} {t : Tok} (X : K.In h) (G : h.Ns mainGlobals mg) (e : PySem.W.nsIn K mainGlobals x = some (some (.str n t))) : ∃ t, mg x = some (.str n t) := ⟨t, PySem.W.mg_of X G e⟩
theorem all_mk {l : PySem.W.OpenLaw} {w : World} {K : PySem.W.Frag} {h : Heap} {mg : Str → Option Value} {fa f1 : Addr} (X : K.In h) (G : h.Ns mainGlobals mg) (hfa : mg "law" = some (.ref fa)) (M : Gm mg)
    (d_word_rank : Def K mg "word_rank" s_word_rank ["word"]) (d_is_integer : Def K mg "is_integer" s_is_integer ["value"]) (d_is_sign : Def K mg "is_sign" s_is_sign ["value"]) (d_is_word : Def K mg "is_word" s_is_word ["value"]) (d_are_signs : Def K mg "are_signs" s_are_signs ["value"]) (d_require_signs : Def K mg "require_signs" s_require_signs ["value"]) (d_require_number : Def K mg "require_number" s_require_number ["value", "low", "high"]) (d_by_words : Def K mg "by_words" s_by_words ["words"]) (d_below_in : Def K mg "below_in" s_below_in ["word", "many"]) (d_above_in : Def K mg "above_in" s_above_in ["word", "signs", "many"]) (d_choose_in : Def K mg "choose_in" s_choose_in ["total", "many"]) (d_shared_word : Def K mg "shared_word" s_shared_word ["one", "other"]) (d_runs_in : Def K mg "runs_in" s_runs_in ["word"]) (d_require_short : Def K mg "require_short" s_require_short ["value"]) (d_outs_of : Def K mg "outs_of" s_outs_of ["word", "many"]) (d_puts_of : Def K mg "puts_of" s_puts_of ["word", "signs", "many"]) (d_count_puts : Def K mg "count_puts" s_count_puts ["length", "size", "many"]) (d_runs_of : Def K mg "runs_of" s_runs_of ["word"]) (d_shared_part : Def K mg "shared_part" s_shared_part ["one", "other"]) (d__law_sack : Def K mg "_law_sack" s__law_sack ["script", "spot"]) (d__law_dip : Def K mg "_law_dip" s__law_dip ["sack", "total"]) (d__law_one : Def K mg "_law_one" s__law_one ["sack", "items"]) (d__law_ordered : Def K mg "_law_ordered" s__law_ordered ["words"]) (d__law_outs : Def K mg "_law_outs" s__law_outs ["words"]) (d__law_puts : Def K mg "_law_puts" s__law_puts ["words", "signs"]) (d__law_choose : Def K mg "_law_choose" s__law_choose ["top", "low"]) (d__law_right : Def K mg "_law_right" s__law_right ["sack"])
    {od1 an1 : Option Addr} {sl1 : Array (Option Value)} {oc1 kV1 dc1 pm1 cd1 ct1 : Value}
    (a1 : PySem.W.nsIn K mainGlobals "law" = some (some (.ref f1))) (l1 : K.lookup f1 = some ⟨oc1, od1, .func (PySem.W.fnOf "law" "law" (defArgs s_law) (defBody s_law) (defScope s_law) .none kV1 dc1 pm1 an1 cd1 ct1), sl1⟩) (c1 : PySem.W.codeIn K cd1 "law" = true) (k1 : PySem.W.keepIn K (.ref f1) = true) :
    ∃ fd : FuncData, (∀ (s : Shared) (v : Value), BindsTo s fd ⟨[v], []⟩ [("script", v)]) ∧ ∀ base : Heap, K.In base → base.Ns mainGlobals mg → FnOk l.prog w K mg base CX0 8 fa fd ["script"] (spLaw K) := by
  have m1 := PySem.W.mg_of X G a1
  have e := hfa.symm.trans m1
  cases e
  have d_law : Def K mg "law" s_law ["script"] := def_mk X G a1 l1 c1 k1 fun _ _ _ _ _ _ us hl => match us, hl with | [_], _ => rfl
  refine ⟨PySem.W.fnOf "law" "law" (defArgs s_law) (defBody s_law) (defScope s_law) .none kV1 dc1 pm1 an1 cd1 ct1, fun s v => .of_eq rfl, fun base _ _ => ?_⟩
  have c_is_integer := cal_is_integer (P := l.prog) (w := w) (base := base) M d_is_integer 
  have c_is_sign := cal_is_sign (P := l.prog) (w := w) (base := base) M d_is_sign 
  have c_is_word := cal_is_word (P := l.prog) (w := w) (base := base) M d_is_word 
  have c_are_signs := cal_are_signs (P := l.prog) (w := w) (base := base) M d_are_signs c_is_sign
  have c_require_signs := cal_require_signs (P := l.prog) (w := w) (base := base) M d_require_signs c_are_signs
  have c_require_number := cal_require_number (P := l.prog) (w := w) (base := base) M d_require_number c_is_integer
  have c_by_words := cal_by_words (P := l.prog) (w := w) (base := base) M d_by_words d_word_rank
  have c_below_in := cal_below_in (P := l.prog) (w := w) (base := base) M d_below_in c_by_words
  have c_above_in := cal_above_in (P := l.prog) (w := w) (base := base) M d_above_in c_by_words
  have c_choose_in := cal_choose_in (P := l.prog) (w := w) (base := base) M d_choose_in 
  have c_shared_word := cal_shared_word (P := l.prog) (w := w) (base := base) M d_shared_word 
  have c_runs_in := cal_runs_in (P := l.prog) (w := w) (base := base) M d_runs_in 
  have c_require_short := cal_require_short (P := l.prog) (w := w) (base := base) M d_require_short c_is_word
  have c_outs_of := cal_outs_of (P := l.prog) (w := w) (base := base) M d_outs_of c_require_number c_below_in c_require_short
  have c_puts_of := cal_puts_of (P := l.prog) (w := w) (base := base) M d_puts_of c_require_signs c_require_number c_above_in c_require_short
  have c_count_puts := cal_count_puts (P := l.prog) (w := w) (base := base) M d_count_puts c_require_number c_choose_in
  have c_runs_of := cal_runs_of (P := l.prog) (w := w) (base := base) M d_runs_of c_runs_in c_require_short
  have c_shared_part := cal_shared_part (P := l.prog) (w := w) (base := base) M d_shared_part c_shared_word c_require_short
  have c__law_sack := cal__law_sack (P := l.prog) (w := w) (base := base) M d__law_sack 
  have c__law_dip := cal__law_dip (P := l.prog) (w := w) (base := base) M d__law_dip 
  have c__law_one := cal__law_one (P := l.prog) (w := w) (base := base) M d__law_one c__law_dip
  have c__law_ordered := cal__law_ordered (P := l.prog) (w := w) (base := base) M d__law_ordered 
  have c__law_outs := cal__law_outs (P := l.prog) (w := w) (base := base) M d__law_outs c__law_ordered
  have c__law_puts := cal__law_puts (P := l.prog) (w := w) (base := base) M d__law_puts c__law_ordered
  have c__law_choose := cal__law_choose (P := l.prog) (w := w) (base := base) M d__law_choose 
  have c__law_right := cal__law_right (P := l.prog) (w := w) (base := base) M d__law_right c_outs_of c_puts_of c_count_puts c_runs_of c_shared_part c__law_dip c__law_one c__law_outs c__law_puts c__law_choose
  have c_law := cal_law (P := l.prog) (w := w) (base := base) M d_law c_outs_of c_count_puts c_runs_of c_shared_part c__law_sack c__law_right
  exact (c_law.at hfa l1).imp fun vs H Q E hv => sp_law vs H Q E hv
end DLP
open PySem PySem.W PyProof.Rows
set_option maxHeartbeats 0 in
theorem PySem.Challenge.cw_mendwide_k43_whole_outs_puts_and_runs_holds : PySem.Challenge.rw_mendwide_k43_whole_outs_puts_and_runs.Holds := by
  w_on; o_law; k_head; (case hw => w_witness2)
  k_fill
  refine L2.walk_of (l := PySem.Challenge.rw_mendwide_k43_whole_outs_puts_and_runs) (n := 63) (k := 8) (x := "script") (CX := fun _ => L2.CX0) (sp := fun w => DLP.spLaw _) rfl (by decide) rfl ⟨rfl, by decide, by decide⟩ (fun w h Y => PySem.W.kIn_of Y) ?F (fun _ _ a ns hl _ hS => ⟨a, ns, rfl, hS, hl, fun _ => rfl⟩) (fun _ _ _ _ _ h => h)
  case F =>
    intro w mg fa h KX G hmg
    refine' DLP.all_mk KX G hmg ⟨PySem.W.mg_none_of KX G ?z_abs, PySem.W.mg_none_of KX G ?z_all, PySem.W.mg_none_of KX G ?z_bool, PySem.W.mg_none_of KX G ?z_dict, PySem.W.mg_none_of KX G ?z_enumerate, PySem.W.mg_none_of KX G ?z_int, PySem.W.mg_none_of KX G ?z_isinstance, PySem.W.mg_none_of KX G ?z_len, PySem.W.mg_none_of KX G ?z_list, PySem.W.mg_none_of KX G ?z_max, PySem.W.mg_none_of KX G ?z_min, PySem.W.mg_none_of KX G ?z_range, PySem.W.mg_none_of KX G ?z_set, PySem.W.mg_none_of KX G ?z_sorted, PySem.W.mg_none_of KX G ?z_str, PySem.W.mg_none_of KX G ?z_sum, PySem.W.mg_none_of KX G ?z_tuple, PySem.W.mg_none_of KX G ?z_zip, DLP.con_int KX G ?g_GREATEST, DLP.con_int KX G ?g_MOST_COUNTED, DLP.con_int KX G ?g_MOST_LENGTH, DLP.con_int KX G ?g_MOST_MANY, DLP.con_int KX G ?g_MOST_SIGNS, DLP.con_str KX G ?g_SIGNS⟩ (DL.def_mk KX G ?a_word_rank ?l_word_rank ?c_word_rank ?k_word_rank fun _ _ _ _ _ _ us hl => match us, hl with | [_], _ => rfl) (DL.def_mk KX G ?a_is_integer ?l_is_integer ?c_is_integer ?k_is_integer fun _ _ _ _ _ _ us hl => match us, hl with | [_], _ => rfl) (DL.def_mk KX G ?a_is_sign ?l_is_sign ?c_is_sign ?k_is_sign fun _ _ _ _ _ _ us hl => match us, hl with | [_], _ => rfl) (DL.def_mk KX G ?a_is_word ?l_is_word ?c_is_word ?k_is_word fun _ _ _ _ _ _ us hl => match us, hl with | [_], _ => rfl) (DL.def_mk KX G ?a_are_signs ?l_are_signs ?c_are_signs ?k_are_signs fun _ _ _ _ _ _ us hl => match us, hl with | [_], _ => rfl) (DL.def_mk KX G ?a_require_signs ?l_require_signs ?c_require_signs ?k_require_signs fun _ _ _ _ _ _ us hl => match us, hl with | [_], _ => rfl) (DL.def_mk KX G ?a_require_number ?l_require_number ?c_require_number ?k_require_number fun _ _ _ _ _ _ us hl => match us, hl with | [_, _, _], _ => rfl) (DL.def_mk KX G ?a_by_words ?l_by_words ?c_by_words ?k_by_words fun _ _ _ _ _ _ us hl => match us, hl with | [_], _ => rfl) (DL.def_mk KX G ?a_below_in ?l_below_in ?c_below_in ?k_below_in fun _ _ _ _ _ _ us hl => match us, hl with | [_, _], _ => rfl) (DL.def_mk KX G ?a_above_in ?l_above_in ?c_above_in ?k_above_in fun _ _ _ _ _ _ us hl => match us, hl with | [_, _, _], _ => rfl) (DL.def_mk KX G ?a_choose_in ?l_choose_in ?c_choose_in ?k_choose_in fun _ _ _ _ _ _ us hl => match us, hl with | [_, _], _ => rfl) (DL.def_mk KX G ?a_shared_word ?l_shared_word ?c_shared_word ?k_shared_word fun _ _ _ _ _ _ us hl => match us, hl with | [_, _], _ => rfl) (DL.def_mk KX G ?a_runs_in ?l_runs_in ?c_runs_in ?k_runs_in fun _ _ _ _ _ _ us hl => match us, hl with | [_], _ => rfl) (DL.def_mk KX G ?a_require_short ?l_require_short ?c_require_short ?k_require_short fun _ _ _ _ _ _ us hl => match us, hl with | [_], _ => rfl) (DL.def_mk KX G ?a_outs_of ?l_outs_of ?c_outs_of ?k_outs_of fun _ _ _ _ _ _ us hl => match us, hl with | [_, _], _ => rfl) (DL.def_mk KX G ?a_puts_of ?l_puts_of ?c_puts_of ?k_puts_of fun _ _ _ _ _ _ us hl => match us, hl with | [_, _, _], _ => rfl) (DL.def_mk KX G ?a_count_puts ?l_count_puts ?c_count_puts ?k_count_puts fun _ _ _ _ _ _ us hl => match us, hl with | [_, _, _], _ => rfl) (DL.def_mk KX G ?a_runs_of ?l_runs_of ?c_runs_of ?k_runs_of fun _ _ _ _ _ _ us hl => match us, hl with | [_], _ => rfl) (DL.def_mk KX G ?a_shared_part ?l_shared_part ?c_shared_part ?k_shared_part fun _ _ _ _ _ _ us hl => match us, hl with | [_, _], _ => rfl) (DL.def_mk KX G ?a__law_sack ?l__law_sack ?c__law_sack ?k__law_sack fun _ _ _ _ _ _ us hl => match us, hl with | [_, _], _ => rfl) (DL.def_mk KX G ?a__law_dip ?l__law_dip ?c__law_dip ?k__law_dip fun _ _ _ _ _ _ us hl => match us, hl with | [_, _], _ => rfl) (DL.def_mk KX G ?a__law_one ?l__law_one ?c__law_one ?k__law_one fun _ _ _ _ _ _ us hl => match us, hl with | [_, _], _ => rfl) (DL.def_mk KX G ?a__law_ordered ?l__law_ordered ?c__law_ordered ?k__law_ordered fun _ _ _ _ _ _ us hl => match us, hl with | [_], _ => rfl) (DL.def_mk KX G ?a__law_outs ?l__law_outs ?c__law_outs ?k__law_outs fun _ _ _ _ _ _ us hl => match us, hl with | [_], _ => rfl) (DL.def_mk KX G ?a__law_puts ?l__law_puts ?c__law_puts ?k__law_puts fun _ _ _ _ _ _ us hl => match us, hl with | [_, _], _ => rfl) (DL.def_mk KX G ?a__law_choose ?l__law_choose ?c__law_choose ?k__law_choose fun _ _ _ _ _ _ us hl => match us, hl with | [_, _], _ => rfl) (DL.def_mk KX G ?a__law_right ?l__law_right ?c__law_right ?k__law_right fun _ _ _ _ _ _ us hl => match us, hl with | [_], _ => rfl) ?a_law ?l_law ?c_law ?k_law
    (case z_abs => k_is)
    (case z_all => k_is)
    (case z_bool => k_is)
    (case z_dict => k_is)
    (case z_enumerate => k_is)
    (case z_int => k_is)
    (case z_isinstance => k_is)
    (case z_len => k_is)
    (case z_list => k_is)
    (case z_max => k_is)
    (case z_min => k_is)
    (case z_range => k_is)
    (case z_set => k_is)
    (case z_sorted => k_is)
    (case z_str => k_is)
    (case z_sum => k_is)
    (case z_tuple => k_is)
    (case z_zip => k_is)
    (case g_GREATEST => k_is)
    (case g_MOST_COUNTED => k_is)
    (case g_MOST_LENGTH => k_is)
    (case g_MOST_MANY => k_is)
    (case g_MOST_SIGNS => k_is)
    (case g_SIGNS => k_is)
    (case a_word_rank => k_is); (case l_word_rank => k_is); (case c_word_rank => k_is); (case k_word_rank => k_is)
    (case a_is_integer => k_is); (case l_is_integer => k_is); (case c_is_integer => k_is); (case k_is_integer => k_is)
    (case a_is_sign => k_is); (case l_is_sign => k_is); (case c_is_sign => k_is); (case k_is_sign => k_is)
    (case a_is_word => k_is); (case l_is_word => k_is); (case c_is_word => k_is); (case k_is_word => k_is)
    (case a_are_signs => k_is); (case l_are_signs => k_is); (case c_are_signs => k_is); (case k_are_signs => k_is)
    (case a_require_signs => k_is); (case l_require_signs => k_is); (case c_require_signs => k_is); (case k_require_signs => k_is)
    (case a_require_number => k_is); (case l_require_number => k_is); (case c_require_number => k_is); (case k_require_number => k_is)
    (case a_by_words => k_is); (case l_by_words => k_is); (case c_by_words => k_is); (case k_by_words => k_is)
    (case a_below_in => k_is); (case l_below_in => k_is); (case c_below_in => k_is); (case k_below_in => k_is)
    (case a_above_in => k_is); (case l_above_in => k_is); (case c_above_in => k_is); (case k_above_in => k_is)
    (case a_choose_in => k_is); (case l_choose_in => k_is); (case c_choose_in => k_is); (case k_choose_in => k_is)
    (case a_shared_word => k_is); (case l_shared_word => k_is); (case c_shared_word => k_is); (case k_shared_word => k_is)
    (case a_runs_in => k_is); (case l_runs_in => k_is); (case c_runs_in => k_is); (case k_runs_in => k_is)
    (case a_require_short => k_is); (case l_require_short => k_is); (case c_require_short => k_is); (case k_require_short => k_is)
    (case a_outs_of => k_is); (case l_outs_of => k_is); (case c_outs_of => k_is); (case k_outs_of => k_is)
    (case a_puts_of => k_is); (case l_puts_of => k_is); (case c_puts_of => k_is); (case k_puts_of => k_is)
    (case a_count_puts => k_is); (case l_count_puts => k_is); (case c_count_puts => k_is); (case k_count_puts => k_is)
    (case a_runs_of => k_is); (case l_runs_of => k_is); (case c_runs_of => k_is); (case k_runs_of => k_is)
    (case a_shared_part => k_is); (case l_shared_part => k_is); (case c_shared_part => k_is); (case k_shared_part => k_is)
    (case a__law_sack => k_is); (case l__law_sack => k_is); (case c__law_sack => k_is); (case k__law_sack => k_is)
    (case a__law_dip => k_is); (case l__law_dip => k_is); (case c__law_dip => k_is); (case k__law_dip => k_is)
    (case a__law_one => k_is); (case l__law_one => k_is); (case c__law_one => k_is); (case k__law_one => k_is)
    (case a__law_ordered => k_is); (case l__law_ordered => k_is); (case c__law_ordered => k_is); (case k__law_ordered => k_is)
    (case a__law_outs => k_is); (case l__law_outs => k_is); (case c__law_outs => k_is); (case k__law_outs => k_is)
    (case a__law_puts => k_is); (case l__law_puts => k_is); (case c__law_puts => k_is); (case k__law_puts => k_is)
    (case a__law_choose => k_is); (case l__law_choose => k_is); (case c__law_choose => k_is); (case k__law_choose => k_is)
    (case a__law_right => k_is); (case l__law_right => k_is); (case c__law_right => k_is); (case k__law_right => k_is)
    (case a_law => k_is); (case l_law => k_is); (case c_law => k_is); (case k_law => k_is)

