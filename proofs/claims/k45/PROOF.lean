import PyProof.Rows.All
import Wide.All
import OpenK.AllK
import Wide.FinOn
import HandS.ForMost
import HandS.Exc
import HandS.TryOnly
import HandS.ExcOwn
import HandS.WordsExc
import HandS.Wide
import HandS.WideBits
import HandS.IsInst
import HandS.SortInts
import HandS.Style
import HandS.ExcIs
import HandS.ExcValue
import HandS.Conv
import HandS.Dict
import KE.DataMinMax
import HandS.RevRange
import HandS.More
import PyProof.SetRoads
import HandS.SetKeys
import HandS.TupAny
import HandS.NoneIn
import PyProof.EqKinds
import PyProof.FactsAll.dict
import HandS.ListItems
import PySem.Challenge.RW_blindtouch_k45_signs_of_trees
set_option Elab.async false
set_option linter.all false
set_option maxRecDepth 100000
set_option maxHeartbeats 4000000
/-! KL: readings over what is known of the heap: a frozen part G, and cells M that may be written. -/
namespace BT
open PySem PySem.Spec L2
open PyProof.Rows hiding St

abbrev Mem := List (Addr × HO)
structure Hv (G : Hp) (M : Mem) (H : Hp) : Prop where
  ex : ∀ a o, G a = some o → H a = some o
  mu : ∀ x, x ∈ M → H x.1 = some x.2
  nd : (M.map (·.1)).Nodup
  dj : ∀ x, x ∈ M → G x.1 = none
def Fr (G : Hp) (M : Mem) (p : Addr) : Prop := G p = none ∧ ∀ x, x ∈ M → x.1 ≠ p
def At (G : Hp) (M : Mem) (a : Addr) (o : HO) : Prop := (a, o) ∈ M ∨ G a = some o
section
variable {G : Hp} {M : Mem} {H : Hp} {p a : Addr} {o o' : HO} {n : Nat}
theorem Hv.self (H : Hp) : Hv H [] H := ⟨fun _ _ h => h, fun _ h => (nomatch h), List.nodup_nil, fun _ h => (nomatch h)⟩
theorem Hv.fr (h : Hv G M H) (hp : H p = none) : Fr G M p := by
  refine ⟨?_, fun x hx e => ?_⟩
  · cases e : G p with
    | none => rfl
    | some o => rw [h.ex p o e] at hp; cases hp
  · have := h.mu x hx
    rw [e, hp] at this; cases this
theorem Hv.at (h : Hv G M H) (q : At G M a o) : H a = some o := by
  rcases q with q | q
  · exact h.mu _ q
  · exact h.ex _ _ q
theorem Hv.newM (h : Hv G M H) (hp : H p = none) : Hv G ((p, o) :: M) (upd H p o) := by
  have f := h.fr hp
  refine ⟨fun b u e => ?_, fun x hx => ?_, ?_, fun x hx => ?_⟩
  · rw [upd_ne (ne_of_none (h.ex b u e) hp)]; exact h.ex b u e
  · rcases List.mem_cons.mp hx with rfl | hx
    · exact upd_same
    · rw [upd_ne (f.2 x hx)]; exact h.mu x hx
  · rw [List.map_cons, List.nodup_cons]
    refine ⟨fun hm => ?_, h.nd⟩
    obtain ⟨x, hx, e⟩ := List.mem_map.mp hm
    exact f.2 x hx e
  · rcases List.mem_cons.mp hx with rfl | hx
    · exact f.1
    · exact h.dj x hx
theorem Hv.newG (h : Hv G M H) (hp : H p = none) : Hv (upd G p o) M (upd H p o) := by
  have f := h.fr hp
  refine ⟨fun b u e => ?_, fun x hx => ?_, h.nd, fun x hx => ?_⟩
  · by_cases hb : b = p
    · subst hb; rw [upd_same] at e ⊢; exact e
    · rw [upd_ne hb] at e ⊢; exact h.ex b u e
  · rw [upd_ne (f.2 x hx)]; exact h.mu x hx
  · rw [upd_ne (f.2 x hx)]; exact h.dj x hx
/-- an object that nobody knows of is laid: nothing known changes -/
theorem Hv.junk (h : Hv G M H) (hp : H p = none) : Hv G M (upd H p o) := by
  have f := h.fr hp
  refine ⟨fun b u e => ?_, fun x hx => ?_, h.nd, h.dj⟩
  · rw [upd_ne (ne_of_none (h.ex b u e) hp)]; exact h.ex b u e
  · rw [upd_ne (f.2 x hx)]; exact h.mu x hx
theorem Hv.get (h : Hv G M H) (hn : M[n]? = some (p, o)) : H p = some o := h.mu _ (List.mem_of_getElem? hn)
theorem map_set_fst : ∀ (M : Mem) (n : Nat) (p : Addr) (o o' : HO), M[n]? = some (p, o) → (M.set n (p, o')).map (·.1) = M.map (·.1)
  | [], _, _, _, _, h => by simp at h
  | x :: M, 0, p, o, o', h => by
    have e : x = (p, o) := by simpa using h
    subst e; rfl
  | x :: M, n + 1, p, o, o', h => by
    have e : M[n]? = some (p, o) := by simpa using h
    show x.1 :: (M.set n (p, o')).map (·.1) = _
    rw [map_set_fst M n p o o' e]; rfl
theorem nodup_at : ∀ (M : Mem) (n : Nat) (p : Addr) (o : HO) (x : Addr × HO) (m : Nat), (M.map (·.1)).Nodup → M[n]? = some (p, o) → M[m]? = some x → x.1 = p → m = n := by
  intro M n p o x m hd h1 h2 e
  have q1 : (M.map (·.1))[n]? = some p := by rw [List.getElem?_map, h1]; rfl
  have q2 : (M.map (·.1))[m]? = some p := by rw [List.getElem?_map, h2, ← e]; rfl
  obtain ⟨l1, e1⟩ := List.getElem?_eq_some_iff.mp q1
  obtain ⟨l2, e2⟩ := List.getElem?_eq_some_iff.mp q2
  exact (List.getElem_inj hd).mp (e2.trans e1.symm)
theorem Hv.set (h : Hv G M H) (hn : M[n]? = some (p, o)) : Hv G (M.set n (p, o')) (upd H p o') := by
  have hlt : n < M.length := (List.getElem?_eq_some_iff.mp hn).1
  refine ⟨fun b u e => ?_, fun x hx => ?_, ?_, fun x hx => ?_⟩
  · have : b ≠ p := fun z => by
      have q := h.dj _ (List.mem_of_getElem? hn)
      rw [z] at e
      rw [show G p = none from q] at e; cases e
    rw [upd_ne this]; exact h.ex b u e
  · obtain ⟨m, hm⟩ := List.getElem?_of_mem hx
    by_cases e : m = n
    · subst e
      rw [List.getElem?_set_self hlt] at hm
      cases hm
      exact upd_same
    · rw [List.getElem?_set_ne (Ne.symm e)] at hm
      have : x.1 ≠ p := fun z => e (nodup_at M n p o x m h.nd hn hm z)
      rw [upd_ne this]
      exact h.mu x (List.mem_of_getElem? hm)
  · rw [map_set_fst M n p o o' hn]; exact h.nd
  · have : x.1 ∈ M.map (·.1) := by
      rw [← map_set_fst M n p o o' hn]; exact List.mem_map.mpr ⟨x, hx, rfl⟩
    obtain ⟨y, hy, e⟩ := List.mem_map.mp this
    rw [← e]; exact h.dj y hy
/-- what is known may be forgotten, and what may be written may be frozen -/
def Wk (G : Hp) (M : Mem) (G' : Hp) (M' : Mem) : Prop := ∀ H, Hv G M H → Hv G' M' H
theorem Wk.refl : Wk G M G M := fun _ h => h
theorem Wk.trans {G1 G2 G3 : Hp} {M1 M2 M3 : Mem} (a : Wk G1 M1 G2 M2) (b : Wk G2 M2 G3 M3) : Wk G1 M1 G3 M3 := fun H h => b H (a H h)
theorem Wk.drop (M1 : Mem) {x : Addr × HO} {M2 : Mem} : Wk G (M1 ++ x :: M2) G (M1 ++ M2) := fun H h => by
  refine ⟨h.ex, fun y hy => h.mu y ?_, ?_, fun y hy => h.dj y ?_⟩
  · rcases List.mem_append.mp hy with q | q
    · exact List.mem_append.mpr (.inl q)
    · exact List.mem_append.mpr (.inr (List.mem_cons_of_mem _ q))
  · refine h.nd.sublist ?_
    simp
  · rcases List.mem_append.mp hy with q | q
    · exact List.mem_append.mpr (.inl q)
    · exact List.mem_append.mpr (.inr (List.mem_cons_of_mem _ q))
theorem Wk.drop0 {x : Addr × HO} : Wk G (x :: M) G M := Wk.drop []
theorem Wk.drop1 {x y : Addr × HO} : Wk G (y :: x :: M) G (y :: M) := Wk.drop [y]
theorem Wk.drop2 {x y z : Addr × HO} : Wk G (z :: y :: x :: M) G (z :: y :: M) := Wk.drop [z, y]
theorem Wk.frz (M1 : Mem) {M2 : Mem} : Wk G (M1 ++ (p, o) :: M2) (upd G p o) (M1 ++ M2) := fun H h => by
  have hp : H p = some o := h.mu (p, o) (by simp)
  have hg : G p = none := h.dj (p, o) (by simp)
  have h2 := Wk.drop (G := G) M1 (x := (p, o)) (M2 := M2) H h
  refine ⟨fun b u e => ?_, h2.mu, h2.nd, fun x hx => ?_⟩
  · by_cases hb : b = p
    · subst hb; rw [upd_same] at e; cases e; exact hp
    · rw [upd_ne hb] at e; exact h.ex b u e
  · have : x.1 ≠ p := fun z => by
      have nd := h.nd
      rw [List.map_append, List.map_cons, List.nodup_append] at nd
      obtain ⟨n1, n2, n3⟩ := nd
      rcases List.mem_append.mp hx with q | q
      · exact n3 x.1 (List.mem_map.mpr ⟨x, q, rfl⟩) p (by simp) z
      · rw [List.nodup_cons] at n2
        exact n2.1 (by rw [← z]; exact List.mem_map.mpr ⟨x, q, rfl⟩)
    rw [upd_ne this]; exact h2.dj x hx
theorem Wk.frz0 : Wk G ((p, o) :: M) (upd G p o) M := Wk.frz []
theorem Wk.frz1 {y : Addr × HO} : Wk G (y :: (p, o) :: M) (upd G p o) (y :: M) := Wk.frz [y]
theorem Wk.perm {M' : Mem} (e : M'.Perm M) : Wk G M G M' := fun H h =>
  ⟨h.ex, fun x hx => h.mu x (e.mem_iff.mp hx), (e.map _).nodup_iff.mpr h.nd, fun x hx => h.dj x (e.mem_iff.mp hx)⟩
theorem Wk.swap {x y : Addr × HO} : Wk G (x :: y :: M) G (y :: x :: M) := Wk.perm (List.Perm.swap x y M)
/-- less of the frozen part -/
theorem Wk.less {G' : Hp} (e : ∀ a o, G' a = some o → G a = some o) : Wk G M G' M := fun H h =>
  ⟨fun a o q => h.ex a o (e a o q), h.mu, h.nd, fun x hx => by
    cases q : G' x.1 with
    | none => rfl
    | some o => have := h.dj x hx; rw [e _ _ q] at this; cases this⟩
end

/-! ### extension of the frozen part -/
def Ex (G G' : Hp) : Prop := ∀ a o, G a = some o → G' a = some o
theorem Ex.refl {G : Hp} : Ex G G := fun _ _ h => h
theorem Ex.trans {G G1 G2 : Hp} (a : Ex G G1) (b : Ex G1 G2) : Ex G G2 := fun x o h => b x o (a x o h)
theorem Ex.new {G : Hp} {M : Mem} {p : Addr} {o : HO} (h : Fr G M p) : Ex G (upd G p o) := fun a u e => by
  rw [upd_ne (ne_of_none e h.1)]; exact e
theorem Ex.new' {G : Hp} {p : Addr} {o : HO} (h : G p = none) : Ex G (upd G p o) := fun a u e => by
  rw [upd_ne (ne_of_none e h)]; exact e
theorem ex_rd {H H' : Hp} {a : Addr} {u : HO} (e : Ex H H') (h : Rd H a u) : Rd H' a u := by
  rcases h with h | ⟨o, h⟩
  · exact .inl (e a _ h)
  · exact .inr ⟨o, e a _ h⟩
theorem ex_l {K : PySem.W.Frag} {H H' : Hp} {a : Addr} {xs : List V} (e : Ex H H') (h : SqL K H a xs) : SqL K H' a xs := by
  rcases h with h | h
  · exact .inl (ex_rd e h)
  · exact .inr h
theorem ex_t {K : PySem.W.Frag} {H H' : Hp} {a : Addr} {xs : List V} (e : Ex H H') (h : SqT K H a xs) : SqT K H' a xs := by
  rcases h with h | h
  · exact .inl (ex_rd e h)
  · exact .inr h
mutual
theorem ex_d {K : PySem.W.Frag} {H H' : Hp} (e : Ex H H') : ∀ (d : PyData) {v : V}, Dp K H v d → Dp K H' v d
  | _, _, .non => .non
  | _, _, .bl b => .bl b
  | _, _, .int b => .int b
  | _, _, .str b => .str b
  | .list ds, _, .lst s a => .lst (ex_l e s) (ex_ds e ds a)
  | .tuple ds, _, .tup s a => .tup (ex_t e s) (ex_ds e ds a)
theorem ex_ds {K : PySem.W.Frag} {H H' : Hp} (e : Ex H H') : ∀ (ds : List PyData) {vs : List V}, DpAll K H vs ds → DpAll K H' vs ds
  | _, _, .nil => .nil
  | d :: ds, _, .cons a b => .cons (ex_d e d a) (ex_ds e ds b)
end
/-- a list, a tuple that can be read -/
def LstAt (K : PySem.W.Frag) (G : Hp) (M : Mem) (a : Addr) (xs : List V) : Prop := (a, HO.lst xs) ∈ M ∨ SqL K G a xs
def TupAt (K : PySem.W.Frag) (G : Hp) (M : Mem) (a : Addr) (xs : List V) : Prop := SqT K G a xs
def SeqAt' (K : PySem.W.Frag) (G : Hp) (M : Mem) (a : Addr) (xs : List V) : Prop := LstAt K G M a xs ∨ SqT K G a xs
/-- data that can be read -/
def DatAt (K : PySem.W.Frag) (G : Hp) (M : Mem) (v : V) (d : PyData) : Prop := ∀ H, Hv G M H → Dp K H v d
section
variable {K : PySem.W.Frag} {G : Hp} {M : Mem} {H : Hp} {a : Addr} {xs : List V}
theorem Hv.exx (h : Hv G M H) : Ex G H := h.ex
theorem Hv.lst (h : Hv G M H) (q : LstAt K G M a xs) : SqL K H a xs := by
  rcases q with q | q
  · exact .inl (.inl (h.mu _ q))
  · exact ex_l h.exx q
theorem Hv.tup (h : Hv G M H) (q : SqT K G a xs) : SqT K H a xs := ex_t h.exx q
theorem Hv.dat (h : Hv G M H) {v : V} {d : PyData} (q : DatAt K G M v d) : Dp K H v d := q H h
end

/-! ### judgements -/
abbrev KR := V → Hp → Mem → Prop
abbrev KX := Value → Option Addr → Hp → Mem → Prop
abbrev KK (α : Type) := St → Hp → Mem → (α → Hp → Mem → Prop) → KX → Prop
abbrev KE := KK V
abbrev KA := KK (List V)
abbrev KT := KK Bool
def upG {α : Type} (W : WX) (t : KK α) : St → Hp → (α → Hp → Prop) → Prop := fun σ H Q =>
  ∃ G M R E, Hv G M H ∧ t σ G M R E ∧ (∀ v G' M' H', Hv G' M' H' → R v G' M' → Q v H') ∧ (∀ c d G' M' H', Hv G' M' H' → E c d G' M' → W c d σ H')
def JE (X : Cx) (W : WX) (e : Expr) (t : KE) : Prop := PE X e (upG W t)
def JT (X : Cx) (W : WX) (e : Expr) (t : KT) : Prop := PT X e (upG W t)
def JW (X : Cx) (W : WX) (e : Expr) (t : KT) : Prop := PW X e (upG W t)
def JA (X : Cx) (W : WX) (es : List Expr) (t : KA) : Prop := PA X es (upG W t)
theorem pe_mono {X : Cx} {e : Expr} {t t' : TE} (h : PE X e t) (i : ∀ σ H Q, t' σ H Q → t σ H Q) : PE X e t' := ⟨fun pins s σ H Q I q => h.run pins s σ H Q I (i σ H Q q)⟩
theorem pt_mono {X : Cx} {e : Expr} {t t' : TT} (h : PT X e t) (i : ∀ σ H Q, t' σ H Q → t σ H Q) : PT X e t' := ⟨fun pins s σ H Q I q => h.run pins s σ H Q I (i σ H Q q)⟩
theorem pw_mono {X : Cx} {e : Expr} {t t' : TT} (h : PW X e t) (i : ∀ σ H Q, t' σ H Q → t σ H Q) : PW X e t' := ⟨fun wh pins s σ H Q I q => h.run wh pins s σ H Q I (i σ H Q q)⟩
theorem pa_mono {X : Cx} {e : List Expr} {t t' : TA} (h : PA X e t) (i : ∀ σ H Q, t' σ H Q → t σ H Q) : PA X e t' := ⟨fun pos pins s σ H Q I q => h.run pos pins s σ H Q I (i σ H Q q)⟩

section
variable {X : Cx} {W : WX} {pos : Pos}
/-- names, constants -/
def kVar (i : Nat) : KE := fun σ G M R _ => match σ[i]? with
  | some (some v) => R v G M
  | _ => False
def kC (v : V) : KE := fun _ G M R _ => R v G M
theorem je_var (i : Nat) {x : Str} (hN : X.N[i]? = some x := by rfl) (hv : Vis X.env.scope x := by first | exact Or.inl rfl | exact Or.inr (Or.inl rfl) | exact Or.inr (Or.inr rfl)) (hd : (x == ("__debug__" : Str)) = false := by decide)
    (hcd : (x == ("__classdict__" : Str)) = false := by decide) : JE X W (.Name x pos) (kVar i) := pe_mono (pe_var hN hv hd hcd) fun σ H Q ⟨G, M, R, E, hv, h, hR, _⟩ => by
  unfold kVar at h
  split at h
  · rename_i v e
    exact ⟨v, e, hR v G M H hv h⟩
  · exact h.elim
theorem je_c {e : Expr} {v : V} (h : PE X e (tC v)) : JE X W e (kC v) := pe_mono h fun σ H Q ⟨G, M, R, E, hv, h, hR, _⟩ => hR v G M H hv h
theorem je_int {i : Int} {j pos} : JE X W (.Constant (.int i) j pos) (kC (.int i)) := je_c pe_int
theorem je_bl {i : Bool} {j pos} : JE X W (.Constant (.bool i) j pos) (kC (.bl i)) := je_c pe_bl
theorem je_non {j pos} : JE X W (.Constant .none j pos) (kC .non) := je_c pe_non
theorem je_str {i : Str} {j pos} : JE X W (.Constant (.str i) j pos) (kC (.str i)) := je_c pe_str
/-- two in a row -/
def kBin {β : Type} (k : V → V → Hp → Mem → (β → Hp → Mem → Prop) → Prop) (ta tb : KE) : KK β := fun σ G M R E => ta σ G M (fun x G M => tb σ G M (fun y G M => k x y G M R) E) E
abbrev KR2 := V → V → Hp → Mem → KR → Prop
def KOp (X : Cx) (f : Value → Value → Sem Value) (k : KR2) : Prop :=
  ∀ (pins : List (Addr × Obj)) (s : Shared) (σ : St) (H : Hp) (x y : V) (v u : Value) (Q : VK) (G : Hp) (M : Mem) (R : KR), Inv X pins σ H s → RelV x v → RelV y u → Hv G M H → k x y G M R →
    (∀ v G' M' H', Hv G' M' H' → R v G' M' → Q v H') → wpAny (model X.prog X.w) X.A (f v u) (EP X pins σ Q) X.xe s
theorem kop_of {f : Value → Value → Sem Value} {r : R2} {k : KR2} (ho : OpR X f r)
    (s : ∀ x y G M R H Q, Hv G M H → k x y G M R → (∀ v G' M' H', Hv G' M' H' → R v G' M' → Q v H') → r x y H Q) : KOp X f k :=
  fun pins st σ H x y v u Q G M R I rx ry hv h hR => ho pins st σ H x y v u Q I rx ry (s x y G M R H Q hv h hR)
/-- an OpR whose reading is: it holds of k in some knowledge -/
def rUp (k : KR2) : R2 := fun x y H Q => ∃ G M R, Hv G M H ∧ k x y G M R ∧ ∀ v G' M' H', Hv G' M' H' → R v G' M' → Q v H'
theorem KOp.opr {f : Value → Value → Sem Value} {k : KR2} (h : KOp X f k) : OpR X f (rUp k) := fun pins s σ H x y v u Q I rx ry ⟨G, M, R, hv, hk, hR⟩ => h pins s σ H x y v u Q G M R I rx ry hv hk hR
theorem bin_sim {ta tb : KE} {k : KR2} {σ : St} {H : Hp} {Q : VK} (h : upG W (kBin k ta tb) σ H Q) : tOp (rUp k) (upG W ta) (upG W tb) σ H Q := by
  obtain ⟨G, M, R, E, hv, h, hR, hE⟩ := h
  exact ⟨G, M, _, E, hv, h, fun x G1 M1 H1 hv1 h1 => ⟨G1, M1, _, E, hv1, h1, fun y G2 M2 H2 hv2 h2 => ⟨G2, M2, R, hv2, h2, hR⟩, hE⟩, hE⟩
theorem je_op {a b : Expr} {op : Operator} {k : KR2} {ta tb : KE} (ho : KOp X (binaryOp op) k) (ha : JE X W a ta) (hb : JE X W b tb) : JE X W (.BinOp a op b pos) (kBin k ta tb) :=
  pe_mono (pe_op ho.opr ha hb) fun _ _ _ h => bin_sim h
theorem je_cmp {a b : Expr} {op : CmpOp} {k : KR2} {ta tb : KE} (ho : KOp X (compareOp op) k) (ha : JE X W a ta) (hb : JE X W b tb) (hm : behindInMarks op b = false) : JE X W (.Compare a [op] [b] pos) (kBin k ta tb) :=
  pe_mono (pe_cmpR ho.opr ha hb hm) fun _ _ _ h => bin_sim h
/-- a value as a test -/
def asB (R : Bool → Hp → Mem → Prop) : KR := fun v G M => match v with
  | .bl b => R b G M
  | _ => False
def kT (t : KE) : KT := fun σ G M R E => t σ G M (asB R) E
theorem asB_of {R : Bool → Hp → Mem → Prop} {v : V} {G : Hp} {M : Mem} (h : asB R v G M) : ∃ c, v = .bl c ∧ R c G M := by
  cases v <;> first | exact ⟨_, rfl, h⟩ | exact h.elim
theorem t_sim {t : KE} {σ : St} {H : Hp} {Q : Bool → Hp → Prop} (h : upG W (kT t) σ H Q) : tTest (upG W t) σ H Q := by
  obtain ⟨G, M, R, E, hv, h, hR, hE⟩ := h
  refine ⟨G, M, _, E, hv, h, fun v G1 M1 H1 hv1 h1 => ?_, hE⟩
  obtain ⟨c, rfl, h2⟩ := asB_of h1
  exact ⟨c, rfl, hR c G1 M1 H1 hv1 h2⟩
theorem jt_cmp {a b : Expr} {op : CmpOp} {k : KR2} {ta tb : KE} (ho : KOp X (compareOp op) k) (ha : JE X W a ta) (hb : JE X W b tb) (hm : behindInMarks op b = false) : JT X W (.Compare a [op] [b] pos) (kT (kBin k ta tb)) :=
  pt_mono (pt_cmpR ho.opr ha hb hm) fun σ H Q h => by
    have h2 := t_sim h
    exact bin_sim h2
theorem jt_val {e : Expr} {t : KE} (h : JE X W e t) (he : ∀ whole, isTrue e X.env whole = (do let v ← whole; standAt e.pos; holding [v] (truthy v)) := by intro _; rfl) : JT X W e (kT t) :=
  pt_mono (pt_val h he) fun σ H Q h => t_sim h
/-- chains -/
def kChain (k k' : KR2) (ta tb tc : KE) : KE := fun σ G M R E => ta σ G M (fun x G M => tb σ G M (fun y G M => k x y G M (asB fun c G M => if c = true then tc σ G M (fun z G M => k' y z G M R) E else R (.bl false) G M)) E) E
theorem chain_sim {ta tb tc : KE} {k k' : KR2} {σ : St} {H : Hp} {Q : VK} (h : upG W (kChain k k' ta tb tc) σ H Q) : tChain (rUp k) (rUp k') (upG W ta) (upG W tb) (upG W tc) σ H Q := by
  obtain ⟨G, M, R, E, hv, h, hR, hE⟩ := h
  refine ⟨G, M, _, E, hv, h, fun x G1 M1 H1 hv1 h1 => ⟨G1, M1, _, E, hv1, h1, fun y G2 M2 H2 hv2 h2 => ⟨G2, M2, _, hv2, h2, fun v G3 M3 H3 hv3 h3 => ?_⟩, hE⟩, hE⟩
  obtain ⟨c, rfl, h4⟩ := asB_of h3
  refine ⟨c, rfl, ?_⟩
  cases c with
  | true =>
    rw [if_pos rfl] at h4 ⊢
    exact ⟨G3, M3, _, E, hv3, h4, fun z G4 M4 H4 hv4 h5 => ⟨G4, M4, R, hv4, h5, hR⟩, hE⟩
  | false =>
    rw [if_neg Bool.false_ne_true] at h4 ⊢
    exact hR _ G3 M3 H3 hv3 h4
theorem je_chain {a b c : Expr} {op op' : CmpOp} {k k' : KR2} {ta tb tc : KE} (ho : KOp X (compareOp op) k) (ho' : KOp X (compareOp op') k') (ha : JE X W a ta) (hb : JE X W b tb) (hc : JE X W c tc)
    (hm : lastMarks [op, op'] [b, c] = false := by with_unfolding_all rfl) : JE X W (.Compare a [op, op'] [b, c] pos) (kChain k k' ta tb tc) := pe_mono (pe_chain ho.opr ho'.opr ha hb hc hm) fun _ _ _ h => chain_sim h
theorem jt_chain {a b c : Expr} {op op' : CmpOp} {k k' : KR2} {ta tb tc : KE} (ho : KOp X (compareOp op) k) (ho' : KOp X (compareOp op') k') (ha : JE X W a ta) (hb : JE X W b tb) (hc : JE X W c tc)
    (hm : lastMarks [op, op'] [b, c] = false := by with_unfolding_all rfl) : JT X W (.Compare a [op, op'] [b, c] pos) (kT (kChain k k' ta tb tc)) := pt_mono (pt_chain ho.opr ho'.opr ha hb hc hm) fun _ _ _ h => chain_sim (t_sim h)
/-- and, or, not -/
def kAnd (t u : KT) : KT := fun σ G M R E => t σ G M (fun c G M => if c = true then u σ G M R E else R false G M) E
def kOr (t u : KT) : KT := fun σ G M R E => t σ G M (fun c G M => if c = true then R true G M else u σ G M R E) E
def kNot (t : KT) : KT := fun σ G M R E => t σ G M (fun c G M => R (!c) G M) E
def kAndV (t u : KE) : KE := fun σ G M R E => t σ G M (asB fun c G M => if c = true then u σ G M R E else R (.bl false) G M) E
def kOrV (t u : KE) : KE := fun σ G M R E => t σ G M (asB fun c G M => if c = true then R (.bl true) G M else u σ G M R E) E
def kNotV (t : KE) : KE := fun σ G M R E => t σ G M (asB fun c G M => R (.bl (!c)) G M) E
variable {a b : Expr} {rest : List Expr}
theorem jw_and1 {t : KT} (h : JT X W a t) : JW X W (.BoolOp .And [a] pos) t := pw_and1 h
theorem jw_or1 {t : KT} (h : JT X W a t) : JW X W (.BoolOp .Or [a] pos) t := pw_or1 h
theorem jw_and {t u : KT} (ha : JT X W a t) (hb : JW X W (.BoolOp .And (b :: rest) pos) u) : JW X W (.BoolOp .And (a :: b :: rest) pos) (kAnd t u) :=
  pw_mono (pw_and ha hb) fun σ H Q ⟨G, M, R, E, hv, h, hR, hE⟩ => ⟨G, M, _, E, hv, h, fun c G1 M1 H1 hv1 h1 => by
    cases c with
    | true => rw [if_pos rfl] at h1 ⊢; exact ⟨G1, M1, R, E, hv1, h1, hR, hE⟩
    | false => rw [if_neg Bool.false_ne_true] at h1 ⊢; exact hR _ G1 M1 H1 hv1 h1, hE⟩
theorem jw_or {t u : KT} (ha : JT X W a t) (hb : JW X W (.BoolOp .Or (b :: rest) pos) u) : JW X W (.BoolOp .Or (a :: b :: rest) pos) (kOr t u) :=
  pw_mono (pw_or ha hb) fun σ H Q ⟨G, M, R, E, hv, h, hR, hE⟩ => ⟨G, M, _, E, hv, h, fun c G1 M1 H1 hv1 h1 => by
    cases c with
    | true => rw [if_pos rfl] at h1 ⊢; exact hR _ G1 M1 H1 hv1 h1
    | false => rw [if_neg Bool.false_ne_true] at h1 ⊢; exact ⟨G1, M1, R, E, hv1, h1, hR, hE⟩, hE⟩
theorem JW.jt {e : Expr} {t : KT} (h : JW X W e t) : JT X W e t := PW.pt h
theorem jt_not {t : KT} (h : JT X W a t) : JT X W (.UnaryOp .Not a pos) (kNot t) :=
  pt_mono (pt_not h) fun σ H Q ⟨G, M, R, E, hv, h, hR, hE⟩ => ⟨G, M, _, E, hv, h, fun c G1 M1 H1 hv1 h1 => hR _ G1 M1 H1 hv1 h1, hE⟩
theorem je_one {op} {t : KE} (h : JE X W a t) : JE X W (.BoolOp op [a] pos) t := pe_one h
theorem je_and {t u : KE} (ha : JE X W a t) (hb : JE X W (.BoolOp .And (b :: rest) pos) u) : JE X W (.BoolOp .And (a :: b :: rest) pos) (kAndV t u) :=
  pe_mono (pe_and ha hb) fun σ H Q ⟨G, M, R, E, hv, h, hR, hE⟩ => ⟨G, M, _, E, hv, h, fun v G1 M1 H1 hv1 h1 => by
    obtain ⟨c, rfl, h2⟩ := asB_of h1
    refine ⟨c, rfl, ?_⟩
    cases c with
    | true => rw [if_pos rfl] at h2 ⊢; exact ⟨G1, M1, R, E, hv1, h2, hR, hE⟩
    | false => rw [if_neg Bool.false_ne_true] at h2 ⊢; exact hR _ G1 M1 H1 hv1 h2, hE⟩
theorem je_or {t u : KE} (ha : JE X W a t) (hb : JE X W (.BoolOp .Or (b :: rest) pos) u) : JE X W (.BoolOp .Or (a :: b :: rest) pos) (kOrV t u) :=
  pe_mono (pe_or ha hb) fun σ H Q ⟨G, M, R, E, hv, h, hR, hE⟩ => ⟨G, M, _, E, hv, h, fun v G1 M1 H1 hv1 h1 => by
    obtain ⟨c, rfl, h2⟩ := asB_of h1
    refine ⟨c, rfl, ?_⟩
    cases c with
    | true => rw [if_pos rfl] at h2 ⊢; exact hR _ G1 M1 H1 hv1 h2
    | false => rw [if_neg Bool.false_ne_true] at h2 ⊢; exact ⟨G1, M1, R, E, hv1, h2, hR, hE⟩, hE⟩
theorem je_not {t : KE} (h : JE X W a t) : JE X W (.UnaryOp .Not a pos) (kNotV t) :=
  pe_mono (pe_not h) fun σ H Q ⟨G, M, R, E, hv, h, hR, hE⟩ => ⟨G, M, _, E, hv, h, fun v G1 M1 H1 hv1 h1 => by
    obtain ⟨c, rfl, h2⟩ := asB_of h1
    exact ⟨c, rfl, hR _ G1 M1 H1 hv1 h2⟩, hE⟩
/-- a if c else b -/
def kIte (t : KT) (ta tb : KE) : KE := fun σ G M R E => t σ G M (fun c G M => if c = true then ta σ G M R E else tb σ G M R E) E
end
end BT
set_option Elab.async false
set_option linter.all false
set_option maxRecDepth 100000
set_option maxHeartbeats 4000000
namespace BT
open PySem PySem.Spec L2
open PyProof.Rows hiding St
section
variable {X : Cx} {W : WX} {pos : Pos} {a b c e : Expr} {es : List Expr}
theorem je_ite {t : KT} {ta tb : KE} (hc : JT X W c t) (ha : JE X W a ta) (hb : JE X W b tb) : JE X W (.IfExp c a b pos) (kIte t ta tb) :=
  pe_mono (pe_ifExp hc ha hb) fun σ H Q ⟨G, M, R, E, hv, h, hR, hE⟩ => ⟨G, M, _, E, hv, h, fun c G1 M1 H1 hv1 h1 => by
    cases c with
    | true => rw [if_pos rfl] at h1 ⊢; exact ⟨G1, M1, R, E, hv1, h1, hR, hE⟩
    | false => rw [if_neg Bool.false_ne_true] at h1 ⊢; exact ⟨G1, M1, R, E, hv1, h1, hR, hE⟩, hE⟩
/-! ### arguments, displays -/
def kNil : KA := fun _ G M R _ => R [] G M
def kCons (t : KE) (u : KA) : KA := fun σ G M R E => t σ G M (fun x G M => u σ G M (fun xs G M => R (x :: xs) G M) E) E
theorem ja_nil : JA X W [] kNil := pa_mono pa_nil fun σ H Q ⟨G, M, R, E, hv, h, hR, _⟩ => hR _ G M H hv h
theorem ja_cons {t : KE} {u : KA} (ha : JE X W e t) (hr : JA X W es u) (hs : starEach (e :: es) X.env = (false, eval e X.env) :: starEach es X.env := by rfl) : JA X W (e :: es) (kCons t u) :=
  pa_mono (pa_cons ha hr hs) fun σ H Q ⟨G, M, R, E, hv, h, hR, hE⟩ => ⟨G, M, _, E, hv, h, fun x G1 M1 H1 hv1 h1 => ⟨G1, M1, _, E, hv1, h1, fun xs G2 M2 H2 hv2 h2 => hR _ G2 M2 H2 hv2 h2, hE⟩, hE⟩
def kLst (t : KA) : KE := fun σ G M R E => t σ G M (fun xs G M => xs.length ≤ sizeLine ∧ ∀ p, Fr G M p → R (.ref p) G ((p, .lst xs) :: M)) E
def kTup (t : KA) : KE := fun σ G M R E => t σ G M (fun xs G M => xs.length ≤ sizeLine ∧ ∀ p, Fr G M p → R (.ref p) (upd G p (.tup xs)) M) E
theorem je_lst {t : KA} (h : JA X W es t) : JE X W (.List es pos) (kLst t) :=
  pe_mono (pe_lst h) fun σ H Q ⟨G, M, R, E, hv, h, hR, hE⟩ => ⟨G, M, _, E, hv, h, fun xs G1 M1 H1 hv1 h1 => ⟨h1.1, fun p hp => hR _ G1 _ _ (hv1.newM hp) (h1.2 p (hv1.fr hp))⟩, hE⟩
theorem je_tup {t : KA} {k : Nat} (h : JA X W es t) : JE X W (.Tuple es k pos) (kTup t) :=
  pe_mono (pe_tup h) fun σ H Q ⟨G, M, R, E, hv, h, hR, hE⟩ => ⟨G, M, _, E, hv, h, fun xs G1 M1 H1 hv1 h1 => ⟨h1.1, fun p hp => hR _ _ M1 _ (hv1.newG hp) (h1.2 p (hv1.fr hp))⟩, hE⟩
/-! ### operators -/
def kAdd : KR2 := fun x y G M R => match x, y with
  | .int i, .int j => R (.int (i + j)) G M
  | .str i, .str j => i.length + j.length ≤ sizeLine ∧ R (.str (i ++ j)) G M
  | .ref a, .ref b => ∃ xs ys, At G M a (.lst xs) ∧ At G M b (.lst ys) ∧ xs.length + ys.length ≤ sizeLine ∧ ∀ p, Fr G M p → R (.ref p) G ((p, .lst (xs ++ ys)) :: M)
  | _, _ => False
theorem kop_add : KOp X (binaryOp .Add) kAdd := fun pins s σ H x y v u Q G M R I rx ry hv h hR => by
  cases x <;> cases y <;> first
    | exact op_add pins s σ H _ _ v u Q I rx ry ⟨_, _, rfl, rfl, hR _ G M H hv h⟩
    | exact op_add_str pins s σ H _ _ v u Q I rx ry ⟨_, _, rfl, rfl, h.1, hR _ G M H hv h.2⟩
    | (obtain ⟨xs, ys, h1, h2, h3, h4⟩ := h
       exact op_cat pins s σ H _ _ v u Q I rx ry ⟨_, _, xs, ys, rfl, rfl, hv.at h1, hv.at h2, h3, fun p hp => hR _ G _ _ (hv.newM hp) (h4 p (hv.fr hp))⟩)
    | exact h.elim
def kI (C : Int → Int → Prop) (g : Int → Int → V) : KR2 := fun x y G M R => match x, y with
  | .int i, .int j => C i j ∧ R (g i j) G M
  | _, _ => False
def kI0 (g : Int → Int → V) : KR2 := fun x y G M R => match x, y with
  | .int i, .int j => R (g i j) G M
  | _, _ => False
theorem kop_I {f : Value → Value → Sem Value} {C : Int → Int → Prop} {g : Int → Int → V} (h : OpR X f (rI C g)) : KOp X f (kI C g) := kop_of h fun x y G M R H Q hv h hR => by
  cases x <;> cases y <;> first
    | exact ⟨_, _, rfl, rfl, h.1, hR _ G M H hv h.2⟩
    | exact h.elim
theorem kop_I0 {f : Value → Value → Sem Value} {g : Int → Int → V} (h : OpR X f (rI0 g)) : KOp X f (kI0 g) := kop_of h fun x y G M R H Q hv h hR => by
  cases x <;> cases y <;> first
    | exact ⟨_, _, rfl, rfl, hR _ G M H hv h⟩
    | exact h.elim
/-- sizes of products, quotients -/
def MulOk (i j : Int) : Prop := CMul i j ∨ CMulW i j
theorem kop_sub : KOp X (binaryOp .Sub) (kI0 fun i j => .int (i - j)) := kop_I0 op_sub
/-- a product of ints, a list repeated -/
def kMul : KR2 := fun x y G M R => match x, y with
  | .int i, .int j => MulOk i j ∧ R (.int (i * j)) G M
  | .ref a, .int k => ∃ xs, At G M a (.lst xs) ∧ -(2 ^ 63) ≤ k ∧ k < 2 ^ 63 ∧ xs.length * k.toNat ≤ sizeLine ∧ ∀ p, Fr G M p → R (.ref p) G ((p, .lst (List.replicate k.toNat xs).flatten) :: M)
  | _, _ => False
theorem kop_mul : KOp X (binaryOp .Mult) kMul := fun pins s σ H x y v u Q G M R I rx ry hv h hR => by
  cases x <;> cases y <;> first
    | (obtain ⟨hc, h⟩ := h
       rcases hc with hc | hc
       · exact op_mul pins s σ H _ _ v u Q I rx ry ⟨_, _, rfl, rfl, hc, hR _ G M H hv h⟩
       · exact op_mulW pins s σ H _ _ v u Q I rx ry ⟨_, _, rfl, rfl, hc, hR _ G M H hv h⟩)
    | (obtain ⟨xs, h1, h2, h3, h4, h5⟩ := h
       exact op_rep pins s σ H _ _ v u Q I rx ry ⟨_, _, xs, rfl, rfl, hv.at h1, h2, h3, h4, fun p hp => hR _ G _ _ (hv.newM hp) (h5 p (hv.fr hp))⟩)
    | exact h.elim
theorem kop_mod : KOp X (binaryOp .Mod) (kI (fun _ j => 0 < j) fun i j => .int (i % j)) := kop_I op_mod
theorem kop_fdiv : KOp X (binaryOp .FloorDiv) (kI CDivW fun i j => .int (i / j)) := kop_I op_fdivW
theorem kop_pow : KOp X (binaryOp .Pow) (kI CPow fun i j => .int (i ^ j.toNat)) := kop_I op_pow
theorem kop_shl : KOp X (binaryOp .LShift) (kI CPow fun i j => .int (i * 2 ^ j.toNat)) := kop_I op_shl
theorem kop_shr : KOp X (binaryOp .RShift) (kI (fun _ j => 0 ≤ j) fun i j => .int (i / 2 ^ j.toNat)) := kop_I op_shr
theorem kop_lt : KOp X (compareOp .Lt) (kI0 fun i j => .bl (decide (i < j))) := kop_I0 op_lt
theorem kop_le : KOp X (compareOp .LtE) (kI0 fun i j => .bl (decide (i ≤ j))) := kop_I0 op_le
theorem kop_gt : KOp X (compareOp .Gt) (kI0 fun i j => .bl (decide (j < i))) := kop_I0 op_gt
theorem kop_ge : KOp X (compareOp .GtE) (kI0 fun i j => .bl (decide (j ≤ i))) := kop_I0 op_ge
/-- equality: of plain values at once, of data by what they hold -/
def kEqv (neg : Bool) (K : PySem.W.Frag) : KR2 := fun x y G M R =>
  match scal x y with
  | true => R (.bl (if neg then !decide (x = y) else decide (x = y))) G M
  | false => ∃ d e, DatAt K G M x d ∧ DatAt K G M y e ∧ SeqAt.shaped d = true ∧ SeqAt.shaped e = true ∧ R (.bl (if neg then !PyData.eqv d e else PyData.eqv d e)) G M
theorem kop_eq (hu : X.A.units + 64 < cLine) : KOp X (compareOp .Eq) (kEqv false X.K) := fun pins s σ H x y v u Q G M R I rx ry hv h hR => by
  unfold kEqv at h
  split at h
  · rename_i e
    exact op_eq pins s σ H _ _ v u Q I rx ry ⟨e, hR _ G M H hv h⟩
  · obtain ⟨d, e, h1, h2, h3, h4, h5⟩ := h
    exact op_eqD hu pins s σ H _ _ v u Q I rx ry ⟨d, e, hv.dat h1, hv.dat h2, h3, h4, hR _ G M H hv h5⟩
theorem kop_ne (hu : X.A.units + 64 < cLine) : KOp X (compareOp .NotEq) (kEqv true X.K) := fun pins s σ H x y v u Q G M R I rx ry hv h hR => by
  unfold kEqv at h
  split at h
  · rename_i e
    exact op_ne pins s σ H _ _ v u Q I rx ry ⟨e, hR _ G M H hv h⟩
  · obtain ⟨d, e, h1, h2, h3, h4, h5⟩ := h
    exact op_neD hu pins s σ H _ _ v u Q I rx ry ⟨d, e, hv.dat h1, hv.dat h2, h3, h4, hR _ G M H hv h5⟩
def kIs (neg : Bool) : KR2 := fun x y G M R => match y with
  | .non => R (.bl (if neg then !decide (x = .non) else decide (x = .non))) G M
  | _ => False
theorem kop_is : KOp X (compareOp .Is) (kIs false) := kop_of op_isN fun x y G M R H Q hv h hR => by
  cases y <;> first
    | exact ⟨rfl, hR _ G M H hv h⟩
    | exact h.elim
theorem kop_isnot : KOp X (compareOp .IsNot) (kIs true) := kop_of op_notN fun x y G M R H Q hv h hR => by
  cases y <;> first
    | exact ⟨rfl, hR _ G M H hv h⟩
    | exact h.elim
def kUn (k : V → Hp → Mem → KR → Prop) (t : KE) : KE := fun σ G M R E => t σ G M (fun x G M => k x G M R) E
def kNeg : V → Hp → Mem → KR → Prop := fun x G M R => match x with
  | .int i => R (.int (-i)) G M
  | _ => False
theorem je_neg {t : KE} (h : JE X W a t) : JE X W (.UnaryOp .USub a pos) (kUn kNeg t) :=
  pe_mono (pe_un un_neg h) fun σ H Q ⟨G, M, R, E, hv, h, hR, hE⟩ => ⟨G, M, _, E, hv, h, fun x G1 M1 H1 hv1 h1 => by
    cases x <;> first
      | exact ⟨_, rfl, hR _ G1 M1 H1 hv1 h1⟩
      | exact h1.elim, hE⟩
/-! ### subscripts, slices -/
def kIx (K : PySem.W.Frag) : KR2 := fun x y G M R => match x, y with
  | .ref a, .int i => ∃ xs v, SeqAt' K G M a xs ∧ atI xs i = some v ∧ R v G M
  | .str z, .int i => ∃ c, z.length ≤ sizeLine ∧ atI z.cps.toList i = some c ∧ R (.str ⟨#[c]⟩) G M
  | _, _ => False
theorem ix_k : IxR X (rUp (kIx X.K)) := fun value slice pins s σ H x y v u Q I rx ry ⟨G, M, R, hv, h, hR⟩ hs => by
  cases x <;> cases y <;> first
    | (obtain ⟨xs, w, h1, h2, h3⟩ := h
       rcases h1 with h1 | h1
       · exact ix_list value slice pins s σ H _ _ v u Q I rx ry ⟨_, xs, _, w, rfl, rfl, hv.lst h1, h2, hR _ G M H hv h3⟩ hs
       · exact ix_tup value slice pins s σ H _ _ v u Q I rx ry ⟨_, xs, _, w, rfl, rfl, hv.tup h1, h2, hR _ G M H hv h3⟩ hs)
    | (obtain ⟨c, h1, h2, h3⟩ := h
       exact ix_str value slice pins s σ H _ _ v u Q I rx ry ⟨_, _, c, rfl, rfl, h1, h2, hR _ G M H hv h3⟩ hs)
    | exact h.elim
theorem je_ix {ta tb : KE} (ha : JE X W a ta) (hb : JE X W b tb) (hs : PlainIx b := by exact fun _ _ => rfl) : JE X W (.Subscript a b pos) (kBin (kIx X.K) ta tb) :=
  pe_mono (pe_ix ix_k ha hb hs) fun _ _ _ h => bin_sim h
abbrev KO := KK (Option Int)
def JO (X : Cx) (W : WX) (e : Option Expr) (t : KO) : Prop := PO X e (upG W t)
theorem po_mono {X : Cx} {e : Option Expr} {t t' : TO} (h : PO X e t) (i : ∀ σ H Q, t' σ H Q → t σ H Q) : PO X e t' := ⟨fun pins s σ H Q I q => h.run pins s σ H Q I (i σ H Q q)⟩
def kNoP : KO := fun _ G M R _ => R none G M
def asI (R : Option Int → Hp → Mem → Prop) : KR := fun v G M => match v with
  | .int i => R (some i) G M
  | _ => False
def kPart (t : KE) : KO := fun σ G M R E => t σ G M (asI R) E
theorem jo_none : JO X W none kNoP := po_mono po_none fun σ H Q ⟨G, M, R, E, hv, h, hR, _⟩ => hR _ G M H hv h
theorem jo_some {t : KE} (h : JE X W e t) : JO X W (some e) (kPart t) := po_mono (po_some h) fun σ H Q ⟨G, M, R, E, hv, h, hR, hE⟩ => ⟨G, M, _, E, hv, h, fun v G1 M1 H1 hv1 h1 => by
    cases v <;> first
      | exact ⟨_, rfl, hR _ G1 M1 H1 hv1 h1⟩
      | exact h1.elim, hE⟩
/-- xs[lo:hi] of a list -/
def kSl (K : PySem.W.Frag) (t : KE) (tl th : KO) : KE := fun σ G M R E => t σ G M (fun x G M => tl σ G M (fun l G M => th σ G M (fun u G M => match x with
  | .ref a => ∃ xs, LstAt K G M a xs ∧ ∀ p, Fr G M p → R (.ref p) G ((p, .lst (cutV xs l u)) :: M)
  | _ => False) E) E) E
theorem je_slice {t : KE} {lo hi : Option Expr} {tl th : KO} {p2 : Pos} (he : JE X W e t) (hl : JO X W lo tl) (hu : JO X W hi th) : JE X W (.Subscript e (.Slice lo hi none p2) pos) (kSl X.K t tl th) :=
  pe_mono (pe_slice sl_list he hl hu) fun σ H Q ⟨G, M, R, E, hv, h, hR, hE⟩ => ⟨G, M, _, E, hv, h, fun x G1 M1 H1 hv1 h1 => ⟨G1, M1, _, E, hv1, h1, fun l G2 M2 H2 hv2 h2 => ⟨G2, M2, _, E, hv2, h2, fun u G3 M3 H3 hv3 h3 => by
    cases x <;> first
      | (obtain ⟨xs, q1, q2⟩ := h3
         exact ⟨_, xs, rfl, hv3.lst q1, fun p hp => hR _ G3 _ _ (hv3.newM hp) (q2 p (hv3.fr hp))⟩)
      | exact h3.elim, hE⟩, hE⟩, hE⟩
/-! ### calls of built-ins -/
abbrev KC := List V → Hp → Mem → KR → Prop
def rUpC (k : KC) : List V → Hp → VK → Prop := fun vs H Q => ∃ G M R, Hv G M H ∧ k vs G M R ∧ ∀ v G' M' H', Hv G' M' H' → R v G' M' → Q v H'
def kCB (k : KC) (t : KA) : KE := fun σ G M R E => t σ G M (fun vs G M => k vs G M R) E
def KCall (X : Cx) (f : Value) (k : KC) : Prop := CallR X f (rUpC k)
theorem kcall_of {f : Value} {r : List V → Hp → VK → Prop} {k : KC} (h : CallR X f r)
    (s : ∀ vs G M R H Q, Hv G M H → k vs G M R → (∀ v G' M' H', Hv G' M' H' → R v G' M' → Q v H') → r vs H Q) : KCall X f k :=
  fun pins st σ H xs us Q I rv ⟨G, M, R, hv, hk, hR⟩ => h pins st σ H xs us Q I rv (s xs G M R H Q hv hk hR)
theorem cb_sim {t : KA} {k : KC} {σ : St} {H : Hp} {Q : VK} (h : upG W (kCB k t) σ H Q) : tCB (rUpC k) (upG W t) σ H Q := by
  obtain ⟨G, M, R, E, hv, h, hR, hE⟩ := h
  exact ⟨G, M, _, E, hv, h, fun vs G1 M1 H1 hv1 h1 => ⟨G1, M1, R, hv1, h1, hR⟩, hE⟩
variable {x : Str} {p : Pos} {id T : String}
theorem je_callB {k : KC} {t : KA} (hc : KCall X (.builtin id) k) (hm : X.mg x = none) (ha : JA X W (e :: es) t) (hv : bootBuiltins x = some (.builtin id) := by decide +kernel) (hg : Gl X x := by rfl) (hn : x ≠ "__name__" := by decide) (hdb : (x == ("__debug__" : Str)) = false := by decide)
    (he : starEach (e :: es) X.env = (false, eval e X.env) :: starEach es X.env := by rfl) (hpl : (backTo pos (starEach es X.env)).any (·.1) = false := by rfl) : JE X W (.Call (.Name x p) (e :: es) [] pos) (kCB k t) :=
  pe_mono (pe_callB hc hg hm hv ha hn hdb he hpl) fun _ _ _ h => cb_sim h
theorem je_callTy {k : KC} {t : KA} (hc : KCall X (.type T) k) (hm : X.mg x = none) (ha : JA X W (e :: es) t) (hv : bootBuiltins x = some (.type T) := by decide +kernel) (hg : Gl X x := by rfl) (hn : x ≠ "__name__" := by decide) (hdb : (x == ("__debug__" : Str)) = false := by decide)
    (he : starEach (e :: es) X.env = (false, eval e X.env) :: starEach es X.env := by rfl) (hpl : (backTo pos (starEach es X.env)).any (·.1) = false := by rfl) : JE X W (.Call (.Name x p) (e :: es) [] pos) (kCB k t) :=
  pe_mono (pe_callTy hc hg hm hv ha hn hdb he hpl) fun _ _ _ h => cb_sim h
/-- a built-in type's name as a value -/
theorem je_ty {T : String} {x : Str} {pos : Pos} (hm : X.mg x = none) (hv : bootBuiltins x = some (.type T) := by decide +kernel) (hg : Gl X x := by rfl) (hn : x ≠ "__name__" := by decide) (hd : (x == ("__debug__" : Str)) = false := by decide) : JE X W (.Name x pos) (kC (.ty T)) :=
  je_c (pe_bltn hg hm hv rfl hn hd)
/-- a module's constant -/
theorem je_glob {x : Str} {v : V} {u : Value} {pos : Pos} (hm : X.mg x = some u) (r : RelV v u) (hg : Gl X x := by rfl) (hd : (x == ("__debug__" : Str)) = false := by decide) : JE X W (.Name x pos) (kC v) := je_c (pe_glob hg hm r hd)
def kLen (K : PySem.W.Frag) : KC := fun vs G M R => match vs with
  | [.ref a] => ∃ xs, SeqAt' K G M a xs ∧ R (.int xs.length) G M
  | _ => False
theorem kc_len : KCall X (.builtin "len") (kLen X.K) := kcall_of call_len_seq fun vs G M R H Q hv h hR => by
  match vs, h with
  | [.ref a], ⟨xs, h1, h2⟩ => exact ⟨a, xs, rfl, h1.elim (fun q => .inl (hv.lst q)) (fun q => .inr (hv.tup q)), hR _ G M H hv h2⟩
def kList (K : PySem.W.Frag) : KC := fun vs G M R => match vs with
  | [.ref a] => ∃ xs, SeqAt' K G M a xs ∧ ∀ p, Fr G M p → R (.ref p) G ((p, .lst xs) :: M)
  | _ => False
theorem kc_list : KCall X (.type "list") (kList X.K) := kcall_of call_list_of fun vs G M R H Q hv h hR => by
  match vs, h with
  | [.ref a], ⟨xs, h1, h2⟩ => exact ⟨a, xs, rfl, h1.elim (fun q => .inl (hv.lst q)) (fun q => .inr (hv.tup q)), fun p hp => hR _ G _ _ (hv.newM hp) (h2 p (hv.fr hp))⟩
def kMin2 : KC := fun vs G M R => match vs with
  | [.int i, .int j] => R (.int (min i j)) G M
  | _ => False
def kMax2 : KC := fun vs G M R => match vs with
  | [.int i, .int j] => R (.int (max i j)) G M
  | _ => False
theorem kc_min2 (hc : X.calm = true := by rfl) : KCall X (.builtin "min") kMin2 := kcall_of (call_min2 hc) fun vs G M R H Q hv h hR => by
  match vs, h with
  | [.int i, .int j], h =>
    refine ⟨i, j, rfl, ?_⟩
    have e : (if j < i then j else i) = min i j := by split <;> omega
    rw [e]
    exact hR _ G M H hv h
theorem kc_max2 (hc : X.calm = true := by rfl) : KCall X (.builtin "max") kMax2 := kcall_of (call_max2 hc) fun vs G M R H Q hv h hR => by
  match vs, h with
  | [.int i, .int j], h =>
    refine ⟨i, j, rfl, ?_⟩
    have e : (if j > i then j else i) = max i j := by split <;> omega
    rw [e]
    exact hR _ G M H hv h
def kInt : KC := fun vs G M R => match vs with
  | [.int i] => R (.int i) G M
  | [.bl k] => R (.int (if k then 1 else 0)) G M
  | _ => False
theorem kc_int : KCall X (.type "int") kInt := kcall_of call_int1 fun vs G M R H Q hv h hR => by
  match vs, h with
  | [.int i], h => exact .inl ⟨i, rfl, hR _ G M H hv h⟩
  | [.bl i], h => exact .inr ⟨i, rfl, hR _ G M H hv h⟩
/-- min(xs), max(xs) of ints -/
def kMinL (K : PySem.W.Frag) : KC := fun vs G M R => match vs with
  | [.ref a] => ∃ ns : List Int, LstAt K G M a (ns.map V.int) ∧ 0 < ns.length ∧ ∀ m, m ∈ ns → (∀ y, y ∈ ns → m ≤ y) → R (.int m) G M
  | _ => False
def kMaxL (K : PySem.W.Frag) : KC := fun vs G M R => match vs with
  | [.ref a] => ∃ ns : List Int, LstAt K G M a (ns.map V.int) ∧ 0 < ns.length ∧ ∀ m, m ∈ ns → (∀ y, y ∈ ns → y ≤ m) → R (.int m) G M
  | _ => False
theorem kc_minL (hc : X.calm = true := by rfl) : KCall X (.builtin "min") (kMinL X.K) := kcall_of (cr_min hc) fun vs G M R H Q hv h hR => by
  match vs, h with
  | [.ref a], ⟨ns, h1, h2, h3⟩ => exact ⟨a, ns, rfl, hv.lst h1, h2, fun m q1 q2 => hR _ G M H hv (h3 m q1 q2)⟩
theorem kc_maxL (hc : X.calm = true := by rfl) : KCall X (.builtin "max") (kMaxL X.K) := kcall_of (cr_max hc) fun vs G M R H Q hv h hR => by
  match vs, h with
  | [.ref a], ⟨ns, h1, h2, h3⟩ => exact ⟨a, ns, rfl, hv.lst h1, h2, fun m q1 q2 => hR _ G M H hv (h3 m q1 q2)⟩
def kAll (K : PySem.W.Frag) : KC := fun vs G M R => match vs with
  | [.ref a] => ∃ bs : List Bool, LstAt K G M a (bs.map V.bl) ∧ R (.bl (bs.all _root_.id)) G M
  | _ => False
theorem kc_all (hc : X.calm = true := by rfl) : KCall X (.builtin "all") (kAll X.K) := kcall_of (cr_all hc) fun vs G M R H Q hv h hR => by
  match vs, h with
  | [.ref a], ⟨ns, h1, h2⟩ => exact ⟨a, ns, rfl, hv.lst h1, hR _ G M H hv h2⟩
def kSum (K : PySem.W.Frag) : KC := fun vs G M R => match vs with
  | [.ref a] => ∃ ns : List Int, LstAt K G M a (ns.map V.int) ∧ R (.int ns.sum) G M
  | _ => False
theorem kc_sum (hc : X.calm = true := by rfl) : KCall X (.builtin "sum") (kSum X.K) := kcall_of (cr_sum hc) fun vs G M R H Q hv h hR => by
  match vs, h with
  | [.ref a], ⟨ns, h1, h2⟩ => exact ⟨a, ns, rfl, hv.lst h1, hR _ G M H hv h2⟩
/-- isinstance(x, c) -/
def kIsi (K : PySem.W.Frag) : KC := fun vs G M R => match vs with
  | [x, c] => ∃ (t u : Value) (b : Bool), ClsV c u ∧ (∀ H, Hv G M H → TyX K H x t) ∧ PySem.W.kitOne K t u = some b ∧ R (.bl b) G M
  | _ => False
theorem kc_isi : KCall X (.builtin "isinstance") (kIsi X.K) := kcall_of call_isi fun vs G M R H Q hv h hR => by
  match vs, h with
  | [x, c], ⟨t, u, b, h1, h2, h3, h4⟩ => exact ⟨x, c, t, u, b, rfl, h1, h2 H hv, h3, hR _ G M H hv h4⟩
/-! ### methods of built-in types -/
abbrev KM := V → List V → Hp → Mem → KR → Prop
def rUpM (k : KM) : V → List V → Hp → VK → Prop := fun x vs H Q => ∃ G M R, Hv G M H ∧ k x vs G M R ∧ ∀ v G' M' H', Hv G' M' H' → R v G' M' → Q v H'
def KMt (X : Cx) (id : String) (k : KM) : Prop := MtR X id (rUpM k)
theorem kmt_of {r : V → List V → Hp → VK → Prop} {k : KM} (h : MtR X id r)
    (s : ∀ x vs G M R H Q, Hv G M H → k x vs G M R → (∀ v G' M' H', Hv G' M' H' → R v G' M' → Q v H') → r x vs H Q) : KMt X id k :=
  fun pins st σ H x xs v us Q I rx rv ⟨G, M, R, hv, hk, hR⟩ => h pins st σ H x xs v us Q I rx rv (s x xs G M R H Q hv hk hR)
def kBM (K : PySem.W.Frag) (T : String) (k : KM) (to : KE) (t : KA) : KE := fun σ G M R E => to σ G M (fun x G M => (∀ H, Hv G M H → tyV K T x H) ∧ t σ G M (fun vs G M => k x vs G M R) E) E
def kBM0 (K : PySem.W.Frag) (T : String) (k : KM) (to : KE) : KE := fun σ G M R E => to σ G M (fun x G M => (∀ H, Hv G M H → tyV K T x H) ∧ k x [] G M R) E
variable {o : Expr} {name : Str} {apos cpos : Pos}
theorem je_bm {k : KM} {to : KE} {t : KA} (pa : PlainAttrs T) (slot : Slot T name id) (hty : typeOf (.builtin id) = pure (.type "method_descriptor")) (hm : KMt X id k) (ho : JE X W o to) (ha : JA X W (e :: es) t)
    (hbase : attributeBase o name X.env (eval o X.env) = eval o X.env := by rfl)
    (hfew : ((backTo cpos (starEach (e :: es) X.env)).all (fun x => !x.1) && (backToKw cpos (keywordEach [] X.env)).all (fun x => x.1.isSome)
      && decide ((e :: es).length + ([] : List Keyword).length + (if ([] : List Keyword).isEmpty then 0 else 1) < 30)) = true := by rfl)
    (hline : (apos.endLine == cpos.line) = true := by rfl) (hs : starEach (e :: es) X.env = (false, eval e X.env) :: starEach es X.env := by rfl) (hplain : (backTo cpos (starEach es X.env)).any (·.1) = false := by rfl) :
    JE X W (.Call (.Attribute o name apos) (e :: es) [] cpos) (kBM X.K T k to t) :=
  pe_mono (pe_bm pa slot hty hm ho ha hbase hfew hline hs hplain) fun σ H Q ⟨G, M, R, E, hv, h, hR, hE⟩ => ⟨G, M, _, E, hv, h, fun x G1 M1 H1 hv1 h1 => ⟨h1.1 H1 hv1, G1, M1, _, E, hv1, h1.2, fun vs G2 M2 H2 hv2 h2 => ⟨G2, M2, R, hv2, h2, hR⟩, hE⟩, hE⟩
theorem je_bm0 {k : KM} {to : KE} (pa : PlainAttrs T) (slot : Slot T name id) (hty : typeOf (.builtin id) = pure (.type "method_descriptor")) (hm : KMt X id k) (ho : JE X W o to)
    (hbase : attributeBase o name X.env (eval o X.env) = eval o X.env := by rfl) (hline : (apos.endLine == cpos.line) = true := by rfl) : JE X W (.Call (.Attribute o name apos) [] [] cpos) (kBM0 X.K T k to) :=
  pe_mono (pe_bm0 pa slot hty hm ho hbase hline) fun σ H Q ⟨G, M, R, E, hv, h, hR, hE⟩ => ⟨G, M, _, E, hv, h, fun x G1 M1 H1 hv1 h1 => ⟨h1.1 H1 hv1, G1, M1, R, hv1, h1.2, hR⟩, hE⟩
def kAppend : KM := fun x vs G M R => match x, vs with
  | .ref a, [y] => ∃ n xs, M[n]? = some (a, .lst xs) ∧ xs.length < sizeLine ∧ R .non G (M.set n (a, .lst (xs ++ [y])))
  | _, _ => False
theorem km_append : KMt X "list.append" kAppend := kmt_of mt_append fun x vs G M R H Q hv h hR => by
  match x, vs, h with
  | .ref a, [y], ⟨n, xs, h1, h2, h3⟩ => exact ⟨a, xs, y, rfl, rfl, hv.get h1, h2, hR _ G _ _ (hv.set h1) h3⟩
def kExtend : KM := fun x vs G M R => match x, vs with
  | .ref a, [.ref b] => ∃ n xs ys, M[n]? = some (a, .lst xs) ∧ At G M b (.lst ys) ∧ xs.length + ys.length ≤ sizeLine ∧ R .non G (M.set n (a, .lst (xs ++ ys)))
  | _, _ => False
theorem km_extend : KMt X "list.extend" kExtend := kmt_of mt_extend fun x vs G M R H Q hv h hR => by
  match x, vs, h with
  | .ref a, [.ref b], ⟨n, xs, ys, h1, h2, h3, h4⟩ => exact ⟨a, b, xs, ys, rfl, rfl, hv.get h1, hv.at h2, h3, hR _ G _ _ (hv.set h1) h4⟩
def kReverse : KM := fun x vs G M R => match x, vs with
  | .ref a, [] => ∃ n xs, M[n]? = some (a, .lst xs) ∧ R .non G (M.set n (a, .lst xs.reverse))
  | _, _ => False
theorem km_reverse : KMt X "list.reverse" kReverse := kmt_of mt_reverse fun x vs G M R H Q hv h hR => by
  match x, vs, h with
  | .ref a, [], ⟨n, xs, h1, h3⟩ => exact ⟨a, xs, rfl, rfl, hv.get h1, hR _ G _ _ (hv.set h1) h3⟩
end
/-! ### defs -/
abbrev KSp := List V → Hp → Mem → KR → KX → Prop
def lift (S : KSp) : Sp := fun vs H Q E => ∃ G M R X, Hv G M H ∧ S vs G M R X ∧ (∀ v G' M' H', Hv G' M' H' → R v G' M' → Q v H') ∧ (∀ c d G' M' H', Hv G' M' H' → X c d G' M' → E c d H')
def kCall (S : KSp) (t : KA) : KE := fun σ G M R E => t σ G M (fun vs G M => S vs G M R E) E
section
variable {X : Cx} {W : WX} {pos p : Pos} {e : Expr} {es : List Expr} {x : Str} {k : Nat} {f : Addr} {fd : FuncData} {ps : List Str} {S : KSp} {t : KA}
theorem je_call (F : FnOk X.prog X.w X.K X.mg X.base (L2.CX X.prog X.w) k f fd ps (lift S)) (hr : Room k X.A) (tk : Takes X W) (hm : X.mg x = some (.ref f)) (hk : PySem.W.keepIn X.K (.ref f) = true) (hb : Binds X.K fd ps []) (ha : JA X W (e :: es) t) (hg : Gl X x := by rfl)
    (hdb : (x == ("__debug__" : Str)) = false := by decide) (he : starEach (e :: es) X.env = (false, eval e X.env) :: starEach es X.env := by rfl) (hpl : (backTo pos (starEach es X.env)).any (·.1) = false := by rfl) :
    JE X W (.Call (.Name x p) (e :: es) [] pos) (kCall S t) :=
  pe_mono (pe_callS F hr hg hm hk hb (passAt tk) ha hdb he hpl) fun σ H Q ⟨G, M, R, E, hv, h, hR, hE⟩ =>
    ⟨G, M, _, E, hv, h, fun vs G1 M1 H1 hv1 h1 => ⟨G1, M1, R, E, hv1, h1, hR, hE⟩, hE⟩
end
end BT
set_option Elab.async false
set_option linter.all false
set_option maxRecDepth 100000
set_option maxHeartbeats 4000000
namespace BT
open PySem PySem.Spec L2
open PyProof.Rows hiding St
/-! ### statements -/
structure Kd where
  nx : St → Hp → Mem → Prop
  rt : KR
  bk : St → Hp → Mem → Prop := fun _ _ _ => False
  ct : St → Hp → Mem → Prop := fun _ _ _ => False
  xc : Value → Option Addr → St → Hp → Mem → Prop := fun _ _ _ _ _ => False
abbrev KS := Kd → St → Hp → Mem → Prop
structure EndsTo (W : WX) (d : Kd) (D : Ends) : Prop where
  nx : ∀ σ G M H, Hv G M H → d.nx σ G M → D.nx σ H
  rt : ∀ v G M H, Hv G M H → d.rt v G M → D.rt v H
  bk : ∀ σ G M H, Hv G M H → d.bk σ G M → D.bk σ H
  ct : ∀ σ G M H, Hv G M H → d.ct σ G M → D.ct σ H
  xc : ∀ c a σ G M H, Hv G M H → d.xc c a σ G M → W c a σ H
def upS (W : WX) (t : KS) : TS := fun D σ H => ∃ G M d, Hv G M H ∧ t d σ G M ∧ EndsTo W d D
def JS (X : Cx) (W : WX) (s : Stmt) (t : KS) : Prop := PS X s (upS W t)
def JSs (X : Cx) (W : WX) (s : List Stmt) (t : KS) : Prop := PSs X s (upS W t)
theorem ps_mono {X : Cx} {s : Stmt} {t t' : TS} (h : PS X s t) (i : ∀ D σ H, t' D σ H → t D σ H) : PS X s t' := ⟨fun pins st σ H D I q => h.run pins st σ H D I (i D σ H q)⟩
theorem pss_mono {X : Cx} {s : List Stmt} {t t' : TS} (h : PSs X s t) (i : ∀ D σ H, t' D σ H → t D σ H) : PSs X s t' := ⟨fun pins st σ H D I q => h.run pins st σ H D I (i D σ H q)⟩
def Kd.x (d : Kd) (σ : St) : KX := fun c a G M => d.xc c a σ G M
section
variable {X : Cx} {W : WX} {pos : Pos} {s : Stmt} {ss : List Stmt} {e : Expr} {t u : KS}
def kNext : KS := fun D σ G M => D.nx σ G M
def kSeq (t u : KS) : KS := fun D σ G M => ∃ G' M', Wk G M G' M' ∧ t { D with nx := u D } σ G' M'
def kNever : KS := fun _ _ _ _ => False
theorem jss_nil : JSs X W [] kNext := pss_mono pss_nil fun D σ H ⟨G, M, d, hv, h, en⟩ => en.nx σ G M H hv h
theorem jss_cons (h1 : JS X W s t) (h2 : JSs X W ss u) : JSs X W (s :: ss) (kSeq t u) := pss_mono (pss_cons h1 h2) fun D σ H ⟨G, M, d, hv, ⟨G', M', wk, h⟩, en⟩ =>
  ⟨G', M', _, wk H hv, h, ⟨fun σ' G2 M2 H2 hv2 q => ⟨G2, M2, d, hv2, q, en⟩, en.rt, en.bk, en.ct, en.xc⟩⟩
theorem js_never : JS X W s kNever := ps_mono ps_never fun D σ H ⟨G, M, d, hv, h, en⟩ => h
theorem js_pass : JS X W (.Pass pos) kNext := ps_mono ps_pass fun D σ H ⟨G, M, d, hv, h, en⟩ => en.nx σ G M H hv h
def kSet (i : Nat) (t : KE) : KS := fun D σ G M => t σ G M (fun v G M => D.nx (σ.set i (some v)) G M) (D.x σ)
theorem js_set {i : Nat} {x : Str} {t : KE} {pos' : Pos} (he : JE X W e t) (hN : X.N.Nodup) (hi : X.N[i]? = some x := by rfl) (hx : Loc X.env.scope x := by first | exact Or.inl rfl | exact Or.inr rfl)
    (hs : swapsWith e (some (.Name x pos')) pos.line X.env = pure false := by rfl) (hf : X.fn x = true ∨ X.env.scope.names.lookup x = some .local := by first | exact .inl rfl | exact .inr rfl | assumption) :
    JS X W (.Assign [.Name x pos'] e pos) (kSet i t) := ps_mono (ps_set hN hi hx he hs hf) fun D σ H ⟨G, M, d, hv, h, en⟩ =>
  ⟨G, M, _, _, hv, h, fun v G' M' H' hv' q => en.nx _ G' M' H' hv' q, fun c a G' M' H' hv' q => en.xc c a σ G' M' H' hv' q⟩
def kExpr (t : KE) : KS := fun D σ G M => t σ G M (fun _ G M => D.nx σ G M) (D.x σ)
theorem js_expr {t : KE} (he : JE X W e t) (hs : swapsWith e none pos.line X.env = pure false := by rfl) : JS X W (.Expr e pos) (kExpr t) := ps_mono (ps_expr he hs) fun D σ H ⟨G, M, d, hv, h, en⟩ =>
  ⟨G, M, _, _, hv, h, fun v G' M' H' hv' q => en.nx _ G' M' H' hv' q, fun c a G' M' H' hv' q => en.xc c a σ G' M' H' hv' q⟩
def kRet (t : KE) : KS := fun D σ G M => t σ G M D.rt (D.x σ)
theorem js_ret {t : KE} (he : JE X W e t) : JS X W (.Return (some e) pos) (kRet t) := ps_mono (ps_ret he) fun D σ H ⟨G, M, d, hv, h, en⟩ =>
  ⟨G, M, _, _, hv, h, fun v G' M' H' hv' q => en.rt _ G' M' H' hv' q, fun c a G' M' H' hv' q => en.xc c a σ G' M' H' hv' q⟩
def kRetN : KS := fun D σ G M => D.rt .non G M
theorem js_retN : JS X W (.Return none pos) kRetN := ps_mono ps_retN fun D σ H ⟨G, M, d, hv, h, en⟩ => en.rt _ G M H hv h
def kIf (c : KT) (t u : KS) : KS := fun D σ G M => c σ G M (fun b G M => if b = true then t D σ G M else u D σ G M) (D.x σ)
theorem js_if {c : Expr} {a b : List Stmt} {tc : KT} (hc : JT X W c tc) (ha : JSs X W a t) (hb : JSs X W b u) : JS X W (.If c a b pos) (kIf tc t u) := ps_mono (ps_if hc ha hb) fun D σ H ⟨G, M, d, hv, h, en⟩ =>
  ⟨G, M, _, _, hv, h, fun v G' M' H' hv' q => by
    cases v with
    | true => rw [if_pos rfl] at q ⊢; exact ⟨G', M', d, hv', q, en⟩
    | false => rw [if_neg Bool.false_ne_true] at q ⊢; exact ⟨G', M', d, hv', q, en⟩, fun c a G' M' H' hv' q => en.xc c a σ G' M' H' hv' q⟩
/-! ### targets -/
structure KG where
  val : V → St → Hp → Mem → (St → Hp → Mem → Prop) → Prop
  tup : List V → St → Hp → Mem → (St → Hp → Mem → Prop) → Prop
structure JG (X : Cx) (tg : Expr) (g : KG) (gr : TG) : Prop where
  pg : PG X tg gr
  val : ∀ v σ G M R H Q, Hv G M H → g.val v σ G M R → (∀ σ' G' M' H', Hv G' M' H' → R σ' G' M' → Q σ' H') → gr v σ H Q
  tup : ∀ T vs σ G M R H Q, Hv G M H → H T = none → g.tup vs σ G M R → (∀ σ' G' M' H', Hv G' M' H' → R σ' G' M' → Q σ' H') → gr (.ref T) σ (upd H T (.tup vs)) Q
def kgName (i : Nat) : KG := ⟨fun v σ G M R => R (σ.set i (some v)) G M, fun vs σ G M R => ∀ T, Fr G M T → R (σ.set i (some (.ref T))) (upd G T (.tup vs)) M⟩
theorem jg_name {i : Nat} {x : Str} (hN : X.N.Nodup) (hi : X.N[i]? = some x := by rfl) (hx : Loc X.env.scope x := by first | exact Or.inl rfl | exact Or.inr rfl) (hf : X.fn x = true ∨ X.env.scope.names.lookup x = some .local := by first | exact .inl rfl | exact .inr rfl | assumption) : JG X (.Name x pos) (kgName i) (gName i) :=
  ⟨pg_name hN hi hx hf, fun v σ G M R H Q hv h hR => hR _ G M H hv h, fun T vs σ G M R H Q hv hT h hR => hR _ _ M _ (hv.newG hT) (h T (hv.fr hT))⟩
/-- several targets at once -/
abbrev KGs := List V → St → Hp → Mem → (St → Hp → Mem → Prop) → Prop
def kgsNil : KGs := fun vs σ G M R => match vs with
  | [] => R σ G M
  | _ => False
def kgsCons (g : KG) (r : KGs) : KGs := fun vs σ G M R => match vs with
  | v :: vs => g.val v σ G M (fun σ G M => r vs σ G M R)
  | [] => False
structure JGs (X : Cx) (ts : List Expr) (g : KGs) (gr : TGs) : Prop where
  pgs : PGs X ts gr
  sim : ∀ vs σ G M R H Q, Hv G M H → g vs σ G M R → (∀ σ' G' M' H', Hv G' M' H' → R σ' G' M' → Q σ' H') → gr vs σ H Q
theorem jgs_nil : JGs X [] kgsNil gNil := ⟨pgs_nil, fun vs σ G M R H Q hv h hR => by
  match vs, h with
  | [], h => exact ⟨rfl, hR _ G M H hv h⟩⟩
theorem jgs_cons {tg : Expr} {ts : List Expr} {g : KG} {r : KGs} {gr : TG} {gs : TGs} (h1 : JG X tg g gr) (hr : JGs X ts r gs)
    (hs : (assignEach (tg :: ts) X.env).map (·.2) = assign tg X.env :: (assignEach ts X.env).map (·.2) := by rfl) : JGs X (tg :: ts) (kgsCons g r) (gCons gr gs) :=
  ⟨pgs_cons h1.pg hr.pgs hs, fun vs σ G M R H Q hv h hR => by
    match vs, h with
    | v :: vs, h => exact ⟨v, vs, rfl, h1.val v σ G M _ H _ hv h fun σ' G' M' H' hv' q => hr.sim vs σ' G' M' R H' Q hv' q hR⟩⟩
def onLen (n : Nat) (g : KGs) : KGs := fun vs σ G M R => match vs.length == n with
  | true => g vs σ G M R
  | false => False
theorem onLen_of {n : Nat} {g : KGs} {vs : List V} {σ : St} {G : Hp} {M : Mem} {R : St → Hp → Mem → Prop} (h : onLen n g vs σ G M R) : vs.length = n ∧ g vs σ G M R := by
  unfold onLen at h
  split at h
  · rename_i e; exact ⟨beq_iff_eq.mp e, h⟩
  · exact h.elim
def kgTup (K : PySem.W.Frag) (n : Nat) (g : KGs) : KG := ⟨fun v σ G M R => match v with
    | .ref a => ∃ xs, SqT K G a xs ∧ onLen n g xs σ G M R
    | _ => False, onLen n g⟩
theorem jg_tup {K : PySem.W.Frag} {ts : List Expr} {g : KGs} {gs : TGs} {n k : Nat} (hc : X.calm = true) (h : JGs X ts g gs) (hK : X.K = K := by rfl) (hn : (assignEach ts X.env).length = n := by rfl) (hst : (assignEach ts X.env).findIdx? (·.1) = none := by rfl) :
    JG X (.Tuple ts k pos) (kgTup K n g) (gTup K n gs) := by
  subst hK
  exact ⟨pg_tup hc h.pgs hn hst, fun v σ G M R H Q hv q hR => by
    match v, q with
    | .ref a, ⟨xs, q1, q2⟩ =>
      obtain ⟨e, q3⟩ := onLen_of q2
      exact ⟨a, xs, rfl, hv.tup q1, e, h.sim xs σ G M R H Q hv q3 hR⟩,
   fun T vs σ G M R H Q hv hT q hR => by
    obtain ⟨e, q3⟩ := onLen_of q
    exact ⟨T, vs, rfl, .inl (.inl upd_same), e, h.sim vs σ G M R _ Q (hv.junk hT) q3 hR⟩⟩
/-- nothing is raised -/
def W0 : WX := fun _ _ _ _ => False
/-- a place of a list as a target -/
def setL (o i v : V) (G : Hp) (M : Mem) (R : Hp → Mem → Prop) : Prop := match o, i with
  | .ref a, .int k => ∃ n xs j, M[n]? = some (a, .lst xs) ∧ ixN xs.length k = some j ∧ R G (M.set n (a, .lst (xs.set j v)))
  | _, _ => False
def kgIx (to ti : KE) : KG := ⟨fun v σ G M R => to σ G M (fun o G M => ti σ G M (fun i G M => setL o i v G M (fun G M => R σ G M)) (fun _ _ _ _ => False)) (fun _ _ _ _ => False), fun _ _ _ _ _ => False⟩
theorem jg_ix {o i : Expr} {to ti : KE} (ho : JE X W0 o to) (hi : JE X W0 i ti)
    (ha : ∀ v, assign (.Subscript o i pos) X.env v = (do
      let ov ← holding [v] (eval o X.env)
      let iv ← holding [v, ov] (eval i X.env)
      standAt pos
      holding [v, ov, iv] (setItem ov iv v)
      release [v, ov, iv] []) := by intro _; rfl) : JG X (.Subscript o i pos) (kgIx to ti) (gSub (upG W0 to) (upG W0 ti) rSetL) :=
  ⟨pg_sub ho hi set_list ha, fun v σ G M R H Q hv q hR => ⟨G, M, _, _, hv, q, fun ov G2 M2 H2 hv2 q2 => ⟨G2, M2, _, _, hv2, q2, fun iv G3 M3 H3 hv3 q3 => by
    match ov, iv, q3 with
    | .ref a, .int k, ⟨n, xs, j, e1, e2, q⟩ => exact ⟨a, xs, k, j, rfl, rfl, hv3.get e1, e2, hR σ G3 _ _ (hv3.set e1) q⟩, fun _ _ _ _ _ _ z => z.elim⟩, fun _ _ _ _ _ _ z => z.elim⟩,
   fun _ _ _ _ _ _ _ _ _ _ z => z.elim⟩
/-- a target of an assignment -/
def kAsg (t : KE) (g : KG) : KS := fun D σ G M => t σ G M (fun v G M => g.val v σ G M D.nx) (D.x σ)
theorem js_asg {tg : Expr} {t : KE} {g : KG} {gr : TG} (he : JE X W e t) (hg : JG X tg g gr) (hs : swapsWithSole [tg] e pos.line X.env = pure false := by rfl) (hw : swappedStores [tg] e X.env = pure none := by rfl)
    (h1 : (assignEach [tg] X.env).map (·.2) = [assign tg X.env] := by rfl) : JS X W (.Assign [tg] e pos) (kAsg t g) := ps_mono (ps_asg he hg.pg hs hw h1) fun D σ H ⟨G, M, d, hv, h, en⟩ =>
  ⟨G, M, _, _, hv, h, fun v G' M' H' hv' q => hg.val v σ G' M' _ H' _ hv' q fun σ' G2 M2 H2 hv2 q2 => en.nx _ G2 M2 H2 hv2 q2, fun c a G' M' H' hv' q => en.xc c a σ G' M' H' hv' q⟩
end
end BT
set_option Elab.async false
set_option linter.all false
set_option maxRecDepth 100000
set_option maxHeartbeats 4000000
namespace BT
open PySem PySem.Spec L2
open PyProof.Rows hiding St
/-! ### what is walked -/
structure Src where
  n : Nat
  get : Nat → V ⊕ List V
  ok : Hp → Mem → Prop
abbrev KI := KK Src
/-- an iterator that gives what the source says -/
structure Goes (src : Src) (J : It) : Prop where
  go : ∀ i G M H, Hv G M H → src.ok G M → i < src.n → J.go i H
  stop : ∀ i G M H, Hv G M H → src.ok G M → src.n ≤ i → J.stop i H
  yld : ∀ i G M H x H', Hv G M H → src.ok G M → i < src.n → J.yld i H x H' → match src.get i with
    | .inl v => x = v ∧ H' = H
    | .inr vs => ∃ T, x = .ref T ∧ H T = none ∧ H' = upd H T (.tup vs)
def upI (W : WX) (t : KI) : TI := fun σ H Q => ∃ G M R E, Hv G M H ∧ t σ G M R E ∧ (∀ src G' M' H', Hv G' M' H' → R src G' M' → ∀ J, Goes src J → Q J H') ∧ (∀ c d G' M' H', Hv G' M' H' → E c d G' M' → W c d σ H')
def JI (X : Cx) (W : WX) (tg it : Expr) (t : KI) : Prop := PI X tg it (upI W t)
theorem pi_mono {X : Cx} {tg it : Expr} {t t' : TI} (h : PI X tg it t) (i : ∀ σ H Q, t' σ H Q → t σ H Q) : PI X tg it t' := ⟨fun pins s σ H Q I q => h.run pins s σ H Q I (i σ H Q q)⟩
def srcL (K : PySem.W.Frag) (a : Addr) (xs : List V) : Src := ⟨xs.length, fun i => .inl (xs.getD i .non), fun G M => LstAt K G M a xs⟩
def srcT (K : PySem.W.Frag) (a : Addr) (xs : List V) : Src := ⟨xs.length, fun i => .inl (xs.getD i .non), fun G M => SqT K G a xs⟩
def srcR (lo : Int) (n : Nat) : Src := ⟨n, fun i => .inl (.int (lo + i)), fun _ _ => True⟩
def srcC (lo c : Int) (n : Nat) : Src := ⟨n, fun i => .inl (.int (lo + (i : Nat) * c)), fun _ _ => True⟩
def srcE (K : PySem.W.Frag) (a : Addr) (xs : List V) : Src := ⟨xs.length, fun i => .inr [.int i, xs.getD i .non], fun G M => LstAt K G M a xs⟩
def srcZ (K : PySem.W.Frag) (a b : Addr) (xs ys : List V) : Src := ⟨min xs.length ys.length, fun i => .inr [xs.getD i .non, ys.getD i .non], fun G M => LstAt K G M a xs ∧ LstAt K G M b ys⟩
def srcV (K : PySem.W.Frag) (a : Addr) (xs : List V) : Src := ⟨xs.length, fun i => .inl (xs.getD (xs.length - 1 - i) .non), fun G M => LstAt K G M a xs⟩
theorem getD_of {xs : List V} {i : Nat} {x : V} (h : xs[i]? = some x) : xs.getD i .non = x := by
  rw [List.getD_eq_getElem?_getD, h]; rfl
theorem get_lt {xs : List V} {i : Nat} (h : i < xs.length) : xs[i]? = some (xs.getD i .non) := by
  rw [List.getD_eq_getElem?_getD, List.getElem?_eq_getElem h]; rfl
theorem goes_L {K : PySem.W.Frag} {a : Addr} {xs : List V} : Goes (srcL K a xs) (Itl K a) where
  go := fun i G M H hv ok hi => ⟨xs, _, hv.lst ok, get_lt hi⟩
  stop := fun i G M H hv ok hi => ⟨xs, hv.lst ok, hi⟩
  yld := fun i G M H x H' hv ok hi y => ⟨(getD_of (y.2 xs (hv.lst ok))).symm, y.1⟩
theorem goes_T {K : PySem.W.Frag} {a : Addr} {xs : List V} : Goes (srcT K a xs) (Itt K a) where
  go := fun i G M H hv ok hi => ⟨xs, _, hv.tup ok, get_lt hi⟩
  stop := fun i G M H hv ok hi => ⟨xs, hv.tup ok, hi⟩
  yld := fun i G M H x H' hv ok hi y => ⟨(getD_of (y.2 xs (hv.tup ok))).symm, y.1⟩
theorem goes_R {lo : Int} {n : Nat} : Goes (srcR lo n) (Itr lo n) where
  go := fun i G M H hv ok hi => hi
  stop := fun i G M H hv ok hi => hi
  yld := fun i G M H x H' hv ok hi y => ⟨y.2, y.1⟩
theorem goes_C {lo c : Int} {n : Nat} : Goes (srcC lo c n) (Itc lo c n) where
  go := fun i G M H hv ok hi => hi
  stop := fun i G M H hv ok hi => hi
  yld := fun i G M H x H' hv ok hi y => ⟨y.2, y.1⟩
theorem goes_E {K : PySem.W.Frag} {a : Addr} {xs : List V} : Goes (srcE K a xs) (Ite K a) where
  go := fun i G M H hv ok hi => ⟨xs, _, hv.lst ok, get_lt hi⟩
  stop := fun i G M H hv ok hi => ⟨xs, hv.lst ok, hi⟩
  yld := fun i G M H x H' hv ok hi y => by
    obtain ⟨T, z, e1, e2, e3, e4⟩ := y
    have e5 := getD_of (e4 xs (hv.lst ok))
    exact ⟨T, e1, e2, by rw [e3, ← e5]⟩
theorem goes_Z {K : PySem.W.Frag} {a b : Addr} {xs ys : List V} : Goes (srcZ K a b xs ys) (Itz K a b) where
  go := fun i G M H hv ok hi => ⟨xs, ys, _, _, hv.lst ok.1, hv.lst ok.2, get_lt (Nat.lt_of_lt_of_le hi (Nat.min_le_left _ _)), get_lt (Nat.lt_of_lt_of_le hi (Nat.min_le_right _ _))⟩
  stop := fun i G M H hv ok hi => ⟨xs, ys, hv.lst ok.1, hv.lst ok.2, by
    have hi : min xs.length ys.length ≤ i := hi
    omega⟩
  yld := fun i G M H x H' hv ok hi y => by
    obtain ⟨T, z, w, e1, e2, e3, e4, e5⟩ := y
    have e6 := getD_of (e4 xs (hv.lst ok.1))
    have e7 := getD_of (e5 ys (hv.lst ok.2))
    exact ⟨T, e1, e2, by rw [e3, ← e6, ← e7]⟩
theorem goes_V {K : PySem.W.Frag} {a : Addr} {xs : List V} : Goes (srcV K a xs) (Itv K a xs.length) where
  go := fun i G M H hv ok hi => ⟨hi, xs, _, hv.lst ok, get_lt (by have hi : i < xs.length := hi; omega)⟩
  stop := fun i G M H hv ok hi => hi
  yld := fun i G M H x H' hv ok hi y => ⟨(getD_of (y.2 xs (hv.lst ok))).symm, y.1⟩
section
variable {X : Cx} {W : WX} {pos p tpos : Pos} {e e2 a b c : Expr} {es : List Expr} {tg : Expr}
def kiSeq (K : PySem.W.Frag) (t : KE) : KI := fun σ G M R E => t σ G M (fun x G M => match x with
  | .ref a => ∃ xs, LstAt K G M a xs ∧ R (srcL K a xs) G M
  | _ => False) E
def kiTup (K : PySem.W.Frag) (t : KE) : KI := fun σ G M R E => t σ G M (fun x G M => match x with
  | .ref a => ∃ xs, SqT K G a xs ∧ R (srcT K a xs) G M
  | _ => False) E
theorem ji_list {t : KE} (h : JE X W e t) : JI X W tg e (kiSeq X.K t) := pi_mono (pi_list h) fun σ H Q ⟨G, M, R, E, hv, h, hR, hE⟩ => ⟨G, M, _, E, hv, h, fun x G1 M1 H1 hv1 q => by
    match x, q with
    | .ref a, ⟨xs, q1, q2⟩ => exact ⟨a, rfl, ⟨xs, hv1.lst q1⟩, hR _ G1 M1 H1 hv1 q2 _ goes_L⟩, hE⟩
theorem ji_tup {t : KE} (h : JE X W e t) : JI X W tg e (kiTup X.K t) := pi_mono (pi_tup h) fun σ H Q ⟨G, M, R, E, hv, h, hR, hE⟩ => ⟨G, M, _, E, hv, h, fun x G1 M1 H1 hv1 q => by
    match x, q with
    | .ref a, ⟨xs, q1, q2⟩ => exact ⟨a, rfl, ⟨xs, hv1.tup q1⟩, hR _ G1 M1 H1 hv1 q2 _ goes_T⟩, hE⟩
/-- range(n), range(a, b), range(a, b, c) -/
def kiR1 (t : KA) : KI := fun σ G M R E => t σ G M (fun vs G M => match vs with
  | [.int j] => (-(2 ^ 62) ≤ j ∧ j < 2 ^ 62) ∧ R (srcR 0 j.toNat) G M
  | _ => False) E
def kiR2 (t : KA) : KI := fun σ G M R E => t σ G M (fun vs G M => match vs with
  | [.int i, .int j] => (-(2 ^ 62) ≤ i ∧ i < 2 ^ 62 ∧ -(2 ^ 62) ≤ j ∧ j < 2 ^ 62) ∧ R (srcR i (j - i).toNat) G M
  | _ => False) E
def kiR3 (t : KA) : KI := fun σ G M R E => t σ G M (fun vs G M => match vs with
  | [.int i, .int j, .int c] => ∃ n, RgC i j c n ∧ R (srcC i c n) G M
  | _ => False) E
theorem ji_range1 {t : KA} (hm : X.mg "range" = none) (ha : JA X W [a] t) (hg : Gl X "range" := by rfl) (hs : starEach [a] X.env = [(false, eval a X.env)] := by rfl) : JI X W tg (.Call (.Name "range" p) [a] [] pos) (kiR1 t) :=
  pi_mono (pi_range1 hg hm ha hs) fun σ H Q ⟨G, M, R, E, hv, h, hR, hE⟩ => ⟨G, M, _, E, hv, h, fun vs G1 M1 H1 hv1 q => by
    match vs, q with
    | [.int j], ⟨⟨q1, q2⟩, q3⟩ => exact ⟨j, rfl, q1, q2, hR _ G1 M1 H1 hv1 q3 _ goes_R⟩, hE⟩
theorem ji_range2 {t : KA} (hm : X.mg "range" = none) (ha : JA X W [a, b] t) (hg : Gl X "range" := by rfl) (hs : starEach [a, b] X.env = [(false, eval a X.env), (false, eval b X.env)] := by rfl) (hs2 : starEach [b] X.env = [(false, eval b X.env)] := by rfl) : JI X W tg (.Call (.Name "range" p) [a, b] [] pos) (kiR2 t) :=
  pi_mono (pi_range2 hg hm ha hs hs2) fun σ H Q ⟨G, M, R, E, hv, h, hR, hE⟩ => ⟨G, M, _, E, hv, h, fun vs G1 M1 H1 hv1 q => by
    match vs, q with
    | [.int i, .int j], ⟨q1, q3⟩ => exact ⟨i, j, rfl, q1, hR _ G1 M1 H1 hv1 q3 _ goes_R⟩, hE⟩
theorem ji_range3 {t : KA} (hm : X.mg "range" = none) (ha : JA X W [a, b, c] t) (hg : Gl X "range" := by rfl) (hs : starEach [a, b, c] X.env = (false, eval a X.env) :: starEach [b, c] X.env := by rfl) (hpl : (backTo pos (starEach [b, c] X.env)).any (·.1) = false := by rfl) : JI X W tg (.Call (.Name "range" p) [a, b, c] [] pos) (kiR3 t) :=
  pi_mono (pi_range3 hg hm ha hs hpl) fun σ H Q ⟨G, M, R, E, hv, h, hR, hE⟩ => ⟨G, M, _, E, hv, h, fun vs G1 M1 H1 hv1 q => by
    match vs, q with
    | [.int i, .int j, .int c], ⟨n, q1, q3⟩ => exact ⟨i, j, c, n, rfl, q1, hR _ G1 M1 H1 hv1 q3 _ goes_C⟩, hE⟩
def kiEnum (K : PySem.W.Frag) (t : KA) : KI := fun σ G M R E => t σ G M (fun vs G M => match vs with
  | [.ref a] => ∃ xs, LstAt K G M a xs ∧ R (srcE K a xs) G M
  | _ => False) E
def kiRev (K : PySem.W.Frag) (t : KA) : KI := fun σ G M R E => t σ G M (fun vs G M => match vs with
  | [.ref a] => ∃ xs, LstAt K G M a xs ∧ R (srcV K a xs) G M
  | _ => False) E
def kiZip (K : PySem.W.Frag) (t : KA) : KI := fun σ G M R E => t σ G M (fun vs G M => match vs with
  | [.ref a, .ref b] => ∃ xs ys, LstAt K G M a xs ∧ LstAt K G M b ys ∧ R (srcZ K a b xs ys) G M
  | _ => False) E
variable {elts : List Expr} {kk : Nat}
theorem ji_enum {t : KA} (hm : X.mg "enumerate" = none) (ha : JA X W [e] t) (hg : Gl X "enumerate" := by rfl) (hs : starEach [e] X.env = [(false, eval e X.env)] := by rfl) : JI X W (.Tuple elts kk tpos) (.Call (.Name "enumerate" p) [e] [] pos) (kiEnum X.K t) :=
  pi_mono (pi_enum hg hm ha hs) fun σ H Q ⟨G, M, R, E, hv, h, hR, hE⟩ => ⟨G, M, _, E, hv, h, fun vs G1 M1 H1 hv1 q => by
    match vs, q with
    | [.ref a], ⟨xs, q1, q3⟩ => exact ⟨a, xs, rfl, hv1.lst q1, hR _ G1 M1 H1 hv1 q3 _ goes_E⟩, hE⟩
theorem ji_rev {t : KA} (hm : X.mg "reversed" = none) (ha : JA X W [e] t) (hg : Gl X "reversed" := by rfl) (hs : starEach [e] X.env = [(false, eval e X.env)] := by rfl) : JI X W tg (.Call (.Name "reversed" p) [e] [] pos) (kiRev X.K t) :=
  pi_mono (pi_reversed hg hm ha hs) fun σ H Q ⟨G, M, R, E, hv, h, hR, hE⟩ => ⟨G, M, _, E, hv, h, fun vs G1 M1 H1 hv1 q => by
    match vs, q with
    | [.ref a], ⟨xs, q1, q3⟩ => exact ⟨a, xs, rfl, hv1.lst q1, hR _ G1 M1 H1 hv1 q3 _ goes_V⟩, hE⟩
theorem ji_zip {t : KA} (hm : X.mg "zip" = none) (ha : JA X W [e, e2] t) (hg : Gl X "zip" := by rfl) (hs : starEach [e, e2] X.env = (false, eval e X.env) :: starEach [e2] X.env := by rfl) (hpl : (backTo pos (starEach [e2] X.env)).any (·.1) = false := by rfl) :
    JI X W (.Tuple elts kk tpos) (.Call (.Name "zip" p) [e, e2] [] pos) (kiZip X.K t) :=
  pi_mono (pi_zip hg hm ha hs hpl) fun σ H Q ⟨G, M, R, E, hv, h, hR, hE⟩ => ⟨G, M, _, E, hv, h, fun vs G1 M1 H1 hv1 q => by
    match vs, q with
    | [.ref a, .ref b], ⟨xs, ys, q1, q2, q3⟩ => exact ⟨a, b, xs, ys, rfl, hv1.lst q1, hv1.lst q2, hR _ G1 M1 H1 hv1 q3 _ goes_Z⟩, hE⟩
/-! ### for -/
def asg (g : KG) (w : V ⊕ List V) : St → Hp → Mem → (St → Hp → Mem → Prop) → Prop := match w with
  | .inl v => g.val v
  | .inr vs => g.tup vs
def wk1 (Pv : St → Hp → Mem → Prop) : St → Hp → Mem → Prop := fun σ G M => ∃ G' M', Wk G M G' M' ∧ Pv σ G' M'
def kFor (ti : KI) (g : KG) (tb : KS) : KS := fun D σ G M => ti σ G M (fun src G M => ∃ Pv : Nat → St → Hp → Mem → Prop, Pv 0 σ G M ∧ (∀ i σ G M, i ≤ src.n → Pv i σ G M → src.ok G M) ∧
  (∀ i σ G M, i < src.n → Pv i σ G M → asg g (src.get i) σ G M (fun σ G M => tb { D with nx := wk1 (Pv (i + 1)), ct := wk1 (Pv (i + 1)), bk := D.nx } σ G M)) ∧ (∀ σ G M, Pv src.n σ G M → D.nx σ G M)) (D.x σ)
theorem asg_sim {g : KG} {gr : TG} (hg : JG X tg g gr) {w : V ⊕ List V} {σ : St} {G : Hp} {M : Mem} {R : St → Hp → Mem → Prop} {H H' : Hp} {x : V} {Q : St → Hp → Prop} (hv : Hv G M H)
    (y : match w with | .inl v => x = v ∧ H' = H | .inr vs => ∃ T, x = .ref T ∧ H T = none ∧ H' = upd H T (.tup vs)) (h : asg g w σ G M R) (hR : ∀ σ' G' M' H', Hv G' M' H' → R σ' G' M' → Q σ' H') : gr x σ H' Q := by
  cases w with
  | inl v =>
    obtain ⟨rfl, rfl⟩ := y
    exact hg.val _ σ G M R _ Q hv h hR
  | inr vs =>
    obtain ⟨T, rfl, hT, rfl⟩ := y
    exact hg.tup T vs σ G M R H Q hv hT h hR
theorem js_for {it : Expr} {body : List Stmt} {ti : KI} {g : KG} {gr : TG} {tb : KS} (hp : PassesOwn (model X.prog X.w) X.A X.env X.xe) (hc : X.calm = true) (hi : JI X W tg it ti) (hg : JG X tg g gr) (hb : JSs X W body tb)
    (hs : ∀ x, foldedSetIterable it X.env x = pure x := by intro _; rfl) : JS X W (.For tg it body [] pos) (kFor ti g tb) := ps_mono (ps_for hp hc hi hg.pg hb hs) fun D σ H ⟨G, M, d, hv, h, en⟩ => by
  refine ⟨G, M, _, _, hv, h, fun src G1 M1 H1 hv1 q J go => ?_, fun c a G' M' H' hv' q => en.xc c a σ G' M' H' hv' q⟩
  obtain ⟨Pv, p0, pok, pst, pend⟩ := q
  refine ⟨fun i m σ H => m = src.n - i ∧ i ≤ src.n ∧ ∃ G M, Hv G M H ∧ Pv i σ G M, ⟨src.n, by simp, Nat.zero_le _, G1, M1, hv1, p0⟩, ?_⟩
  rintro i m σ2 H2 ⟨rfl, hi2, G2, M2, hv2, p2⟩
  have ok := pok i σ2 G2 M2 hi2 p2
  by_cases hlt : i < src.n
  · refine .inr ⟨go.go i G2 M2 H2 hv2 ok hlt, fun σ' H' => ∃ G M, Hv G M H' ∧ Pv (i + 1) σ' G M, fun σ' H' ⟨G3, M3, hv3, p3⟩ => ⟨src.n - (i + 1), by omega, rfl, hlt, G3, M3, hv3, p3⟩, fun x H' y => ?_⟩
    refine asg_sim hg hv2 (go.yld i G2 M2 H2 x H' hv2 ok hlt y) (pst i σ2 G2 M2 hlt p2) fun σ3 G3 M3 H3 hv3 q3 => ?_
    have e1 : ∀ σ G M H, Hv G M H → wk1 (Pv (i + 1)) σ G M → ∃ G M, Hv G M H ∧ Pv (i + 1) σ G M := fun σ G M H hv ⟨G', M', wk, q⟩ => ⟨G', M', wk H hv, q⟩
    exact ⟨G3, M3, _, hv3, q3, ⟨e1, en.rt, en.nx, e1, en.xc⟩⟩
  · have e : i = src.n := by omega
    subst e
    exact .inl ⟨go.stop _ G2 M2 H2 hv2 ok (Nat.le_refl _), en.nx _ G2 M2 H2 hv2 (pend σ2 G2 M2 p2)⟩
/-! ### while -/
def kWhile (c : KT) (tb : KS) : KS := fun D σ G M => ∃ Pv : Nat → St → Hp → Mem → Prop, (∃ m, Pv m σ G M) ∧ ∀ m σ G M, Pv m σ G M →
  c σ G M (fun b G M => if b = true then tb { D with nx := fun σ G M => ∃ m', m' < m ∧ wk1 (Pv m') σ G M, ct := fun σ G M => ∃ m', m' < m ∧ wk1 (Pv m') σ G M, bk := D.nx } σ G M else D.nx σ G M) (D.x σ)
theorem js_while {c : Expr} {body : List Stmt} {tc : KT} {tb : KS} (hp : PassesOwn (model X.prog X.w) X.A X.env X.xe) (hc : JT X W c tc) (hb : JSs X W body tb) : JS X W (.While c body [] pos) (kWhile tc tb) := ps_mono (ps_while hp hc hb) fun D σ H ⟨G, M, d, hv, ⟨Pv, ⟨m0, p0⟩, st⟩, en⟩ => by
  refine ⟨fun m σ H => ∃ G M, Hv G M H ∧ Pv m σ G M, ⟨m0, G, M, hv, p0⟩, ?_⟩
  rintro m σ1 H1 ⟨G1, M1, hv1, p1⟩
  refine ⟨G1, M1, _, _, hv1, st m σ1 G1 M1 p1, fun b G2 M2 H2 hv2 q2 => ?_, fun c a G' M' H' hv' q => en.xc c a σ1 G' M' H' hv' q⟩
  cases b with
  | true =>
    rw [if_pos rfl] at q2 ⊢
    refine ⟨fun σ' H' => ∃ m', m' < m ∧ ∃ G M, Hv G M H' ∧ Pv m' σ' G M, fun σ' H' h => h, ?_⟩
    have e1 : ∀ σ G M H, Hv G M H → (∃ m', m' < m ∧ wk1 (Pv m') σ G M) → ∃ m', m' < m ∧ ∃ G M, Hv G M H ∧ Pv m' σ G M := fun σ G M H hv ⟨m', l, G', M', wk, q⟩ => ⟨m', l, G', M', wk H hv, q⟩
    exact ⟨G2, M2, _, hv2, q2, ⟨e1, en.rt, en.nx, e1, en.xc⟩⟩
  | false =>
    rw [if_neg Bool.false_ne_true] at q2 ⊢
    exact en.nx _ G2 M2 H2 hv2 q2
/-! ### list comprehensions -/
def E0 : KX := fun _ _ _ _ => False
def kYes : KT := fun _ G M R _ => R true G M
def JTs (X : Cx) (W : WX) (es : List Expr) (t : KT) : Prop := PTs X es (upG W t)
theorem jts_nil : JTs X W [] kYes := ⟨fun pins s σ H Q I ⟨G, M, R, E, hv, h, hR, _⟩ => pts_nil.run pins s σ H Q I (hR _ G M H hv h)⟩
theorem jts_one {t : KT} (h : JT X W c t) : JTs X W [c] t := pts_one h
def kComp (ti : KI) (g : KG) (tt : KT) (te : KE) (own : List Nat) : KE := fun σ G M R E => ti σ G M (fun src G M => src.n ≤ sizeLine ∧ ∃ Pv : Nat → List V → Hp → Mem → Prop, Pv 0 [] G M ∧ (∀ i acc G M, i ≤ src.n → Pv i acc G M → src.ok G M) ∧
  (∀ i acc G M D, i < src.n → acc.length ≤ i → Pv i acc G M → Fr G M D → asg g (src.get i) (wipe σ own) G ((D, .lst acc) :: M) (fun σ2 G M => wipe σ2 own = wipe σ own ∧ tt σ2 G M (fun b G M =>
    if b = true then te σ2 G M (fun y G M => ∃ G' M', Wk G M G' ((D, .lst acc) :: M') ∧ Pv (i + 1) (acc ++ [y]) G' M') E0 else ∃ G' M', Wk G M G' ((D, .lst acc) :: M') ∧ Pv (i + 1) acc G' M') E0)) ∧
  (∀ acc G M p, Pv src.n acc G M → acc.length ≤ src.n → Fr G M p → R (.ref p) G ((p, .lst acc) :: M))) E
theorem comp_sim {K : PySem.W.Frag} {ti : KI} {g : KG} {gr : TG} {tt : KT} {te : KE} {own : List Nat} {σ : St} {H : Hp} {Q : VK}
    (hgv : ∀ v σ G M R H Q, Hv G M H → g.val v σ G M R → (∀ σ' G' M' H', Hv G' M' H' → R σ' G' M' → Q σ' H') → gr v σ H Q)
    (hgt : ∀ T vs σ G M R H Q, Hv G M H → H T = none → g.tup vs σ G M R → (∀ σ' G' M' H', Hv G' M' H' → R σ' G' M' → Q σ' H') → gr (.ref T) σ (upd H T (.tup vs)) Q)
    (h : upG W (kComp ti g tt te own) σ H Q) : tLc (upI W ti) gr (upG W0 tt) (upG W0 te) own σ H Q := by
  obtain ⟨G, M, R, E, hv, h, hR, hE⟩ := h
  refine ⟨G, M, _, E, hv, h, fun src G1 M1 H1 hv1 q J go => ?_, hE⟩
  obtain ⟨hn, Pv, p0, pok, pst, pend⟩ := q
  intro D hD
  refine ⟨fun i m H => m = src.n - i ∧ i ≤ src.n ∧ ∃ acc G M, acc.length ≤ i ∧ Hv G ((D, .lst acc) :: M) H ∧ Pv i acc G M, ⟨src.n, by simp, Nat.zero_le _, [], G1, M1, Nat.le_refl _, hv1.newM hD, p0⟩, ?_⟩
  rintro i m H2 ⟨rfl, hi2, acc, G2, M2, hacc, hv2, p2⟩
  have hv2' : Hv G2 M2 H2 := Wk.drop0 H2 hv2
  have ok := pok i acc G2 M2 hi2 p2
  have fD : Fr G2 M2 D := by
    refine ⟨hv2.dj (D, .lst acc) List.mem_cons_self, fun x hx e => ?_⟩
    have nd := hv2.nd
    rw [List.map_cons, List.nodup_cons] at nd
    exact nd.1 (by rw [← e]; exact List.mem_map.mpr ⟨x, hx, rfl⟩)
  by_cases hlt : i < src.n
  · refine .inr ⟨go.go i G2 M2 H2 hv2' ok hlt, fun H' => ∃ acc G M, acc.length ≤ i + 1 ∧ Hv G ((D, .lst acc) :: M) H' ∧ Pv (i + 1) acc G M, fun H' ⟨acc', G3, M3, l3, hv3, p3⟩ => ⟨src.n - (i + 1), by omega, rfl, hlt, acc', G3, M3, l3, hv3, p3⟩, fun x H' y => ?_⟩
    have step := pst i acc G2 M2 D hlt hacc p2 fD
    have yy := go.yld i G2 M2 H2 x H' hv2' ok hlt y
    have fin : ∀ σ3 G3 M3 H3, Hv G3 M3 H3 → (wipe σ3 own = wipe σ own ∧ tt σ3 G3 M3 (fun b G M =>
        if b = true then te σ3 G M (fun y G M => ∃ G' M', Wk G M G' ((D, .lst acc) :: M') ∧ Pv (i + 1) (acc ++ [y]) G' M') E0 else ∃ G' M', Wk G M G' ((D, .lst acc) :: M') ∧ Pv (i + 1) acc G' M') E0) →
        (wipe σ3 own = wipe σ own ∧ upG W0 tt σ3 H3 fun b H3 => if b = true then upG W0 te σ3 H3 fun y H4 => ∃ acc, H4 D = some (.lst acc) ∧ acc.length < sizeLine ∧ (∃ acc' G M, acc'.length ≤ i + 1 ∧ Hv G ((D, .lst acc') :: M) (upd H4 D (.lst (acc ++ [y]))) ∧ Pv (i + 1) acc' G M) else ∃ acc' G M, acc'.length ≤ i + 1 ∧ Hv G ((D, .lst acc') :: M) H3 ∧ Pv (i + 1) acc' G M) := by
      rintro σ3 G3 M3 H3 hv3 ⟨ew, q3⟩
      refine ⟨ew, G3, M3, _, _, hv3, q3, fun b G4 M4 H4 hv4 q4 => ?_, fun _ _ _ _ _ _ z => z.elim⟩
      cases b with
      | true =>
        rw [if_pos rfl] at q4 ⊢
        refine ⟨G4, M4, _, _, hv4, q4, fun y G5 M5 H5 hv5 ⟨G6, M6, wk, p6⟩ => ?_, fun _ _ _ _ _ _ z => z.elim⟩
        have hv6 := wk H5 hv5
        refine ⟨acc, hv6.mu (D, .lst acc) List.mem_cons_self, by omega, acc ++ [y], G6, M6, by rw [List.length_append]; exact Nat.succ_le_succ hacc, ?_, p6⟩
        exact hv6.set (n := 0) (o' := .lst (acc ++ [y])) rfl
      | false =>
        rw [if_neg Bool.false_ne_true] at q4 ⊢
        obtain ⟨G6, M6, wk, p6⟩ := q4
        exact ⟨acc, G6, M6, by omega, wk H4 hv4, p6⟩
    revert yy step
    cases src.get i with
    | inl v =>
      rintro step ⟨rfl, rfl⟩
      exact hgv _ _ G2 _ _ _ _ hv2 step fin
    | inr vs =>
      rintro step ⟨T, rfl, hT, rfl⟩
      exact hgt T vs _ G2 _ _ _ _ hv2 hT step fin
  · have e : i = src.n := by omega
    subst e
    exact .inl ⟨go.stop _ G2 M2 H2 hv2' ok (Nat.le_refl _), hR _ _ _ _ hv2 (pend acc G2 M2 D p2 hacc fD)⟩
variable {elt it : Expr} {ifs : List Expr} {scope : Scope} {own : List (Str × Nat)} {spos py : Pos}
theorem je_comp {ti : KI} {g : KG} {gr : TG} {tt : KT} {te : KE} (hc : X.calm = true) (hN : X.N.Nodup) (hi : JI X W tg it ti) (ok : BlkOk X.N X.env.scope scope own)
    (hg : ∀ (s : Shared) (H : Hp) (C : Addr) (cl : List (Str × Addr)) (fp : List Addr), JG (X.blk s H scope (compEnvC scope cl C X.env) fp) tg g gr) (ht : ∀ (s : Shared) (H : Hp) (C : Addr) (cl : List (Str × Addr)) (fp : List Addr), JTs (X.blk s H scope (compEnvC scope cl C X.env) fp) W0 ifs tt)
    (he : ∀ (s : Shared) (H : Hp) (C : Addr) (cl : List (Str × Addr)) (fp : List Addr), JE (X.blk s H scope (compEnvC scope cl C X.env) fp) W0 elt te) (hs : ∀ x, foldedSetIterable it X.env x = pure x := by intro _; rfl) :
    JE X W (.ListComp elt [⟨tg, it, ifs, 0⟩] scope pos) (kComp ti g tt te (own.map (·.2))) :=
  pe_mono (pe_lc hc hN hi ok (fun s H C cl fp => (hg s H C cl fp).pg) ht he hs) fun σ H Q h =>
    comp_sim (K := X.K) (fun v σ G M R H Q hv => ((hg X.s_0 H 0 [] []).val v σ G M R H Q hv)) (fun T vs σ G M R H Q hv => ((hg X.s_0 H 0 [] []).tup T vs σ G M R H Q hv)) h
theorem js_setComp {i : Nat} {y : Str} {ti : KI} {g : KG} {gr : TG} {tt : KT} {te : KE} (hc : X.calm = true) (hN : X.N.Nodup) (hsw : swapsWith (.ListComp elt [⟨tg, it, ifs, 0⟩] scope pos) (some (.Name y py)) spos.line X.env = pure true) (hi : JI X W tg it ti) (ok : BlkOk X.N X.env.scope scope own)
    (hg : ∀ (s : Shared) (H : Hp) (C : Addr) (cl : List (Str × Addr)) (fp : List Addr), JG (X.blk s H scope (compEnvC scope cl C X.env) fp) tg g gr) (ht : ∀ (s : Shared) (H : Hp) (C : Addr) (cl : List (Str × Addr)) (fp : List Addr), JTs (X.blk s H scope (compEnvC scope cl C X.env) fp) W0 ifs tt)
    (he : ∀ (s : Shared) (H : Hp) (C : Addr) (cl : List (Str × Addr)) (fp : List Addr), JE (X.blk s H scope (compEnvC scope cl C X.env) fp) W0 elt te) (hy : X.N[i]? = some y := by rfl) (hyl : X.env.scope.names.lookup y = some .local := by rfl) (hs : ∀ x, foldedSetIterable it X.env x = pure x := by intro _; rfl) :
    JS X W (.Assign [.Name y py] (.ListComp elt [⟨tg, it, ifs, 0⟩] scope pos) spos) (kSet i (kComp ti g tt te (own.map (·.2)))) :=
  ps_mono (ps_setLc hc hN hy hyl hsw hi ok (fun s H C cl fp => (hg s H C cl fp).pg) ht he hs) fun D σ H ⟨G, M, d, hv, h, en⟩ =>
    comp_sim (K := X.K) (fun v σ G M R H Q hv => ((hg X.s_0 H 0 [] []).val v σ G M R H Q hv)) (fun T vs σ G M R H Q hv => ((hg X.s_0 H 0 [] []).tup T vs σ G M R H Q hv))
      ⟨G, M, _, _, hv, h, fun v G' M' H' hv' q => en.nx _ G' M' H' hv' q, fun c a G' M' H' hv' q => en.xc c a σ G' M' H' hv' q⟩
end
/-! ### a def -/
/-- what is known may be weakened at the end -/
def wkR (R : KR) : KR := fun v G M => ∃ G' M', Wk G M G' M' ∧ R v G' M'
def wkX (Z : KX) : KX := fun c d G M => ∃ G' M', Wk G M G' M' ∧ Z c d G' M'
theorem ret0 {R : KR} {v : V} {G : Hp} {M : Mem} (h : R v G M) : wkR R v G M := ⟨G, M, Wk.refl, h⟩
theorem retW {R : KR} {v : V} {G G' : Hp} {M M' : Mem} (w : Wk G M G' M') (h : R v G' M') : wkR R v G M := ⟨G', M', w, h⟩
section
variable {P : Program} {w : World} {K : PySem.W.Frag} {mg : Str → Option Value} {base : Heap}
theorem fn_ok {x qual : Str} {st : Stmt} {f : Addr} {fd : FuncData} {N ps : List Str} {k : Nat} {S : KSp} (F : Fun K x qual st f fd) (sc : FnScope N ps (defScope st)) (len : ∀ vs G M R X, S vs G M R X → vs.length = ps.length)
    (hbody : ∀ (cdv : Value) (A : Around) (outer : List Env) (s : Shared) (H : Hp) (E : XK), Room k (A.deeper (envOfC qual (defScope st) s.heap.objs.size f cdv)) →
      ∃ t, JSs (cxOf (L2.CX P w) P w K mg base N qual (defScope st) f cdv A outer s H E) (fun c d _ H => E c d H) (defBody st) t ∧
        ∀ vs G M R Z, S vs G M R Z → t { nx := fun _ G M => wkR R .non G M, rt := wkR R, xc := fun c d _ G M => wkX Z c d G M } (start N vs) G M) : FnOk P w K mg base (L2.CX P w) (k + 1) f fd ps (lift S) := by
  refine F.okX sc (fun vs H Q E ⟨G, M, R, Z, _, h, _⟩ => len vs G M R Z h) fun cdv A outer s H vs Q E hr ⟨G, M, R, Z, hv, h, hR, hZ⟩ => ?_
  obtain ⟨t, j, q⟩ := hbody cdv A outer s H E hr
  exact ⟨_, j, G, M, _, hv, q vs G M R Z h, ⟨fun σ G M H hv ⟨G', M', w, q⟩ => hR _ G' M' H (w H hv) q, fun v G M H hv ⟨G', M', w, q⟩ => hR _ G' M' H (w H hv) q, fun _ _ _ _ _ z => z.elim, fun _ _ _ _ _ z => z.elim, fun c a σ G M H hv ⟨G', M', w, q⟩ => hZ c a G' M' H (w H hv) q⟩⟩
/-- a def that keeps its promise -/
structure Def (P : Program) (w : World) (K : PySem.W.Frag) (mg : Str → Option Value) (base : Heap) (lev : Nat) (x : Str) (ps : List Str) (S : KSp) : Prop where
  ex : ∃ f fd, FnOk P w K mg base (L2.CX P w) lev f fd ps (lift S) ∧ mg x = some (.ref f) ∧ PySem.W.keepIn K (.ref f) = true ∧ Binds K fd ps []
end
section
variable {X : Cx} {W : WX} {pos p : Pos} {e : Expr} {es : List Expr} {x : Str} {k lev : Nat} {ps : List Str} {S : KSp} {t : KA}
theorem je_callD (D : Def X.prog X.w X.K X.mg X.base lev x ps S) (hr : Room k X.A) (tk : Takes X W) (ha : JA X W (e :: es) t) (hl : lev ≤ k := by decide) (hg : Gl X x := by rfl)
    (hdb : (x == ("__debug__" : Str)) = false := by decide) (he : starEach (e :: es) X.env = (false, eval e X.env) :: starEach es X.env := by rfl) (hpl : (backTo pos (starEach es X.env)).any (·.1) = false := by rfl) :
    JE X W (.Call (.Name x p) (e :: es) [] pos) (kCall S t) := by
  obtain ⟨f, fd, F, hm, hk, hb⟩ := D.ex
  exact je_call (F.mono hl) hr tk hm hk hb ha hg hdb he hpl
end
end BT
set_option Elab.async false
set_option linter.all false
set_option maxRecDepth 100000
set_option maxHeartbeats 4000000
namespace BT
open PySem PySem.Spec L2
open PyProof.Rows hiding St
/-! ### promises by the number of arguments -/
def sp1 (f : V → Hp → Mem → KR → KX → Prop) : KSp := fun vs G M R Z => match vs with
  | [x] => f x G M R Z
  | _ => False
def sp2 (f : V → V → Hp → Mem → KR → KX → Prop) : KSp := fun vs G M R Z => match vs with
  | [x, y] => f x y G M R Z
  | _ => False
def sp3 (f : V → V → V → Hp → Mem → KR → KX → Prop) : KSp := fun vs G M R Z => match vs with
  | [x, y, z] => f x y z G M R Z
  | _ => False
def sp4 (f : V → V → V → V → Hp → Mem → KR → KX → Prop) : KSp := fun vs G M R Z => match vs with
  | [x, y, z, u] => f x y z u G M R Z
  | _ => False
def sp5 (f : V → V → V → V → V → Hp → Mem → KR → KX → Prop) : KSp := fun vs G M R Z => match vs with
  | [x, y, z, u, t] => f x y z u t G M R Z
  | _ => False
section
variable {vs : List V} {G : Hp} {M : Mem} {R : KR} {Z : KX}
theorem sp1_of {f} (h : sp1 f vs G M R Z) : ∃ x, vs = [x] ∧ f x G M R Z := by
  match vs, h with
  | [x], h => exact ⟨x, rfl, h⟩
theorem sp2_of {f} (h : sp2 f vs G M R Z) : ∃ x y, vs = [x, y] ∧ f x y G M R Z := by
  match vs, h with
  | [x, y], h => exact ⟨x, y, rfl, h⟩
theorem sp3_of {f} (h : sp3 f vs G M R Z) : ∃ x y z, vs = [x, y, z] ∧ f x y z G M R Z := by
  match vs, h with
  | [x, y, z], h => exact ⟨x, y, z, rfl, h⟩
theorem sp4_of {f} (h : sp4 f vs G M R Z) : ∃ x y z u, vs = [x, y, z, u] ∧ f x y z u G M R Z := by
  match vs, h with
  | [x, y, z, u], h => exact ⟨x, y, z, u, rfl, h⟩
theorem sp5_of {f} (h : sp5 f vs G M R Z) : ∃ x y z u t, vs = [x, y, z, u, t] ∧ f x y z u t G M R Z := by
  match vs, h with
  | [x, y, z, u, t], h => exact ⟨x, y, z, u, t, rfl, h⟩
theorem sp_len1 {f} (h : sp1 f vs G M R Z) : vs.length = 1 := by obtain ⟨_, rfl, _⟩ := sp1_of h; rfl
theorem sp_len2 {f} (h : sp2 f vs G M R Z) : vs.length = 2 := by obtain ⟨_, _, rfl, _⟩ := sp2_of h; rfl
theorem sp_len3 {f} (h : sp3 f vs G M R Z) : vs.length = 3 := by obtain ⟨_, _, _, rfl, _⟩ := sp3_of h; rfl
theorem sp_len4 {f} (h : sp4 f vs G M R Z) : vs.length = 4 := by obtain ⟨_, _, _, _, rfl, _⟩ := sp4_of h; rfl
theorem sp_len5 {f} (h : sp5 f vs G M R Z) : vs.length = 5 := by obtain ⟨_, _, _, _, _, rfl, _⟩ := sp5_of h; rfl
end
/-- what a body has at its ends -/
abbrev ends (R : KR) (Z : KX) : Kd := { nx := fun _ G M => wkR R .non G M, rt := wkR R, xc := fun c d _ G M => wkX Z c d G M }
/-! ### small helps -/
section
variable {K : PySem.W.Frag} {G : Hp} {M : Mem} {a p : Addr} {xs : List V} {o : HO} {n : Nat}
theorem lst_n (h : M[n]? = some (a, .lst xs)) : SeqAt' K G M a xs := .inl (.inl (List.mem_of_getElem? h))
theorem lat_n (h : M[n]? = some (a, .lst xs)) : LstAt K G M a xs := .inl (List.mem_of_getElem? h)
theorem lst_g (h : SqL K G a xs) : SeqAt' K G M a xs := .inl (.inr h)
theorem lat_g (h : SqL K G a xs) : LstAt K G M a xs := .inr h
theorem tup_g (h : SqT K G a xs) : SeqAt' K G M a xs := .inr h
theorem at_n (h : M[n]? = some (a, o)) : At G M a o := .inl (List.mem_of_getElem? h)
theorem set_n {x : Addr × HO} (h : M[n]? = some (p, o)) : (M.set n x)[n]? = some x := List.getElem?_set_self (List.getElem?_eq_some_iff.mp h).1
theorem sqt_new {xs : List V} : SqT K (upd G p (.tup xs)) p xs := .inl (.inl upd_same)
theorem sql_new {xs : List V} : SqL K (upd G p (.lst xs)) p xs := .inl (.inl upd_same)
theorem ite2' {c : Bool} {A B : Prop} (h1 : c = true → A) (h2 : c = false → B) : if c = true then A else B := by
  cases c with
  | true => rw [if_pos rfl]; exact h1 rfl
  | false => rw [if_neg Bool.false_ne_true]; exact h2 rfl
theorem sz {n : Nat} (h : n ≤ 16777216) : n ≤ sizeLine := h
theorem tyl_n (h : M[n]? = some (a, .lst xs)) : ∀ H, Hv G M H → tyV K "list" (.ref a) H := fun H hv => .inl ⟨rfl, xs, .inl (.inl (hv.get h))⟩
theorem tyl_g (h : SqL K G a xs) : ∀ H, Hv G M H → tyV K "list" (.ref a) H := fun H hv => .inl ⟨rfl, xs, ex_l hv.exx h⟩
end
/-! ### the law's pool of numbers -/
def pool (c s : Int) : HO := .lst [.int c, .int s]
def PoolOk (s : Int) : Prop := 0 ≤ s ∧ s < 2147483647
def S_law_take (K : PySem.W.Frag) : KSp := sp2 fun x y G M R Z => ∃ (p : Addr) (m : Int) (n : Nat) (c s : Int), x = .ref p ∧ y = .int m ∧ M[n]? = some (p, pool c s) ∧ PoolOk s ∧ 0 < m ∧ m < 2 ^ 200 ∧
  ∀ r c' s', 0 ≤ r → r < m → PoolOk s' → R (.int r) G (M.set n (p, pool c' s'))
def S_law_pool (K : PySem.W.Frag) : KSp := sp2 fun x y G M R Z => ∃ (a : Addr) (ns : List Int) (k : Int), x = .ref a ∧ y = .int k ∧ SqL K G a (ns.map V.int) ∧ 0 ≤ k ∧ k ≤ 100 ∧ ns.length ≤ 63 ∧
  ∀ p c s, Fr G M p → PoolOk s → R (.ref p) G ((p, pool c s) :: M)
end BT
set_option Elab.async false
set_option linter.all false
set_option maxRecDepth 100000
set_option maxHeartbeats 4000000
namespace BT
open PySem PySem.Spec L2
open PyProof.Rows hiding St
/-! ### shapes of data -/
inductive Shp : Nat → PyData → Prop
  | non {n} : Shp n .none
  | bl {n b} : Shp n (.bool b)
  | int {n i} : Shp n (.int i)
  | str {n x} : PyData.strOk x = true → Shp n (.str x)
  | list {n ds} : (∀ d, d ∈ ds → Shp n d) → Shp (n + 1) (.list ds)
  | tuple {n ds} : (∀ d, d ∈ ds → Shp n d) → Shp (n + 1) (.tuple ds)
theorem shp_all {n : Nat} (ih : ∀ d, Shp n d → d.canLay0 = true ∧ d.depth ≤ n) : ∀ ds : List PyData, (∀ d, d ∈ ds → Shp n d) → PyData.canLayAll0 ds = true ∧ PyData.depthAll ds ≤ n
  | [], _ => by
    refine ⟨by simp [PyData.canLayAll0], by simp [PyData.depthAll]⟩
  | d :: ds, h => by
    obtain ⟨a, b⟩ := ih d (h d List.mem_cons_self)
    obtain ⟨c, e⟩ := shp_all ih ds fun x hx => h x (List.mem_cons_of_mem _ hx)
    refine ⟨by simp [PyData.canLayAll0, a, c], ?_⟩
    show max d.depth (PyData.depthAll ds) ≤ n
    omega
theorem shp_of : ∀ (n : Nat) (d : PyData), Shp n d → d.canLay0 = true ∧ d.depth ≤ n
  | n, _, .non => by refine ⟨by simp [PyData.canLay0], by simp [PyData.depth]⟩
  | n, _, .bl => by refine ⟨by simp [PyData.canLay0], by simp [PyData.depth]⟩
  | n, _, .int => by refine ⟨by simp [PyData.canLay0], by simp [PyData.depth]⟩
  | n, _, .str h => by refine ⟨by simp [PyData.canLay0, h], by simp [PyData.depth]⟩
  | n + 1, .list ds, .list h => by
    obtain ⟨a, b⟩ := shp_all (shp_of n) ds h
    refine ⟨by simp [PyData.canLay0, a], ?_⟩
    show PyData.depthAll ds + 1 ≤ n + 1
    omega
  | n + 1, .tuple ds, .tuple h => by
    obtain ⟨a, b⟩ := shp_all (shp_of n) ds h
    refine ⟨by simp [PyData.canLay0, a], ?_⟩
    show PyData.depthAll ds + 1 ≤ n + 1
    omega
theorem Shp.shaped {n : Nat} {d : PyData} (h : Shp n d) (hn : n ≤ 64) : SeqAt.shaped d = true := by
  obtain ⟨a, b⟩ := shp_of n d h
  unfold SeqAt.shaped
  rw [a, decide_eq_true (Nat.le_trans b hn)]; rfl
theorem Shp.refl {n : Nat} {d : PyData} (h : Shp n d) : PyData.eqv d d = true := by
  obtain ⟨a, b⟩ := shp_of n d h
  exact SeqAt.eqv_refl d a
theorem shp_ints {n : Nat} (ns : List Int) : Shp (n + 1) (.list (ns.map .int)) := .list fun d hd => by
  obtain ⟨i, _, rfl⟩ := List.mem_map.mp hd
  exact .int
/-! ### data known -/
section
variable {K : PySem.W.Frag} {G G' : Hp} {M : Mem} {a : Addr} {v : V} {d : PyData} {vs : List V} {ds : List PyData}
def DatAll (K : PySem.W.Frag) (G : Hp) (M : Mem) (vs : List V) (ds : List PyData) : Prop := ∀ H, Hv G M H → DpAll K H vs ds
theorem dat_g (h : Dp K G v d) : DatAt K G M v d := fun H hv => ex_d hv.exx d h
theorem dats_g (h : DpAll K G vs ds) : DatAll K G M vs ds := fun H hv => ex_ds hv.exx ds h
theorem dat_list (h : LstAt K G M a vs) (hs : DatAll K G M vs ds) : DatAt K G M (.ref a) (.list ds) := fun H hv => .lst (hv.lst h) (hs H hv)
theorem dat_tup (h : SqT K G a vs) (hs : DatAll K G M vs ds) : DatAt K G M (.ref a) (.tuple ds) := fun H hv => .tup (hv.tup h) (hs H hv)
theorem dat_int {i : Int} : DatAt K G M (.int i) (.int i) := fun H hv => .int i
theorem dat_bl {i : Bool} : DatAt K G M (.bl i) (.bool i) := fun H hv => .bl i
theorem dat_non : DatAt K G M .non .none := fun H hv => .non
theorem dat_str {i : Str} : DatAt K G M (.str i) (.str i) := fun H hv => .str i
theorem dats_nil : DatAll K G M [] [] := fun H hv => .nil
theorem dats_cons (h : DatAt K G M v d) (hs : DatAll K G M vs ds) : DatAll K G M (v :: vs) (d :: ds) := fun H hv => .cons (h H hv) (hs H hv)
theorem dpall_ints : ∀ ns : List Int, DpAll K G (ns.map V.int) (ns.map PyData.int)
  | [] => .nil
  | n :: ns => .cons (.int n) (dpall_ints ns)
theorem dats_ints {ns : List Int} : DatAll K G M (ns.map V.int) (ns.map PyData.int) := fun H hv => dpall_ints ns
theorem dat_ints {ns : List Int} (h : LstAt K G M a (ns.map V.int)) : DatAt K G M (.ref a) (.list (ns.map .int)) := dat_list h dats_ints
theorem dp_ints {ns : List Int} (h : SqL K G a (ns.map V.int)) : Dp K G (.ref a) (.list (ns.map .int)) := .lst h (dpall_ints ns)
theorem dpall_snoc : ∀ {vs : List V} {ds : List PyData}, DpAll K G vs ds → Dp K G v d → DpAll K G (vs ++ [v]) (ds ++ [d])
  | _, _, .nil, h => .cons h .nil
  | _, _, .cons a b, h => .cons a (dpall_snoc b h)
theorem dpall_len : ∀ {vs : List V} {ds : List PyData}, DpAll K G vs ds → vs.length = ds.length
  | _, _, .nil => rfl
  | _, _, .cons _ b => by simp [dpall_len b]
theorem dpall_get : ∀ {vs : List V} {ds : List PyData} {i : Nat} {d : PyData}, DpAll K G vs ds → ds[i]? = some d → ∃ v, vs[i]? = some v ∧ Dp K G v d
  | _, _, _, _, .nil, e => by simp at e
  | _, _, 0, _, .cons a _, e => by
    rw [List.getElem?_cons_zero] at e
    cases e; exact ⟨_, rfl, a⟩
  | _, _, i + 1, d, .cons _ b, e => by
    obtain ⟨v, h1, h2⟩ := dpall_get (i := i) (d := d) b (by simpa using e)
    exact ⟨v, by simpa using h1, h2⟩
theorem dpall_get' : ∀ {vs : List V} {ds : List PyData} {i : Nat} {v : V}, DpAll K G vs ds → vs[i]? = some v → ∃ d, ds[i]? = some d ∧ Dp K G v d
  | _, _, _, _, .nil, e => by simp at e
  | _, _, 0, _, .cons a _, e => by
    rw [List.getElem?_cons_zero] at e
    cases e; exact ⟨_, rfl, a⟩
  | _, _, i + 1, d, .cons _ b, e => by
    obtain ⟨v, h1, h2⟩ := dpall_get' (i := i) (v := d) b (by simpa using e)
    exact ⟨v, by simpa using h1, h2⟩
theorem dpall_one {x : V} {i : PyData} (h : DpAll K G [x] [i]) : Dp K G x i := by
  cases h with
  | cons a b => exact a
theorem dp_int_inv {i : Int} (h : Dp K G v (.int i)) : v = .int i := by cases h; rfl
theorem dp_tup_inv (h : Dp K G v (.tuple ds)) : ∃ t xs, v = .ref t ∧ SqT K G t xs ∧ DpAll K G xs ds := by
  cases h with
  | tup s a => exact ⟨_, _, rfl, s, a⟩
theorem dp_list_inv (h : Dp K G v (.list ds)) : ∃ t xs, v = .ref t ∧ SqL K G t xs ∧ DpAll K G xs ds := by
  cases h with
  | lst s a => exact ⟨_, _, rfl, s, a⟩
theorem dpall_ints_inv : ∀ {vs : List V} {ns : List Int}, DpAll K G vs (ns.map .int) → vs = ns.map V.int
  | _, [], h => by cases h; rfl
  | _, n :: ns, h => by
    cases h with
    | cons a b =>
      have e := dp_int_inv a
      subst e
      rw [dpall_ints_inv b]; rfl
end
/-! ### pairs of ints -/
def prD (p : Int × Int) : PyData := .tuple [.int p.1, .int p.2]
theorem dp_pr_inv {K : PySem.W.Frag} {G : Hp} {v : V} {p : Int × Int} (h : Dp K G v (prD p)) : ∃ t, v = .ref t ∧ SqT K G t [.int p.1, .int p.2] := by
  obtain ⟨t, xs, rfl, s, a⟩ := dp_tup_inv h
  have e : xs = [V.int p.1, V.int p.2] := dpall_ints_inv (ns := [p.1, p.2]) a
  rw [e] at s
  exact ⟨t, rfl, s⟩
theorem dp_pr {K : PySem.W.Frag} {G : Hp} {t : Addr} {a b : Int} (h : SqT K G t [.int a, .int b]) : Dp K G (.ref t) (prD (a, b)) := .tup h (.cons (.int a) (.cons (.int b) .nil))
theorem shp_prs {n : Nat} (ps : List (Int × Int)) : Shp (n + 2) (.list (ps.map prD)) := .list fun d hd => by
  obtain ⟨p, _, rfl⟩ := List.mem_map.mp hd
  refine .tuple fun d hd => ?_
  rcases List.mem_cons.mp hd with rfl | hd
  · exact .int
  · rcases List.mem_cons.mp hd with rfl | hd
    · exact .int
    · cases hd
/-! ### lists of ints by place -/
section
theorem atI_int {ns : List Int} {k : Int} (h0 : 0 ≤ k) (h1 : k < ns.length) : atI (ns.map V.int) k = some (.int (ns.getD k.toNat 0)) := by
  obtain ⟨j, rfl⟩ : ∃ j : Nat, k = j := ⟨k.toNat, by omega⟩
  have hj : j < ns.length := by omega
  refine atI_nat ?_
  rw [List.getElem?_map, List.getElem?_eq_getElem hj, Int.toNat_natCast, List.getD_eq_getElem?_getD, List.getElem?_eq_getElem hj]; rfl
theorem ixN_int {n : Nat} {k : Int} (h0 : 0 ≤ k) (h1 : k < n) : ixN n k = some k.toNat := by
  unfold ixN
  rw [if_pos h0, if_pos h1]
theorem map_set_int {ns : List Int} {j : Nat} {i : Int} : (ns.map V.int).set j (.int i) = (ns.set j i).map V.int := by rw [List.map_set]
theorem lat_cons {K : PySem.W.Frag} {G : Hp} {M : Mem} {a : Addr} {xs : List V} {x : Addr × HO} (h : LstAt K G M a xs) : LstAt K G (x :: M) a xs := by
  rcases h with h | h
  · exact .inl (List.mem_cons_of_mem _ h)
  · exact .inr h
theorem lat_ex {K : PySem.W.Frag} {G G' : Hp} {M : Mem} {a : Addr} {xs : List V} (e : Ex G G') (h : LstAt K G M a xs) : LstAt K G' M a xs := by
  rcases h with h | h
  · exact .inl h
  · exact .inr (ex_l e h)
theorem lat_0 {K : PySem.W.Frag} {G : Hp} {M : Mem} {a : Addr} {xs : List V} : LstAt K G ((a, .lst xs) :: M) a xs := .inl List.mem_cons_self
theorem seq_0 {K : PySem.W.Frag} {G : Hp} {M : Mem} {a : Addr} {xs : List V} : SeqAt' K G ((a, .lst xs) :: M) a xs := .inl lat_0
theorem isi_list {K : PySem.W.Frag} {G : Hp} {M : Mem} {a : Addr} {xs : List V} {R : KR} {n : Nat} (h : M[n]? = some (a, .lst xs)) (q : R (.bl true) G M) : kIsi K [.ref a, .ty "list"] G M R :=
  ⟨.type "list", .type "list", true, .ty "list", fun H hv => .base (.lst (hv.get h)), kit_ty (by decide +kernel), q⟩
theorem mul_l {i j : Int} (h0 : -(2 ^ 64) < i) (h1 : i < 2 ^ 64) : MulOk i j := .inl (.inl ⟨h0, h1⟩)
theorem mul_r {i j : Int} (h0 : -(2 ^ 64) < j) (h1 : j < 2 ^ 64) : MulOk i j := .inl (.inr ⟨h0, h1⟩)
theorem divW {m : Int} (h0 : 0 < m) (h1 : m < 2 ^ 200) (c : Int) : CDivW c m := wide_div (b := 200) h0 (by omega) (by decide) (by decide)
theorem sz0 : (0 : Nat) ≤ sizeLine := by decide
theorem sz1 : (1 : Nat) ≤ sizeLine := by decide
theorem sz2 : (2 : Nat) ≤ sizeLine := by decide
theorem sz3 : (3 : Nat) ≤ sizeLine := by decide
theorem sz4 : (4 : Nat) ≤ sizeLine := by decide
theorem sz5 : (5 : Nat) ≤ sizeLine := by decide
theorem sz6 : (6 : Nat) ≤ sizeLine := by decide
theorem sz7 : (7 : Nat) ≤ sizeLine := by decide
theorem sz8 : (8 : Nat) ≤ sizeLine := by decide
theorem pow10_18 : CPow 10 18 := ⟨by decide, by decide, by decide⟩
end
end BT
namespace BT
open PySem PySem.Spec L2
section
variable {K : PySem.W.Frag} {G : Hp} {M : Mem} {a b : Addr} {vs ws : List V} {i : Nat} {v u : V} {g : KG} {σ : St} {R : St → Hp → Mem → Prop}
theorem asg_L (h : vs[i]? = some v) (q : g.val v σ G M R) : asg g ((srcL K a vs).get i) σ G M R := by
  show g.val (vs.getD i .non) σ G M R
  rw [getD_of h]; exact q
theorem asg_T (h : vs[i]? = some v) (q : g.val v σ G M R) : asg g ((srcT K a vs).get i) σ G M R := by
  show g.val (vs.getD i .non) σ G M R
  rw [getD_of h]; exact q
theorem asg_V (h : vs[vs.length - 1 - i]? = some v) (q : g.val v σ G M R) : asg g ((srcV K a vs).get i) σ G M R := by
  show g.val (vs.getD (vs.length - 1 - i) .non) σ G M R
  rw [getD_of h]; exact q
theorem asg_E (h : vs[i]? = some v) (q : g.tup [.int i, v] σ G M R) : asg g ((srcE K a vs).get i) σ G M R := by
  show g.tup [.int i, vs.getD i .non] σ G M R
  rw [getD_of h]; exact q
theorem asg_Z (h : vs[i]? = some v) (h2 : ws[i]? = some u) (q : g.tup [v, u] σ G M R) : asg g ((srcZ K a b vs ws).get i) σ G M R := by
  show g.tup [vs.getD i .non, ws.getD i .non] σ G M R
  rw [getD_of h, getD_of h2]; exact q
theorem dpall_at {ds : List PyData} {d : PyData} (h : DpAll K G vs ds) (e : ds[i]? = some d) : ∃ v, vs[i]? = some v ∧ Dp K G v d := dpall_get h e
end
end BT
namespace BT
open PySem PySem.Spec L2
/-- a cell becomes frozen -/
theorem frz {G : Hp} {M : Mem} {p : Addr} (o : HO) (h : Fr G M p) : ∃ G', Ex G G' ∧ G' p = some o ∧ Wk G ((p, o) :: M) G' M ∧ ∀ q M0, Fr G M0 q → q ≠ p → Fr G' M0 q :=
  ⟨upd G p o, Ex.new h, upd_same, Wk.frz0, fun q M0 f hq => ⟨by rw [upd_ne hq]; exact f.1, f.2⟩⟩
theorem Wk.nil' {G : Hp} {M : Mem} : Wk G M G [] := fun H h => ⟨h.ex, fun _ z => (nomatch z), List.nodup_nil, fun _ z => (nomatch z)⟩
theorem sql_of {K : PySem.W.Frag} {G : Hp} {a : Addr} {xs : List V} (h : G a = some (.lst xs)) : SqL K G a xs := .inl (.inl h)
theorem sqt_of {K : PySem.W.Frag} {G : Hp} {a : Addr} {xs : List V} (h : G a = some (.tup xs)) : SqT K G a xs := .inl (.inl h)
theorem Fr.cons {G : Hp} {M : Mem} {p : Addr} {x : Addr × HO} (h : Fr G (x :: M) p) : Fr G M p := ⟨h.1, fun y hy => h.2 y (List.mem_cons_of_mem _ hy)⟩
end BT
set_option Elab.async false
set_option linter.all false
set_option maxRecDepth 100000
set_option maxHeartbeats 4000000
namespace BT
open PySem PySem.Spec L2
open PyProof.Rows hiding St
/-- the slots at a body's start -/
def sta (n : Nat) (vs : List V) : St := vs.map some ++ List.replicate (n - vs.length) none
/-! ### ranges with a step -/
theorem rg_up {i j c : Int} (hc : 0 < c) (hc2 : c < 1000000) (hi : -1000000000000 < i) (hi2 : i < 1000000000000) (hj : -1000000000000 < j) (hj2 : j < 1000000000000) :
    RgC i j c (if i < j then ((j - i - 1) / c + 1).toNat else 0) := by
  have e : Builtin.Range.rangeSize i j c = if i < j then (j - i - 1) / c + 1 else 0 := by
    unfold Builtin.Range.rangeSize
    rw [if_pos hc]
  have hb : 0 ≤ (j - i - 1) / c ∨ ¬ i < j := by
    by_cases h : i < j
    · exact .inl (Int.ediv_nonneg (by omega) (by omega))
    · exact .inr h
  have hb2 : (j - i - 1) / c ≤ 2000000000000 ∨ ¬ i < j := by
    by_cases h : i < j
    · left
      have := Int.ediv_le_self c (show 0 ≤ j - i - 1 by omega)
      omega
    · exact .inr h
  refine ⟨by omega, by omega, ?_, ?_⟩
  · unfold Builtin.Range.small
    rw [e]
    simp only [Builtin.Range.rangeFitsLong, Bool.and_eq_true, Bool.or_eq_true, decide_eq_true_eq, beq_iff_eq, hc, gt_iff_lt, if_true]
    by_cases h : i < j
    · rw [if_pos h]; omega
    · rw [if_neg h]; omega
  · rw [e]
    by_cases h : i < j
    · rw [if_pos h, if_pos h]; omega
    · rw [if_neg h, if_neg h]; rfl
theorem rg_down {i j : Int} (hi : -1000000000000 < i) (hi2 : i < 1000000000000) (hj : -1000000000000 < j) (hj2 : j < 1000000000000) : RgC i j (-1) (i - j).toNat :=
  RgC.neg (by omega) (by omega) (by omega) (by omega)
section
variable {X : Cx} {W : WX} {pos : Pos} {a b c e : Expr} {es : List Expr}
/-! ### sorted, xs[::-1] -/
def kSorted (K : PySem.W.Frag) : KC := fun vs G M R => match vs with
  | [.ref a] => ∃ ns : List Int, LstAt K G M a (ns.map V.int) ∧ ∀ (ns' : List Int) (p : Addr), ns'.Perm ns → ns'.Pairwise (· ≤ ·) → Fr G M p → R (.ref p) G ((p, .lst (ns'.map V.int)) :: M)
  | _ => False
theorem kc_sorted : KCall X (.builtin "sorted") (kSorted X.K) := kcall_of cr_sortedI fun vs G M R H Q hv h hR => by
  match vs, h with
  | [.ref a], ⟨ns, h1, h2⟩ => exact ⟨a, ns, rfl, hv.lst h1, fun ns' p q1 q2 q3 => hR _ G _ _ (hv.newM q3) (h2 ns' p q1 q2 (hv.fr q3))⟩
def kRevL (K : PySem.W.Frag) : V → Hp → Mem → KR → Prop := fun x G M R => match x with
  | .ref a => ∃ xs, LstAt K G M a xs ∧ ∀ p, Fr G M p → R (.ref p) G ((p, .lst xs.reverse) :: M)
  | _ => False
theorem je_revl {t : KE} {k : Nat} {p1 p2 p3 : Pos} (he : JE X W e t) : JE X W (.Subscript e (.Slice none none (some (.UnaryOp .USub (.Constant (.int 1) k p1) p2)) p3) pos) (kUn (kRevL X.K) t) :=
  pe_mono (pe_revL he) fun σ H Q ⟨G, M, R, E, hv, h, hR, hE⟩ => ⟨G, M, _, E, hv, h, fun x G1 M1 H1 hv1 h1 => by
    match x, h1 with
    | .ref a, ⟨xs, q1, q2⟩ => exact ⟨a, xs, rfl, hv1.lst q1, fun p hp => hR _ G1 _ _ (hv1.newM hp) (q2 p (hv1.fr hp))⟩, hE⟩
/-! ### in, not in: flat things in a list or a tuple -/
def kIn (neg : Bool) (K : PySem.W.Frag) : KR2 := fun x y G M R => match y with
  | .ref a => ∃ xs, SeqAt' K G M a xs ∧ flatV x = true ∧ xs.all flatV = true ∧ R (.bl (if neg then !inV x xs else inV x xs)) G M
  | _ => False
theorem kop_in : KOp X (compareOp .In) (kIn false X.K) := kop_of op_in_seq fun x y G M R H Q hv h hR => by
  match y, h with
  | .ref a, ⟨xs, h1, h2, h3, h4⟩ => exact ⟨a, xs, rfl, h1.elim (fun q => .inl (hv.lst q)) (fun q => .inr (hv.tup q)), h2, h3, hR _ G M H hv h4⟩
theorem kop_notin : KOp X (compareOp .NotIn) (kIn true X.K) := kop_of op_notIn_seq fun x y G M R H Q hv h hR => by
  match y, h with
  | .ref a, ⟨xs, h1, h2, h3, h4⟩ => exact ⟨a, xs, rfl, h1.elim (fun q => .inl (hv.lst q)) (fun q => .inr (hv.tup q)), h2, h3, hR _ G M H hv h4⟩
/-! ### list.index, list.insert, tuple(xs), bool(x), list(range) -/
def kIndex (K : PySem.W.Frag) : KM := fun x vs G M R => match x, vs with
  | .ref a, [y] => ∃ ys j z, LstAt K G M a ys ∧ flatV y = true ∧ ys.all flatV = true ∧ ys[j]? = some z ∧ eqV z y = true ∧ (∀ m z', m < j → ys[m]? = some z' → eqV z' y = false) ∧ R (.int (j : Nat)) G M
  | _, _ => False
end
end BT
namespace BT
open PySem PySem.Spec L2
open PyProof.Rows hiding St
theorem rg_mul {i c : Int} {n : Nat} (hc : 0 < c) (hc2 : c < 1000000) (hi : -1000000000 < i) (hi2 : i < 1000000000) (hn : n < 100000) : RgC i (i + c * n) c n := by
  have hm : c * n < 100000000000 := by
    have h1 : c * (n : Int) ≤ 1000000 * (n : Int) := Int.mul_le_mul_of_nonneg_right (by omega) (by omega)
    omega
  have hm0 : 0 ≤ c * n := Int.mul_nonneg (by omega) (by omega)
  have q := rg_up (i := i) (j := i + c * n) hc hc2 (by omega) (by omega) (by omega) (by omega)
  have e : (if i < i + c * n then ((i + c * n - i - 1) / c + 1).toNat else 0) = n := by
    cases n with
    | zero => rw [if_neg (by simp)]
    | succ k =>
      have hk : 0 < c * ((k + 1 : Nat) : Int) := Int.mul_pos hc (by omega)
      rw [if_pos (by omega)]
      have e1 : i + c * ((k + 1 : Nat) : Int) - i - 1 = (c - 1) + c * (k : Int) := by
        rw [show ((k + 1 : Nat) : Int) = (k : Int) + 1 by omega, Int.mul_add]; omega
      rw [e1, ((Int.ediv_emod_unique hc).mpr ⟨rfl, by omega, by omega⟩).1]
      omega
  rw [e] at q
  exact q
theorem fn_false {P : Program} {w : World} {K : PySem.W.Frag} {mg : Str → Option Value} {base : Heap} {CX : CXT} {k : Nat} {f : Addr} {fd : FuncData} {ps : List Str} {S : KSp} (h : ∀ vs G M R Z, ¬ S vs G M R Z) : FnOk P w K mg base CX k f fd ps (lift S) :=
  ⟨fun vs H Q E ⟨G, M, R, Z, _, q, _⟩ => (h vs G M R Z q).elim, fun A outer s H args us vs Q E _ _ _ _ ⟨G, M, R, Z, _, q, _⟩ => (h vs G M R Z q).elim⟩
theorem cx_none {P : Program} {w : World} {l : List Env} {H : Hp} {s : Shared} {e : Value} {s' : Shared} (h : L2.CX P w l H s (fun _ _ _ => False) e s') : False := by
  obtain ⟨_, _, _, _, _, _, _, _, _, _, _, _, z⟩ := h
  exact z.elim
/-- a law's promise -/
def S_law (K : PySem.W.Frag) : KSp := sp1 fun x G M R Z => ∃ (a : Addr) (ns : List Int), x = .ref a ∧ SqL K G a (ns.map V.int) ∧ ns.length ≤ 63 ∧ ∀ G' M', R (.bl true) G' M'
theorem law_start {K : PySem.W.Frag} {H : Hp} {a : Addr} {ns : List Int} (hl : ns.length ≤ 63) (hS : SqL K H a (ns.map V.int)) : lift (S_law K) [.ref a] H (fun v _ => v = .bl true) fun _ _ _ => False :=
  ⟨H, [], fun v _ _ => v = .bl true, fun _ _ _ _ => False, Hv.self H, ⟨a, ns, rfl, hS, hl, fun _ _ => rfl⟩, fun _ _ _ _ _ h => h, fun _ _ _ _ _ _ z => z⟩
end BT
namespace BT
open PySem PySem.Spec L2
open PyProof.Rows hiding St
/-! ### is of None and of truths -/
def kIs2 (neg : Bool) : KR2 := fun x y G M R => match x, y with
  | .bl a, .bl b => R (.bl (if neg then !decide (a = b) else decide (a = b))) G M
  | x, .non => R (.bl (if neg then !decide (x = .non) else decide (x = .non))) G M
  | _, _ => False
theorem kop_is2 {X : Cx} : KOp X (compareOp .Is) (kIs2 false) := fun pins s σ H x y v u Q G M R I rx ry hv h hR => by
  cases y <;> cases x <;> first
    | exact op_isBl pins s σ H _ _ v u Q I rx ry ⟨_, _, rfl, rfl, hR _ G M H hv h⟩
    | exact op_isN pins s σ H _ _ v u Q I rx ry ⟨rfl, hR _ G M H hv h⟩
    | exact h.elim
theorem kop_isnot2 {X : Cx} : KOp X (compareOp .IsNot) (kIs2 true) := fun pins s σ H x y v u Q G M R I rx ry hv h hR => by
  cases y <;> cases x <;> first
    | exact op_notBl pins s σ H _ _ v u Q I rx ry ⟨_, _, rfl, rfl, hR _ G M H hv h⟩
    | exact op_notN pins s σ H _ _ v u Q I rx ry ⟨rfl, hR _ G M H hv h⟩
    | exact h.elim
/-! ### types of values -/
inductive PT | int | bool | non | str | list | tuple | dict
  deriving DecidableEq
def PT.name : PT → String
  | .int => "int" | .bool => "bool" | .non => "NoneType" | .str => "str" | .list => "list" | .tuple => "tuple" | .dict => "dict"
def TyK (K : PySem.W.Frag) (G : Hp) (M : Mem) (x : V) (T : PT) : Prop := ∀ H, Hv G M H → TyX K H x (.type T.name)
section
variable {K : PySem.W.Frag} {G : Hp} {M : Mem} {a : Addr} {xs : List V} {n : Nat}
theorem ty_int {i : Int} : TyK K G M (.int i) .int := fun H hv => .base (.int i)
theorem ty_bl {i : Bool} : TyK K G M (.bl i) .bool := fun H hv => .base (.bl i)
theorem ty_non : TyK K G M .non .non := fun H hv => .base .non
theorem ty_str {i : Str} : TyK K G M (.str i) .str := fun H hv => .base (.str i)
theorem ty_lst (h : LstAt K G M a xs) : TyK K G M (.ref a) .list := fun H hv => by
  rcases hv.lst h with (z | ⟨o, z⟩) | ⟨o, its, m, z1, z2, _⟩
  · exact .base (.lst z)
  · exact .base (.frz z)
  · exact .kList z1 z2
theorem ty_tup (h : SqT K G a xs) : TyK K G M (.ref a) .tuple := fun H hv => by
  rcases hv.tup h with (z | ⟨o, z⟩) | ⟨o, its, m, z1, z2, _⟩
  · exact .base (.tup z)
  · exact .fTuple z
  · exact .kTuple z1 z2
theorem ty_dict {kvs : List (Key × V)} (h : At G M a (.dK kvs)) : TyK K G M (.ref a) .dict := fun H hv => .base (.dK (hv.at h))
/-- isinstance(x, T): both answers -/
def isaB (T U : PT) : Bool := T == U || (T == .bool && U == .int)
theorem kit_pt (T U : PT) : PySem.W.kitOne K (.type T.name) (.type U.name) = some (isaB T U) := by
  cases T <;> cases U <;> exact kit_ty (by decide +kernel)
theorem isi_pt {x : V} {T : PT} {R : KR} (U : PT) (h : TyK K G M x T) (q : R (.bl (isaB T U)) G M) : kIsi K [x, .ty U.name] G M R :=
  ⟨.type T.name, .type U.name, _, .ty U.name, h, kit_pt T U, q⟩
end
end BT
namespace BT
open PySem PySem.Spec L2
/-! ### steps by name -/
section
variable {D : Kd} {σ : St} {G : Hp} {M : Mem} {i : Nat} {te ta tb : KE}
theorem kset_of (h : te σ G M (fun v G M => D.nx (σ.set i (some v)) G M) (D.x σ)) : kSet i te D σ G M := h
theorem kret_of (h : te σ G M D.rt (D.x σ)) : kRet te D σ G M := h
theorem kexpr_of (h : te σ G M (fun _ G M => D.nx σ G M) (D.x σ)) : kExpr te D σ G M := h
theorem kbin_of {β : Type} {k : V → V → Hp → Mem → (β → Hp → Mem → Prop) → Prop} {R : β → Hp → Mem → Prop} {E : KX} (h : ta σ G M (fun x G M => tb σ G M (fun y G M => k x y G M R) E) E) : kBin k ta tb σ G M R E := h
theorem kcb_of {k : KC} {t : KA} {R : KR} {E : KX} (h : t σ G M (fun vs G M => k vs G M R) E) : kCB k t σ G M R E := h
theorem kcons_of {t : KE} {u : KA} {R : List V → Hp → Mem → Prop} {E : KX} (h : t σ G M (fun x G M => u σ G M (fun xs G M => R (x :: xs) G M) E) E) : kCons t u σ G M R E := h
end
end BT
set_option Elab.async false
set_option linter.all false
set_option maxRecDepth 100000
set_option maxHeartbeats 4000000
namespace BT
open PySem PySem.Spec L2
open PyProof.Rows hiding St
/-! ### own errors: raised, caught, held -/
/-- the address of a class, by its name -/
def cl (K : PySem.W.Frag) (x : Str) : Addr := match PySem.W.nsIn K mainGlobals x with
  | some (some (.ref a)) => a
  | _ => 0
theorem cl_of {K : PySem.W.Frag} {x : Str} {C : Addr} (a : PySem.W.nsIn K mainGlobals x = some (some (.ref C))) : cl K x = C := by
  unfold cl
  rw [a]
/-- a class that is known -/
structure XG (K : PySem.W.Frag) (mg : Str → Option Value) (x : Str) : Prop where
  g : mg x = some (.ref (cl K x))
  k : PySem.W.keepIn K (.ref (cl K x)) = true
/-- a class without own __init__ under ValueError, to be raised -/
structure XR (K : PySem.W.Frag) (x : Str) : Prop where
  n : PySem.W.excIn K (cl K x) [.type "ValueError", .type "Exception", .type "BaseException", .type "object"] "ValueError.__new__" = true
  b : PySem.W.subIn K (.ref (cl K x)) (.type "BaseException") = some true
  t : PySem.W.typeIn K (.ref (cl K x)) = some (.type "type")
theorem xg_mk {K : PySem.W.Frag} {mg : Str → Option Value} {h : Heap} {x : Str} {C : Addr} (X : K.In h) (G : h.Ns mainGlobals mg) (a : PySem.W.nsIn K mainGlobals x = some (some (.ref C))) (k : PySem.W.keepIn K (.ref C) = true) : XG K mg x := by
  have e := cl_of a
  exact ⟨by rw [e]; exact PySem.W.mg_of X G a, by rw [e]; exact k⟩
theorem xr_mk {K : PySem.W.Frag} {x : Str} {C : Addr} (a : PySem.W.nsIn K mainGlobals x = some (some (.ref C)))
    (q : PySem.W.excIn K C [.type "ValueError", .type "Exception", .type "BaseException", .type "object"] "ValueError.__new__" = true)
    (b : PySem.W.subIn K (.ref C) (.type "BaseException") = some true) (t : PySem.W.typeIn K (.ref C) = some (.type "type")) : XR K x := by
  have e := cl_of a
  exact ⟨by rw [e]; exact q, by rw [e]; exact b, by rw [e]; exact t⟩
theorem xe_mk {K : PySem.W.Frag} {x : Str} {C : Addr} (a : PySem.W.nsIn K mainGlobals x = some (some (.ref C))) (q : ExcC K C) : ExcC K (cl K x) := by
  rw [cl_of a]
  exact q
section
variable {X : Cx} {W : WX} {pos : Pos}
/-- raise C('m') -/
def kRaise (K : PySem.W.Frag) (x : Str) : KS := fun D σ G M => D.xc (.ref (cl K x)) none σ G M
theorem js_raise {x m : Str} {j : Nat} {p p2 pos2 : Pos} (g : XG X.K X.mg x) (r : XR X.K x) (tk : Takes X W) (hc : X.calm = true := by rfl) (hg : Gl X x := by rfl) (hdb : (x == ("__debug__" : Str)) = false := by decide) :
    JS X W (.Raise (some (.Call (.Name x p) [.Constant (.str m) j p2] [] pos2)) none pos) (kRaise X.K x) :=
  ps_mono (ps_raise hc tk (pmk_own PySem.F.excBase_ValueError r.n g.g g.k (raises_own r.b r.t) hg hdb)) fun D σ H ⟨G, M, d, hv, h, en⟩ => en.xc _ _ _ _ _ _ hv h

/-- a caught error that is held: its class and its dict -/
def ExT (cls : Value) (d : Option Addr) (a : Addr) : HO := .ext fun h => ∃ (oe : Obj) (vs : Array Value), h.get? a = some oe ∧ Zc cls d oe ∧ oe.data = .fields vs
theorem exT_ok {P : Program} {w : World} {H : Hp} {h : Heap} {a : Addr} {cls : Value} {d : Option Addr} {oe : Obj} {vs : Array Value} (e : h.get? a = some oe) (z : Zc cls d oe) (q : oe.data = .fields vs) : ObjOk P w H h a (ExT cls d a) :=
  ⟨⟨oe, vs, e, z, q⟩, ⟨oe, e⟩, fun _ _ ⟨o, v, q, r⟩ k => ⟨o, v, k o q, r⟩⟩
/-- an object that nobody tracked is tracked from here on -/
theorem inv_track {pins : List (Addr × Obj)} {σ : St} {H : Hp} {s : Shared} {a : Addr} {o : HO} (I : Inv X pins σ H s) (n : H a = none) (n0 : X.s_0.heap.get? a = none) (nl : a ≠ X.env.locals)
    (nc : ∀ y c, X.env.cells.lookup y = some c → c ≠ a) (np : ∀ p ∈ X.pn ++ pins, p.1 ≠ a) (new : ObjOk X.prog X.w (upd H a o) s.heap a o) : Inv X pins σ (upd H a o) s := by
  have ne : ∀ b u, H b = some u → b ≠ a := fun b u e z => by
    rw [z, n] at e
    cases e
  refine ⟨I.ok, I.os, I.bare, ⟨I.base.keep, I.base.slot, fun b u e m x => ?_, I.base.there, fun b xs e => ?_, fun b u v e => ?_, fun b ps e => ?_⟩, I.loc, I.cell, ?_, fun y c e => ?_, fun p hp => ?_, fun b u e => ?_, I.len⟩
  · rw [upd_ne (fun z => by rw [z, n0] at e; cases e)]
    exact I.base.free b u e m x
  · have q := I.base.tups b xs e
    rw [upd_ne (ne b _ q)]
    exact q
  · have q := I.base.frzs b u v e
    rw [upd_ne (ne b _ q)]
    exact q
  · obtain ⟨m, q⟩ := I.base.tbls b ps e
    exact ⟨m, by rw [upd_ne (ne b _ q)]; exact q⟩
  · rw [upd_ne (Ne.symm nl)]
    exact I.free
  · rw [upd_ne (nc y c e)]
    exact I.freeC y c e
  · obtain ⟨p1, p2, p3, p4, p5⟩ := I.pin p hp
    exact ⟨p1, by rw [upd_ne (np p hp)]; exact p2, p3, p4, p5⟩
  · by_cases hb : b = a
    · subst hb
      rw [upd_same] at e
      cases e
      exact new
    · rw [upd_ne hb] at e
      exact (I.hok b u e).stay (fun c v _ q => q) (fun c q => by rw [upd_ne (ne c _ q)]; exact q) fun c xs q => by rw [upd_ne (ne c _ q)]; exact q
end

/-- what 'except x as n: y = n' wishes of an error of the body -/
def wKeep (K : PySem.W.Frag) (c : Value) (i j : Nat) (Wout : WX) (D : Ends) : WX := fun cls d σ H => ∃ b, PySem.W.exmOne K cls c = some b ∧
  (b = true → ∀ a, H a = none → D.nx (((σ.set i (some (.ref a))).set j (some (.ref a))).set i none) (upd H a (ExT cls d a))) ∧ (b = false → Wout cls d σ H)
section
variable {X : Cx} {x n y : Str} {c : Value} {i j : Nat} {body : List Stmt} {np pos pos' q1 q2 q3 : Pos} {tb : WX → TS} {Wout : WX}
theorem ps_try_keep (hs : X.stack = X.env :: X.outer) (hf : X.env.frame = some X.env.locals) (hx : X.ex = []) (hN : X.N.Nodup) (hi : X.N[i]? = some n) (hj : X.N[j]? = some y) (hln : X.env.kindOf n = some .local) (hlj : Loc X.env.scope y) (hij : i ≠ j)
    (hfy : X.fn y = true ∨ X.env.scope.names.lookup y = some .local) (hdn : (n == ("__debug__" : Str)) = false) (hcn : (n == ("__classdict__" : Str)) = false)
    (hsw : swapsWith (.Name n q2) (some (.Name y q1)) q3.line X.env = pure false) (hc : Names X x c) (tk : Takes X Wout)
    (hb : ∀ (W : WX) (pn : List (Addr × Obj)) (xe : Value → Shared → Prop), Takes (X.tr pn xe) W → PassesOwn (model X.prog X.w) X.A X.env xe → PSs (X.tr pn xe) body (tb W)) :
    PS X (.Try body [.ExceptHandler (some (.Name x np)) (some n) [.Assign [.Name y q1] (.Name n q2) q3] pos'] [] [] pos) (fun D σ H => tb (wKeep X.K c i j Wout D) D σ H) := by
  refine ⟨fun pins s σ H D I h => ?_⟩
  have ok := I.ok
  have fr0 : X.A.frames = some (X.env :: X.outer) := by rw [ok.frames, hs]
  refine wpAny_Try_except ?_
  refine wpAny_mono ((hb (wKeep X.K c i j Wout D) (X.pn ++ pins) _ (fun u s' xx => ?_) PassesOwn.looking).run [] s σ H D (I.toTry _) h) (fun f s1 hsp => ?_) (fun e s1 he => he)
  · obtain ⟨a, B, sI, pins', σ', H', cls, d, rfl, J', nb, up, sky, na, os, ag, b, hb1, hyes, hno⟩ := xx
    have J : Inv X pins σ' H' sI := J'.ofTry ok
    have sky2 : Sky B (X.env :: X.outer) a (Zc cls d) X.env.locals s'.heap := by
      rw [← hs]
      exact sky
    show wpAny (model X.prog X.w) X.A (noteFrame (.ref a) X.env) _ _ _
    refine Sky.land Zc.steady fr0 hf sky2 fun h3 fl3 up3 => ?_
    have J3 : Inv X pins σ' H' { s' with heap := h3 } := J.landed nb fl3.1 (up.trans up3) os ag
    obtain ⟨oe3, vs3, he3, hz3, hd3⟩ := fl3.there
    have nfr : a ∉ frs (X.env :: X.outer) := fun hm => by
      obtain ⟨_, o', e', hnf⟩ := fl3.2.2.1.mem hm
      rw [he3] at e'
      cases e'
      exact hnf _ hd3
    have nL : a ≠ X.env.locals := fun z => nfr (List.mem_filterMap.mpr ⟨X.env, List.mem_cons_self, by rw [hf, z]⟩)
    have nF : a ∉ X.fs := fun hm => by
      obtain ⟨e, he, q⟩ := List.mem_filterMap.mp hm
      exact nfr (List.mem_filterMap.mpr ⟨e, List.mem_cons_of_mem _ he, q⟩)
    have nI : sI.heap.get? a = none := by
      cases e : sI.heap.get? a with
      | none => rfl
      | some o =>
        have z := nb a o e (by rw [hs]; exact nfr)
        rw [fl3.2.1] at z
        cases z
    have n0 : X.s_0.heap.get? a = none := by
      cases e : X.s_0.heap.get? a with
      | none => rfl
      | some o =>
        obtain ⟨o', z⟩ := J.base.there a o e (by rw [hx]; exact fun z => nomatch z)
        rw [nI] at z
        cases z
    have nc : ∀ w c, X.env.cells.lookup w = some c → c ≠ a := fun w c e z => by
      obtain ⟨v, o, ho, _⟩ := J.cell w c e
      rw [z, nI] at ho
      cases ho
    have npn : ∀ p ∈ X.pn ++ pins, p.1 ≠ a := fun p hp z => by
      obtain ⟨q, _⟩ := J.pin p hp
      rw [z, nI] at q
      cases q
    have S3 := J3.suite he3 hd3 na nL nF
    refine wpAny_handleBy_cons (codeAny_handlers_test ?_) (by intro q; cases q)
    have LT : PySem.W.Looks (model X.prog X.w) h3 (typeOf (.ref a)) cls := fun A Q E s k q => wpAny_typeOf_ref (k _ _ he3) (by rw [hz3.1]; exact q)
    have LM := PySem.W.exm_one (M := model X.prog X.w) (J3.kIn) LT hb1
    have look : ∀ {Q : Value → Shared → Prop} {E : Value → Shared → Prop}, Q c { s' with heap := h3 } → wpAny (model X.prog X.w) (X.A.mark (some (.ref a))) (eval (.Name x np) X.env) Q E { s' with heap := h3 } := fun {Q E} q => by
      obtain ⟨hg, hdbg, hm | ⟨hm, hv, hnn⟩⟩ := hc
      · exact ld_glob (X := X.suite a ((a, oe3) :: (X.pn ++ pins))) S3 hg hm q hdbg
      · exact ld_blt (X := X.suite a ((a, oe3) :: (X.pn ++ pins))) S3 hg hm hv q hnn hdbg
    refine look (LM.here ?_)
    cases b with
    | true =>
      refine codeAny_handlers_suite_as ?_
      refine HandSPX.lands_againZ fl3 fun h4 fl4 up4 => ?_
      have J4 : Inv X pins σ' H' { s' with heap := h4 } := J.landed nb fl4.1 ((up.trans up3).trans up4) os ag
      obtain ⟨oe4, vs4, he4, hz4, hd4⟩ := fl4.there
      have S4 := J4.suite he4 hd4 na nL nF
      refine store_ok (X := X.suite a ((a, oe4) :: (X.pn ++ pins))) (v := .ref a) S4 hN hi (.inl hln) rfl (fun s5 S5 => ?_) (.inr hln)
      have lenσ : σ'.length = X.N.length := J.len
      have hiσ : i < σ'.length := by
        rw [lenσ]
        exact (List.getElem?_eq_some_iff.mp hi).1
      have P1 : PSs (X.suite a ((a, oe4) :: (X.pn ++ pins))) [.Assign [.Name y q1] (.Name n q2) q3] (tSeq (tAsg (tVar i) (gName j)) tNext) :=
        pss_cons (ps_set hN hj hlj (pe_var hi (.inl hln) hdn hcn) hsw hfy) pss_nil
      refine wpAny_mono (P1.run [] s5 (σ'.set i (some (.ref a))) H' { nx := fun σ6 H6 => σ6 = (σ'.set i (some (.ref a))).set j (some (.ref a)) ∧ H6 = H', rt := fun _ _ => False, bk := fun _ _ => False, ct := fun _ _ => False } S5 ?_) (fun f s6 hsp => ?_) (fun _ _ z => False.elim z)
      · exact ⟨.ref a, by rw [List.getElem?_set_self hiσ], rfl, rfl⟩
      · cases f with
        | next =>
          obtain ⟨σ6, H6, S6, rfl, rfl⟩ := hsp
          refine gone_ok (X := X.suite a ((a, oe4) :: (X.pn ++ pins))) S6 hN hi hln fun s7 S7 => ?_
          obtain ⟨k1, k2, _⟩ := S7.pin (a, oe4) (List.mem_append.mpr (.inl List.mem_cons_self))
          exact ⟨_, _, inv_track (S7.unsuite ok) na n0 nL nc npn (exT_ok k1 hz4 hd4), hyes rfl a na⟩
        | brk => obtain ⟨_, _, _, z⟩ := hsp; exact z.elim
        | cont => obtain ⟨_, _, _, z⟩ := hsp; exact z.elim
        | ret u => obtain ⟨_, _, _, _, _, z⟩ := hsp; exact z.elim
    | false =>
      show wpAny _ X.A (handleBy (.ref a) X.env []) _ _ _
      refine wpAny_handleBy_nil ?_
      obtain ⟨k1, k2, k3, oe, vs, T, oT, ts', he, hz, hd, h1, hr⟩ := id fl3
      unfold PySem.passOn
      refine wpAny_bind (wpAny_field he hd h1 ?_)
      rw [if_neg (show ¬ ((Value.ref T == Value.none) = true) from by simp)]
      have fin : wpAny (model X.prog X.w) X.A (setFlight (.ref a) X.env.frame) (fun _ s4 => wpAny (model X.prog X.w) X.A (throw (.ref a) : Sem Flow) (SP X pins D) X.xe s4) X.xe { s' with heap := h3 } := by
        rw [hf]
        refine HandSPX.setFlight_upZ fl3 fun h4 hh4 up4 => wpAny_throw (tk _ _ ?_)
        exact ⟨a, B, sI, pins, σ', H', cls, d, rfl, J, nb, (up.trans up3).trans up4, .inr (.inr (by rw [hs]; exact hh4)), na, os, ag, hno rfl⟩
      first
        | exact wpAny_bind (wpAny_pure (wpAny_bind fin))
        | exact wpAny_bind fin
  · cases f with
    | next => obtain ⟨σ', H', J', q⟩ := hsp; exact wpAny_execs_nil ⟨σ', H', J'.ofTry ok, q⟩
    | brk => obtain ⟨σ', H', J', q⟩ := hsp; exact ⟨σ', H', J'.ofTry ok, q⟩
    | cont => obtain ⟨σ', H', J', q⟩ := hsp; exact ⟨σ', H', J'.ofTry ok, q⟩
    | ret u => obtain ⟨v, σ', H', J', r, q⟩ := hsp; exact ⟨v, σ', H', J'.ofTry ok, r, q⟩
end
/-! ### the readings -/
/-- an error of the class named x, held at a -/
def ErA (K : PySem.W.Frag) (x : Str) (d : Option Addr) (a : Addr) : HO := ExT (.ref (cl K x)) d a
/-- try: t, except C as n (slot i): y = n (slot j); the classes that the law knows, and whether they stand under C -/
def kTry (K : PySem.W.Frag) (tab : List (Str × Bool)) (i j : Nat) (t : KS) : KS := fun D σ G M => t { D with xc := fun c d σ' G' M' => ∃ p ∈ tab, c = .ref (cl K p.1) ∧
  (if p.2 = true then ∀ a, Fr G' M' a → D.nx (((σ'.set i (some (.ref a))).set j (some (.ref a))).set i none) (upd G' a (ErA K p.1 d a)) M' else D.xc c d σ' G' M') } σ G M
section
variable {X : Cx} {W : WX} {pos : Pos}
theorem js_try {K : PySem.W.Frag} {x n y : Str} {i j : Nat} {tab : List (Str × Bool)} {body : List Stmt} {t : KS} {np pos' q1 q2 q3 : Pos} (g : XG X.K X.mg x) (ht : ∀ p ∈ tab, PySem.W.exmOne X.K (.ref (cl X.K p.1)) (.ref (cl X.K x)) = some p.2) (hN : X.N.Nodup) (tk : Takes X W)
    (hb : ∀ (W : WX) (pn : List (Addr × Obj)) (xe : Value → Shared → Prop), Takes (X.tr pn xe) W → PassesOwn (model X.prog X.w) X.A X.env xe → JSs (X.tr pn xe) W body t)
    (hK : X.K = K := by rfl) (hs : X.stack = X.env :: X.outer := by rfl) (hf : X.env.frame = some X.env.locals := by rfl) (hx : X.ex = [] := by rfl) (hi : X.N[i]? = some n := by rfl) (hj : X.N[j]? = some y := by rfl)
    (hln : X.env.kindOf n = some .local := by rfl) (hlj : Loc X.env.scope y := by first | exact Or.inl rfl | exact Or.inr rfl) (hij : i ≠ j := by decide)
    (hfy : X.fn y = true ∨ X.env.scope.names.lookup y = some .local := by first | exact .inl rfl | exact .inr rfl) (hdn : (n == ("__debug__" : Str)) = false := by decide) (hcn : (n == ("__classdict__" : Str)) = false := by decide)
    (hsw : swapsWith (.Name n q2) (some (.Name y q1)) q3.line X.env = pure false := by rfl) (hg : Gl X x := by rfl) (hxd : (x == ("__debug__" : Str)) = false := by decide) :
    JS X W (.Try body [.ExceptHandler (some (.Name x np)) (some n) [.Assign [.Name y q1] (.Name n q2) q3] pos'] [] [] pos) (kTry K tab i j t) := by
  subst hK
  refine ps_mono (ps_try_keep (c := .ref (cl X.K x)) (tb := fun W => upS W t) hs hf hx hN hi hj hln hlj hij hfy hdn hcn hsw ⟨hg, hxd, .inl g.g⟩ tk hb) fun D σ H ⟨G, M, d, hv, h, en⟩ => ?_
  refine ⟨G, M, _, hv, h, ⟨en.nx, en.rt, en.bk, en.ct, fun c e σ' G' M' H' hv' q => ?_⟩⟩
  obtain ⟨p, hp, rfl, q⟩ := q
  refine ⟨p.2, ht p hp, fun hb a na => ?_, fun hb => ?_⟩
  · rw [if_pos hb] at q
    exact en.nx _ _ _ _ (hv'.newG na) (q a (hv'.fr na))
  · rw [if_neg (by rw [hb]; exact Bool.false_ne_true)] at q
    exact en.xc _ _ _ _ _ _ hv' q
/-- isinstance(v, C), where v is an error that is held, or None -/
def kIsX (K : PySem.W.Frag) (c : V) (tab : List (Str × Bool)) : KC := fun vs G M R => match vs with
  | [.non, c'] => c' = c ∧ R (.bl false) G M
  | [.ref a, c'] => c' = c ∧ ∃ p ∈ tab, At G M a (ErA K p.1 none a) ∧ R (.bl p.2) G M
  | _ => False
theorem kc_isX {tab : List (Str × Bool)} {c : V} {cv : Value} (hcv : ClsV c cv) (hn : PySem.W.kitOne X.K (.type "NoneType") cv = some false)
    (ht : ∀ p ∈ tab, ExcC X.K (cl X.K p.1) ∧ PySem.W.kitOne X.K (.ref (cl X.K p.1)) cv = some p.2) : KCall X (.builtin "isinstance") (kIsX X.K c tab) := by
  intro pins s σ H xs us Q I r h
  obtain ⟨G, M, R, hv, h, hR⟩ := h
  match xs, h with
  | [.non, c'], h2 =>
    obtain ⟨rfl, h3⟩ := h2
    exact (call_isi (X := X)) pins s σ H [.non, c'] _ Q I r ⟨_, _, .type "NoneType", _, false, rfl, hcv, .base .non, hn, hR _ _ _ _ hv h3⟩
  | [.ref a, c'], h2 =>
    obtain ⟨rfl, p, hp, ha, h3⟩ := h2
    cases r with
    | cons rx rr =>
      cases rr with
      | cons rt rr =>
        cases rr
        have ec := hcv.eq rt
        subst ec
        cases rx
        obtain ⟨C, e⟩ := ht p hp
        have hH : H a = some (ErA X.K p.1 none a) := hv.at ha
        obtain ⟨⟨oe, vs, hget, hz, hd⟩, _, _⟩ := I.hok a _ hH
        have J : PySem.W.InstAt s.heap a oe (cl X.K p.1) none := by
          obtain ⟨oc, od, oda, osl⟩ := oe
          obtain ⟨h1, h2⟩ := hz
          dsimp only at h1 h2 hd
          subst h1 h2 hd
          exact ⟨hget, rfl, rfl, trivial⟩
        exact PySem.W.kia_one (PySem.W.handS_kitx_exc C.hg C.hk C.hs C.hd C.ha C.hn C.ht C.hm) I.kIn J e (fun z => nomatch z) fun tk => ⟨.bl p.2, H, I.kept (t' := tk) fun _ _ z => z, rfl, hR _ _ _ _ hv h3⟩
/-- the name of an own class -/
theorem je_cls {K : PySem.W.Frag} {x : Str} {pos : Pos} (g : XG X.K X.mg x) (hK : X.K = K := by rfl) (hg : Gl X x := by rfl) (hd : (x == ("__debug__" : Str)) = false := by decide) : JE X W (.Name x pos) (kC (.ref (cl K x))) := by
  subst hK
  exact je_glob g.g rfl hg hd
end
theorem kop_shlW {X : Cx} : KOp X (binaryOp .LShift) (kI CShl fun i j => .int (i * 2 ^ j.toNat)) := kop_I op_shlW
theorem excX {R : KR} {Z : KX} {c : Value} {d : Option Addr} {σ : St} {G : Hp} {M : Mem} (h : Z c d G M) : (ends R Z).xc c d σ G M := ⟨G, M, Wk.refl, h⟩
theorem kit_ref {K : PySem.W.Frag} {t : Value} {C : Addr} {b : Bool} (hc : PySem.W.hasDictIn K C = true) (ht : PySem.W.typeIn K (.ref C) = some (.type "type")) (hs : PySem.W.subIn K (.ref C) (.ref C) = some true) (h : PySem.W.subIn K t (.ref C) = some b) :
    PySem.W.kitOne K t (.ref C) = some b := by
  unfold PySem.W.kitOne
  by_cases e : (t == .ref C) = true
  · rw [if_pos e]
    have e2 : t = .ref C := beq_iff_eq.mp e
    rw [e2, hs] at h
    exact h
  · rw [if_neg e]
    obtain ⟨cd, hcd, _⟩ := PySem.W.any_some hc
    have e1 : ((PySem.W.clsIn K C).isSome && PySem.W.typeIn K (.ref C) == some (.type "type")) = true := by rw [hcd, ht] <;> rfl
    show (if ((PySem.W.clsIn K C).isSome && PySem.W.typeIn K (.ref C) == some (.type "type")) = true then PySem.W.subIn K t (.ref C) else none) = some b
    rw [if_pos e1]
    exact h
theorem kit_tyV {K : PySem.W.Frag} {t : Value} {T : String} {b : Bool} (hm : PySem.W.kitMeta T = true) (hne : (t == .type T) = false) (h : PySem.W.subIn K t (.type T) = some b) : PySem.W.kitOne K t (.type T) = some b := by
  unfold PySem.W.kitOne
  rw [if_neg (by rw [hne]; exact Bool.false_ne_true)]
  show (if PySem.W.kitMeta T = true then PySem.W.subIn K t (.type T) else none) = some b
  rw [if_pos hm]
  exact h
end BT
set_option Elab.async false
set_option linter.all false
set_option maxRecDepth 100000
set_option maxHeartbeats 4000000
namespace BT
open PySem PySem.Spec L2
open PyProof.Rows hiding St
section
variable {X : Cx} {W : WX} {pos p : Pos} {a b : Expr}
/-! ### list(range(..)) -/
def rgL (i j : Int) (G : Hp) (M : Mem) (R : KR) : Prop := RgOk i j ∧ ∀ q, Fr G M q → R (.ref q) G ((q, .lst (rgV i j)) :: M)
def kListR1 (t : KE) : KE := fun σ G M R E => t σ G M (fun x G M => match x with
  | .int n => rgL 0 n G M R
  | _ => False) E
def kListR2 (t u : KE) : KE := fun σ G M R E => t σ G M (fun x G M => u σ G M (fun y G M => match x, y with
  | .int i, .int j => rgL i j G M R
  | _, _ => False) E) E
theorem je_listR1 {t : KE} {p2 pos2 : Pos} (hl : X.mg "list" = none) (hr : X.mg "range" = none) (ha : JE X W a t) (hc : X.calm = true := by rfl) (h1 : Gl X "list" := by rfl) (h2 : Gl X "range" := by rfl)
    (na : starEach [a] X.env = (false, eval a X.env) :: starEach [] X.env := by rfl) (nb : starEach [.Call (.Name "range" p2) [a] [] pos2] X.env = (false, eval (.Call (.Name "range" p2) [a] [] pos2) X.env) :: starEach [] X.env := by rfl) :
    JE X W (.Call (.Name "list" p) [.Call (.Name "range" p2) [a] [] pos2] [] pos) (kListR1 t) :=
  pe_mono (pe_listRg hc h1 hl (prg_1 h2 hr ha na) nb) fun σ H Q ⟨G, M, R, E, hv, h, hR, hE⟩ => ⟨G, M, _, E, hv, h, fun x G1 M1 H1 hv1 q => by
    match x, q with
    | .int n, ⟨q1, q2⟩ => exact ⟨n, rfl, q1, fun w hw => hR _ G1 _ _ (hv1.newM hw) (q2 w (hv1.fr hw))⟩, hE⟩
theorem je_listR2 {t u : KE} {p2 pos2 : Pos} (hl : X.mg "list" = none) (hr : X.mg "range" = none) (ha : JE X W a t) (hb : JE X W b u) (hc : X.calm = true := by rfl) (h1 : Gl X "list" := by rfl) (h2 : Gl X "range" := by rfl)
    (na : starEach [a, b] X.env = (false, eval a X.env) :: starEach [b] X.env := by rfl) (nb : starEach [b] X.env = (false, eval b X.env) :: starEach [] X.env := by rfl) (hp : (backTo pos2 (starEach [b] X.env)).any (·.1) = false := by rfl)
    (nc : starEach [.Call (.Name "range" p2) [a, b] [] pos2] X.env = (false, eval (.Call (.Name "range" p2) [a, b] [] pos2) X.env) :: starEach [] X.env := by rfl) :
    JE X W (.Call (.Name "list" p) [.Call (.Name "range" p2) [a, b] [] pos2] [] pos) (kListR2 t u) :=
  pe_mono (pe_listRg hc h1 hl (prg_2 h2 hr ha hb na nb hp) nc) fun σ H Q ⟨G, M, R, E, hv, h, hR, hE⟩ => ⟨G, M, _, E, hv, h, fun x G1 M1 H1 hv1 q => ⟨G1, M1, _, E, hv1, q, fun y G2 M2 H2 hv2 q => by
    match x, y, q with
    | .int i, .int j, ⟨q1, q2⟩ => exact ⟨i, j, rfl, rfl, q1, fun w hw => hR _ G2 _ _ (hv2.newM hw) (q2 w (hv2.fr hw))⟩, hE⟩, hE⟩
/-! ### an empty dict -/
def kDNew : KE := fun _ G M R _ => ∀ q, Fr G M q → R (.ref q) G ((q, .dK []) :: M)
theorem je_dnew : JE X W (.Dict [] [] pos) kDNew := pe_mono pe_dnewK fun σ H Q ⟨G, M, R, E, hv, h, hR, hE⟩ => fun w hw => hR _ G _ _ (hv.newM hw) (h w (hv.fr hw))
/-! ### constants of the module -/
theorem je_const {x : Str} {v : V} (h : ∃ u, X.mg x = some u ∧ RelV v u) (hg : Gl X x := by rfl) (hd : (x == ("__debug__" : Str)) = false := by decide) : JE X W (.Name x pos) (kC v) := by
  obtain ⟨u, hm, r⟩ := h
  exact je_glob hm r hg hd
/-- a tuple of texts that the module holds -/
def kConT (K : PySem.W.Frag) (x : Str) (xs : List V) : KE := fun _ G M R _ => (∀ H, SqT K H (cl K x) xs) → R (.ref (cl K x)) G M
structure XT (K : PySem.W.Frag) (mg : Str → Option Value) (x : Str) (xs : List V) : Prop where
  g : mg x = some (.ref (cl K x))
  s : ∀ H, SqT K H (cl K x) xs
theorem je_conT {K : PySem.W.Frag} {x : Str} {xs : List V} (h : XT X.K X.mg x xs) (hK : X.K = K := by rfl) (hg : Gl X x := by rfl) (hd : (x == ("__debug__" : Str)) = false := by decide) : JE X W (.Name x pos) (kConT K x xs) := by
  subst hK
  exact pe_mono (je_glob (W := W) (v := .ref (cl X.K x)) h.g rfl hg hd) fun σ H Q ⟨G, M, R, E, hv, q, hR, hE⟩ => ⟨G, M, R, E, hv, q h.s, hR, hE⟩
end
theorem vals_abs : ∀ {us : List Value} {xs : List V}, us.map absV = xs.map some → (∀ x, x ∈ xs → (∃ i, x = .int i) ∨ ∃ s, x = .str s) → Vals xs us
  | [], [], _, _ => .nil
  | [], _ :: _, h, _ => by cases h
  | _ :: _, [], h, _ => by cases h
  | u :: us, x :: xs, h, hx => by
    rw [List.map_cons, List.map_cons] at h
    injection h with h1 h2
    refine .cons ?_ (vals_abs h2 fun y hy => hx y (List.mem_cons_of_mem _ hy))
    rcases hx x List.mem_cons_self with ⟨i, rfl⟩ | ⟨s, rfl⟩
    · cases u <;> simp only [absV] at h1 <;> first | (cases h1; done) | (injection h1 with h1; first | (cases h1; exact ⟨_, rfl⟩) | cases h1)
    · cases u <;> simp only [absV] at h1 <;> first | (cases h1; done) | (injection h1 with h1; first | (cases h1; exact ⟨_, rfl⟩) | cases h1)
theorem xt_mk {K : PySem.W.Frag} {mg : Str → Option Value} {h : Heap} {x : Str} {C : Addr} {xs : List V} {od : Option Addr} {its : Array Value} {n : Nat} {sl : Array (Option Value)} (X : K.In h) (G : h.Ns mainGlobals mg) (a : PySem.W.nsIn K mainGlobals x = some (some (.ref C)))
    (l : K.lookup C = some ⟨.type "tuple", od, .seq its n, sl⟩) (e : its.toList.map absV = xs.map some) (hx : ∀ x, x ∈ xs → (∃ i, x = .int i) ∨ ∃ s, x = .str s) (hs : its.size ≤ 1000) : XT K mg x xs := by
  have ec := cl_of a
  refine ⟨by rw [ec]; exact PySem.W.mg_of X G a, fun H => ?_⟩
  rw [ec]
  exact .inr ⟨_, its, n, l, rfl, rfl, Nat.le_trans hs (by decide), vals_abs e hx⟩
/-! ### sum of a tuple -/
section
variable {prog : Program} {w : World} {A : Around} {E : Value → Shared → Prop} {s : Shared} {l : Addr} {its : List Value} {ns : List Int} {Q : Value → Shared → Prop}
theorem sum_tupT (hh : A.handled = none) (hl : s.heap.IsTuple l its.toArray) (hi : IntsAre its ns)
    (h : ∀ h' tk t', (∀ b o, s.heap.get? b = some o → h'.get? b = some o) → Q (.int ns.sum t') { s with heap := h', toks := tk }) : wpAny (model prog w) A (call (.builtin "sum") [.ref l]) Q E s := by
  obtain ⟨xs, e⟩ := hi.allInts.items
  have hn : numsOf (intItems xs).toList = ns := by rw [← e]; exact hi.numsOf
  rw [nums_intItems] at hn
  rw [e] at hl
  have hlt : l < s.heap.objs.size := by obtain ⟨_, e, _⟩ := hl; exact Heap.lt_size e
  refine call_sum_walkG (wpAny_pyIter_tuple hl ?_)
  refine ⟨_, _, _, _, _, _, numAt xs, rfl, Walks.tuple (A := A.in1) hh _ l (Nat.ne_of_lt hlt) (intItems xs), ⟨⟨_, Heap.get?_push_size _ rfl, rfl, rfl⟩, hl.push _⟩, fun b hb => ?_, (fun _ _ => intItems_at), fun h' tk t' hk => ?_⟩
  · show b < (s.heap.push _).objs.size
    rw [Heap.size_push]
    simp only [List.mem_cons, List.not_mem_nil, or_false] at hb
    rcases hb with z | z
    · rw [z]; exact Nat.lt_succ_self _
    · rw [z]; exact Nat.lt_succ_of_lt hlt
  · have := h h' tk t' fun b o eb => hk b o (fun hm => absurd (Heap.lt_size eb) ((List.mem_singleton.mp hm) ▸ Nat.lt_irrefl _)) (Heap.get?_push_of_some _ eb)
    have e2 : preSum (numAt xs) (intItems xs).size = ns.sum := by
      rw [preSum_eq, List.take_of_length_le (by simp [intItems]), hn]
    rw [e2]; exact this
end
section
variable {X : Cx}
def kSumS (K : PySem.W.Frag) : KC := fun vs G M R => match vs with
  | [.ref a] => ∃ ns : List Int, SeqAt' K G M a (ns.map V.int) ∧ R (.int ns.sum) G M
  | _ => False
theorem kc_sumS (hc : X.calm = true := by rfl) : KCall X (.builtin "sum") (kSumS X.K) := by
  intro pins s σ H vs us Q I r h
  obtain ⟨G, M, R, hv, h, hR⟩ := h
  match vs, h with
  | [.ref a], ⟨ns, h1, h2⟩ =>
    rcases h1 with h1 | h1
    · exact cr_sum hc pins s σ H [.ref a] us Q I r ⟨a, ns, rfl, hv.lst h1, hR _ _ _ _ hv h2⟩
    · obtain ⟨its, rv, ht, _⟩ := I.tuple (ex_t hv.exx h1)
      rw [Vals.ref1 r]
      exact sum_tupT (I.ok.hd hc) ht rv.ints fun h' tk t' hk => ⟨.int _, H, I.kept hk, ⟨_, rfl⟩, hR _ _ _ _ hv h2⟩
end
end BT
set_option Elab.async false
set_option linter.all false
set_option maxRecDepth 100000
set_option maxHeartbeats 4000000
namespace BT
open PySem PySem.Spec L2
open PyProof.Rows hiding St
/-! ### len(set(xs)) of ints -/
theorem dedup_len : ∀ (l acc : List Int), (l.foldl step_dedup acc).length ≤ acc.length + l.length
  | [], acc => Nat.le_refl _
  | x :: l, acc => by
    have h := dedup_len l (step_dedup acc x)
    rw [step_length] at h
    rw [List.foldl_cons, List.length_cons]
    split at h <;> omega
theorem dedup_eq : ∀ (l acc : List Int), (l.foldl step_dedup acc).length = acc.length + l.length ↔ (l.Nodup ∧ ∀ x, x ∈ l → x ∉ acc)
  | [], acc => by simp
  | x :: l, acc => by
    rw [List.foldl_cons, List.length_cons]
    by_cases hx : acc.any (· == x) = true
    · have hm : x ∈ acc := by simpa using hx
      have h := dedup_len l (step_dedup acc x)
      rw [step_length, if_pos hx] at h
      constructor
      · intro e; omega
      · intro e; exact absurd hm (e.2 x List.mem_cons_self)
    · have hm : x ∉ acc := by simpa using hx
      have e1 : step_dedup acc x = acc ++ [x] := by unfold step_dedup; rw [if_neg hx]
      have ih := dedup_eq l (acc ++ [x])
      rw [List.length_append, List.length_singleton] at ih
      rw [e1, show acc.length + (l.length + 1) = acc.length + 1 + l.length by omega, ih, List.nodup_cons]
      constructor
      · rintro ⟨a, b⟩
        refine ⟨⟨fun z => b x z (by simp), a⟩, fun y hy => ?_⟩
        rcases List.mem_cons.mp hy with rfl | hy
        · exact hm
        · exact fun z => b y hy (List.mem_append.mpr (.inl z))
      · rintro ⟨⟨a, b⟩, c⟩
        refine ⟨b, fun y hy z => ?_⟩
        rcases List.mem_append.mp z with z | z
        · exact c y (List.mem_cons_of_mem _ hy) z
        · have : y = x := by simpa using z
          subst this; exact a hy
theorem range_getD (ns : List Int) : (List.range ns.length).map (fun i => ns.getD i 0) = ns := by
  apply List.ext_getElem (by simp)
  intro i h1 h2
  simp [List.getD_eq_getElem?_getD, List.getElem?_eq_getElem h2]
section
variable {X : Cx} {W : WX}
def kLenSet (K : PySem.W.Frag) (t : KE) : KE := fun σ G M R E => t σ G M (fun x G M => match x with
  | .ref a => ∃ ns : List Int, LstAt K G M a (ns.map V.int) ∧ ns.length ≤ 4000 ∧ ∀ m : Nat, m ≤ ns.length → (m = ns.length ↔ ns.Nodup) → R (.int m) G M
  | _ => False) E
theorem je_lenSet {a : Expr} {ta : KE} {p p2 q pos : Pos} (hm : X.mg "len" = none) (hm2 : X.mg "set" = none) (ha : JE X W a ta) (hc : X.calm = true := by rfl) (hg : Gl X "len" := by rfl) (hg2 : Gl X "set" := by rfl)
    (na : starEach [a] X.env = (false, eval a X.env) :: starEach [] X.env := by rfl) : JE X W (.Call (.Name "len" p) [.Call (.Name "set" p2) [a] [] q] [] pos) (kLenSet X.K ta) := by
  refine ⟨fun pins s σ H Q I ⟨G, M, R, E, hv, h, hR, hE⟩ => ?_⟩
  refine Call_ (ld_blt I hg hm PySem.boot_len ?_)
  refine PyProof.Rows.callWith_builtin1 (PyProof.Rows.args_cons ?_ rfl) rfl rfl
  refine Call_ (ld_blt I hg2 hm2 PyProof.Rows.boot_set ?_)
  refine PyProof.Rows.callWith_type1 (PyProof.Rows.args_cons (thn (ha.run pins s σ H (fun x H1 => ∃ (l : Addr) (ns : List Int), x = V.ref l ∧ SqL X.K H1 l (ns.map V.int) ∧ ns.length ≤ 4000 ∧ ∀ m : Nat, m ≤ ns.length → (m = ns.length ↔ ns.Nodup) → Q (.int m) H1) I ?_) fun v s1 ⟨x, H1, I1, r1, q1⟩ => PyProof.Rows.args_nil ?_) na) na rfl
  · refine ⟨G, M, _, E, hv, h, fun x G1 M1 H1 hv1 q => ?_, hE⟩
    match x, q with
    | .ref a, ⟨ns, q1, q2, q3⟩ => exact ⟨a, ns, rfl, hv1.lst q1, q2, fun m e1 e2 => hR _ G1 M1 H1 hv1 (q3 m e1 e2)⟩
  obtain ⟨l, ns, rfl, hq, h1, q1⟩ := q1
  cases r1
  obtain ⟨its, r, pl, hz⟩ := I1.list hq
  have hl : its.toArray.size = ns.length := by rw [List.size_toArray, ← r.length, List.length_map]
  refine call_set_list (I1.ok.hd hc) pl.isList (ns := ns) (by simpa using r.ints) (by unfold scanBound; omega) fun h' tk hS hk => ?_
  rw [hl] at hS
  have em : firstMet (fun i => ns.getD i 0) ns.length = ns.foldl step_dedup [] := by
    unfold firstMet; rw [range_getD]
  rw [em] at hS
  have hle := dedup_len ns []
  have heq := dedup_eq ns []
  rw [List.length_nil, Nat.zero_add] at hle heq
  refine PyProof.Rows.args_nil ?_
  obtain ⟨o, es, ep, t, ho, hex, hd, _, _, _, hf, hn⟩ := hS
  have I2 : Inv X pins σ H1 { s1 with heap := h', toks := tk } := I1.kept fun b o e => hk b o (Heap.lt_size e) e
  refine call_len_set ho hex hd hf (by rw [hn] <;> omega) ⟨.int _, H1, I2.tok _, ⟨_, by rw [hn]⟩, q1 _ hle (heq.trans ⟨fun z => z.1, fun z => ⟨z, fun x _ => by simp⟩⟩)⟩
/-! ### reversed(range(..)) -/
def revR (i j : Int) (R : Src → Hp → Mem → Prop) (G : Hp) (M : Mem) : Prop := (-(2 ^ 62) ≤ i ∧ i < 2 ^ 62 ∧ -(2 ^ 62) ≤ j ∧ j < 2 ^ 62) ∧ R (srcC (i + (((j - i).toNat : Nat) : Int) - 1) (-1) (j - i).toNat) G M
def kiRv1 (t : KE) : KI := fun σ G M R E => t σ G M (fun x G M => match x with
  | .int n => revR 0 n R G M
  | _ => False) E
def kiRv2 (t u : KE) : KI := fun σ G M R E => t σ G M (fun x G M => u σ G M (fun y G M => match x, y with
  | .int i, .int j => revR i j R G M
  | _, _ => False) E) E
theorem ji_rv1 {a tg : Expr} {t : KE} {p p2 pos pos2 : Pos} (hv : X.mg "reversed" = none) (hr : X.mg "range" = none) (ha : JE X W a t) (h1 : Gl X "reversed" := by rfl) (h2 : Gl X "range" := by rfl)
    (na : starEach [a] X.env = (false, eval a X.env) :: starEach [] X.env := by rfl) (nb : starEach [.Call (.Name "range" p2) [a] [] pos2] X.env = (false, eval (.Call (.Name "range" p2) [a] [] pos2) X.env) :: starEach [] X.env := by rfl) :
    JI X W tg (.Call (.Name "reversed" p) [.Call (.Name "range" p2) [a] [] pos2] [] pos) (kiRv1 t) :=
  pi_mono (pi_revR h1 hv (prg_1 h2 hr ha na) nb) fun σ H Q ⟨G, M, R, E, hv, h, hR, hE⟩ => ⟨G, M, _, E, hv, h, fun x G1 M1 H1 hv1 q => by
    match x, q with
    | .int n, ⟨⟨q1, q2, q3, q4⟩, q5⟩ => exact ⟨n, rfl, q1, q2, q3, q4, hR _ G1 M1 H1 hv1 q5 _ goes_C⟩, hE⟩
theorem ji_rv2 {a b tg : Expr} {t u : KE} {p p2 pos pos2 : Pos} (hv : X.mg "reversed" = none) (hr : X.mg "range" = none) (ha : JE X W a t) (hb : JE X W b u) (h1 : Gl X "reversed" := by rfl) (h2 : Gl X "range" := by rfl)
    (na : starEach [a, b] X.env = (false, eval a X.env) :: starEach [b] X.env := by rfl) (nb : starEach [b] X.env = (false, eval b X.env) :: starEach [] X.env := by rfl) (hp : (backTo pos2 (starEach [b] X.env)).any (·.1) = false := by rfl)
    (nc : starEach [.Call (.Name "range" p2) [a, b] [] pos2] X.env = (false, eval (.Call (.Name "range" p2) [a, b] [] pos2) X.env) :: starEach [] X.env := by rfl) :
    JI X W tg (.Call (.Name "reversed" p) [.Call (.Name "range" p2) [a, b] [] pos2] [] pos) (kiRv2 t u) :=
  pi_mono (pi_revR h1 hv (prg_2 h2 hr ha hb na nb hp) nc) fun σ H Q ⟨G, M, R, E, hv, h, hR, hE⟩ => ⟨G, M, _, E, hv, h, fun x G1 M1 H1 hv1 q => ⟨G1, M1, _, E, hv1, q, fun y G2 M2 H2 hv2 q => by
    match x, y, q with
    | .int i, .int j, ⟨⟨q1, q2, q3, q4⟩, q5⟩ => exact ⟨i, j, rfl, rfl, q1, q2, q3, q4, hR _ G2 M2 H2 hv2 q5 _ goes_C⟩, hE⟩, hE⟩
/-! ### index, insert, pop, clear, tuple(), bool() -/
theorem km_index : KMt X "list.index" (kIndex X.K) := kmt_of mt_index fun x vs G M R H Q hv h hR => by
  match x, vs, h with
  | .ref a, [y], ⟨ys, j, z, h1, h2, h3, h4, h5, h6, h7⟩ => exact ⟨a, ys, y, j, z, rfl, rfl, hv.lst h1, h2, h3, h4, h5, h6, hR _ G M H hv h7⟩
def kInsert : KM := fun x vs G M R => match x, vs with
  | .ref a, [.int i, y] => ∃ n xs, M[n]? = some (a, .lst xs) ∧ xs.length < sizeLine ∧ 0 ≤ i ∧ i < 2 ^ 63 ∧ R .non G (M.set n (a, .lst (xs.take i.toNat ++ [y] ++ xs.drop i.toNat)))
  | _, _ => False
theorem km_insert : KMt X "list.insert" kInsert := kmt_of mt_insert fun x vs G M R H Q hv h hR => by
  match x, vs, h with
  | .ref a, [.int i, y], ⟨n, xs, h1, h2, h3, h4, h5⟩ => exact ⟨a, xs, i, y, rfl, rfl, hv.get h1, h2, h3, h4, hR _ G _ _ (hv.set h1) h5⟩
def kTuple (K : PySem.W.Frag) : KC := fun vs G M R => match vs with
  | [.ref a] => (∃ xs, LstAt K G M a xs ∧ ∀ p, Fr G M p → R (.ref p) (upd G p (.tup xs)) M) ∨ ∃ xs, SqT K G a xs ∧ R (.ref a) G M
  | _ => False
theorem kc_tuple : KCall X (.type "tuple") (kTuple X.K) := kcall_of call_tuple_of fun vs G M R H Q hv h hR => by
  match vs, h with
  | [.ref a], .inl ⟨xs, h1, h2⟩ => exact ⟨a, xs, rfl, .inl ⟨hv.lst h1, fun p hp => hR _ _ M _ (hv.newG hp) (h2 p (hv.fr hp))⟩⟩
  | [.ref a], .inr ⟨xs, h1, h2⟩ => exact ⟨a, xs, rfl, .inr ⟨hv.tup h1, hR _ G M H hv h2⟩⟩
def kBool : KC := fun vs G M R => match vs with
  | [.int i] => R (.bl (i != 0)) G M
  | [.bl k] => R (.bl k) G M
  | _ => False
theorem kc_bool : KCall X (.type "bool") kBool := kcall_of call_bool1 fun vs G M R H Q hv h hR => by
  match vs, h with
  | [.int i], h => exact .inl ⟨i, rfl, hR _ G M H hv h⟩
  | [.bl i], h => exact .inr ⟨i, rfl, hR _ G M H hv h⟩
def kPopAt : KM := fun x vs G M R => match x, vs with
  | .ref a, [.int i] => ∃ n xs k y, M[n]? = some (a, .lst xs) ∧ -(2 ^ 63) ≤ i ∧ i < 2 ^ 63 ∧ seqIndex? i xs.length = some k ∧ xs[k]? = some y ∧ R y G (M.set n (a, .lst (xs.eraseIdx k)))
  | _, _ => False
def kPop : KM := fun x vs G M R => match x, vs with
  | .ref a, [] => ∃ n xs y, M[n]? = some (a, .lst xs) ∧ xs[xs.length - 1]? = some y ∧ R y G (M.set n (a, .lst xs.dropLast))
  | _, _ => False
def kClear : KM := fun x vs G M R => match x, vs with
  | .ref a, [] => ∃ n xs, M[n]? = some (a, .lst xs) ∧ R .non G (M.set n (a, .lst []))
  | _, _ => False
theorem km_popAt : KMt X "list.pop" kPopAt := kmt_of mt_popAt fun x vs G M R H Q hv h hR => by
  match x, vs, h with
  | .ref a, [.int i], ⟨n, xs, k, y, h1, h2, h3, h4, h5, h6⟩ => exact ⟨a, xs, i, k, y, rfl, rfl, hv.get h1, h2, h3, h4, h5, hR _ G _ _ (hv.set h1) h6⟩
theorem km_pop : KMt X "list.pop" kPop := kmt_of mt_pop fun x vs G M R H Q hv h hR => by
  match x, vs, h with
  | .ref a, [], ⟨n, xs, y, h1, h2, h3⟩ => exact ⟨a, xs, y, rfl, rfl, hv.get h1, h2, hR _ G _ _ (hv.set h1) h3⟩
theorem km_clear : KMt X "list.clear" kClear := kmt_of mt_clear fun x vs G M R H Q hv h hR => by
  match x, vs, h with
  | .ref a, [], ⟨n, xs, h1, h3⟩ => exact ⟨a, xs, rfl, rfl, hv.get h1, hR _ G _ _ (hv.set h1) h3⟩
/-! ### {k: v, ..} -/
def kPairs : List (KE × KE) → St → Hp → Mem → (List (V × V) → Hp → Mem → Prop) → KX → Prop
  | [], _, G, M, R, _ => R [] G M
  | (tk, tv) :: r, σ, G, M, R, E => tk σ G M (fun x G M => tv σ G M (fun y G M => kPairs r σ G M (fun ps G M => R ((x, y) :: ps) G M) E) E) E
def kDisp (trs : List (KE × KE)) : KE := fun σ G M R E => ∀ p, Fr G M p → kPairs trs σ G ((p, .dK []) :: M) (fun ps G M => ∃ (n : Nat) (kvs : List (Key × V)), M[n]? = some (p, .dK []) ∧ ps = kvs.map (fun kv => (kV kv.1, kv.2)) ∧ kvs.length ≤ 15 ∧ R (.ref p) G (M.set n (p, .dK (mergeK [] kvs)))) E
def JPs (X : Cx) (W : WX) (pos : Pos) (keys : List (Option Expr)) (values : List Expr) (trs : List (KE × KE)) : Prop := PPs X pos keys values (trs.map fun p => (upG W p.1, upG W p.2))
theorem jps_nil {pos : Pos} : JPs X W pos [] [] [] := pps_nil
theorem jps_cons {pos : Pos} {k v : Expr} {ks : List (Option Expr)} {vs : List Expr} {tk tv : KE} {trs : List (KE × KE)} (hk : JE X W k tk) (hv : JE X W v tv) (hr : JPs X W pos ks vs trs) : JPs X W pos (some k :: ks) (v :: vs) ((tk, tv) :: trs) := pps_cons hk hv hr
theorem pairs_sim {σ : St} {E : KX} (hE : ∀ c d G' M' H', Hv G' M' H' → E c d G' M' → W c d σ H') : ∀ (trs : List (KE × KE)) (G : Hp) (M : Mem) (R : List (V × V) → Hp → Mem → Prop) (H : Hp) (Q : List (V × V) → Hp → Prop), Hv G M H → kPairs trs σ G M R E →
    (∀ v G' M' H', Hv G' M' H' → R v G' M' → Q v H') → tPairs (trs.map fun p => (upG W p.1, upG W p.2)) σ H Q
  | [], G, M, R, H, Q, hv, h, hR => hR _ G M H hv h
  | (tk, tv) :: r, G, M, R, H, Q, hv, h, hR => ⟨G, M, _, E, hv, h, fun x G1 M1 H1 hv1 q1 => ⟨G1, M1, _, E, hv1, q1, fun y G2 M2 H2 hv2 q2 => pairs_sim hE r G2 M2 _ H2 _ hv2 q2 fun v G' M' H' hv' q => hR _ G' M' H' hv' q, hE⟩, hE⟩
theorem je_disp {pos : Pos} {keys : List (Option Expr)} {values : List Expr} {trs : List (KE × KE)} (h : JPs X W pos keys values trs) (hall : keys.all (·.isSome) = true := by rfl) (hl : keys.length = values.length := by rfl) (h0 : keys ≠ [] := by exact fun z => nomatch z) (h15 : keys.length ≤ 15 := by decide) :
    JE X W (.Dict keys values pos) (kDisp trs) := pe_mono (pe_disp h hall hl h0 h15) fun σ H Q ⟨G, M, R, E, hv, h, hR, hE⟩ => fun p hp =>
  pairs_sim hE trs G _ _ _ _ (hv.newM hp) (h p (hv.fr hp)) fun ps G' M' H' hv' ⟨n, kvs, q1, q2, q3, q4⟩ => ⟨hv'.get q1, kvs, q2, q3, hR _ G' _ _ (hv'.set q1) q4⟩
end
end BT
namespace BT
open PySem PySem.Spec L2
/-- what is walked, behind which something may be forgotten -/
def kiW (t : KI) : KI := fun σ G M R E => t σ G M (fun src G M => ∃ G' M', Wk G M G' M' ∧ R src G' M') E
theorem ji_w {X : Cx} {W : WX} {tg it : Expr} {t : KI} (h : JI X W tg it t) : JI X W tg it (kiW t) := pi_mono h fun σ H Q ⟨G, M, R, E, hv, h, hR, hE⟩ =>
  ⟨G, M, _, E, hv, h, fun src G1 M1 H1 hv1 ⟨G2, M2, w, q⟩ J go => hR src G2 M2 H1 (w H1 hv1) q J go, hE⟩
end BT
set_option Elab.async false
set_option linter.all false
set_option maxRecDepth 100000
set_option maxHeartbeats 4000000
namespace BT
open PySem PySem.Spec L2
open PyProof.Rows hiding St
/-! ### objects: the program's classes by number, their attributes by place -/
def clsN : Nat → Str × List Str
  | 0 => ("Plain", ["words"])
  | 1 => ("Keeper", ["log"])
  | 2 => ("Shelf", ["keeper", "number", "things"])
  | 3 => ("Scan", ["cells", "limit", "draws", "keeper", "made", "shelf"])
  | 4 => ("Spare", ["cells", "limit", "draws", "keeper", "made", "side", "order", "shelf", "hand"])
  | 5 => ("Stairs", ["cells", "limit", "draws", "keeper", "made", "climb", "hand", "shelves", "orders"])
  | 6 => ("Tree", ["cells", "limit", "draws", "keeper", "made", "body", "table"])
  | 7 => ("Grove", ["cells", "limit", "draws", "keeper", "made", "highs", "bodies", "start", "table"])
  | 8 => ("Body", ["shelf", "high", "firsts", "hand"])
  | 9 => ("Climb", ["cells", "last", "full", "drawn", "home", "held"])
  | 10 => ("Runner", ["program", "slates", "place"])
  | _ => ("Desk", ["stores"])
theorem cls_all {P : Str × List Str → Prop} (h : ∀ k, k < 12 → P (clsN k)) : ∀ k, P (clsN k) := fun k => by
  by_cases e : k < 12
  · exact h k e
  · have : clsN k = clsN 11 := by
      unfold clsN
      split <;> first | omega | rfl
    rw [this]; exact h 11 (by decide)
theorem cls_nodup : ∀ k, (clsN k).2.Nodup := cls_all (P := fun x => x.2.Nodup) (by decide +kernel)
theorem cls_few : ∀ k, (clsN k).2.length < 20 := cls_all (P := fun x => x.2.length < 20) (by decide +kernel)
def Ob (K : PySem.W.Frag) (k : Nat) (dx : Addr) (vs : List V) : HO := .ins (cl K (clsN k).1) dx ((clsN k).2.zip vs)
def putV : Nat → V → List V → List V
  | 0, y, [] => [y]
  | 0, y, _ :: r => y :: r
  | n + 1, y, x :: r => x :: putV n y r
  | _ + 1, _, [] => []
theorem zip_lookup : ∀ (ns : List Str) (vs : List V) (i : Nat) (f : Str), ns.Nodup → ns[i]? = some f → (ns.zip vs).lookup f = vs[i]?
  | [], _, _, _, _, h => by simp at h
  | n :: ns, [], i, f, _, _ => by simp
  | n :: ns, v :: vs, 0, f, _, h => by
    have e : n = f := by simpa using h
    subst e
    simp [List.zip_cons_cons, List.lookup]
  | n :: ns, v :: vs, i + 1, f, hn, h => by
    rw [List.nodup_cons] at hn
    have h2 : ns[i]? = some f := by simpa using h
    have ne : (f == n) = false := by
      rw [beq_eq_false_iff_ne]
      intro z
      exact hn.1 (z ▸ List.mem_of_getElem? h2)
    rw [List.zip_cons_cons, List.lookup, ne]
    simp only []
    rw [zip_lookup ns vs i f hn.2 h2]; simp
theorem zip_none : ∀ (ns : List Str) (vs : List V) (f : Str), f ∉ ns → (ns.zip vs).lookup f = none
  | [], _, _, _ => by simp
  | n :: ns, [], f, _ => by simp
  | n :: ns, v :: vs, f, h => by
    have ne : (f == n) = false := by
      rw [beq_eq_false_iff_ne]
      intro z
      exact h (z ▸ List.mem_cons_self)
    rw [List.zip_cons_cons, List.lookup, ne]
    exact zip_none ns vs f fun z => h (List.mem_cons_of_mem _ z)
theorem zip_put : ∀ (ns : List Str) (vs : List V) (i : Nat) (f : Str) (y : V), ns.Nodup → ns[i]? = some f → i ≤ vs.length → putF f y (ns.zip vs) = ns.zip (putV i y vs)
  | [], _, _, _, _, _, h, _ => by simp at h
  | n :: ns, [], 0, f, y, _, h, _ => by
    have e : n = f := by simpa using h
    subst e
    cases ns <;> rfl
  | n :: ns, [], i + 1, f, y, _, _, h => by simp at h
  | n :: ns, v :: vs, 0, f, y, _, h, _ => by
    have e : n = f := by simpa using h
    subst e
    show putF n y ((n, v) :: ns.zip vs) = _
    unfold putF
    rw [if_pos rfl]; rfl
  | n :: ns, v :: vs, i + 1, f, y, hn, h, hi => by
    rw [List.nodup_cons] at hn
    have h2 : ns[i]? = some f := by simpa using h
    have ne : ¬ n = f := fun z => hn.1 (z ▸ List.mem_of_getElem? h2)
    show putF f y ((n, v) :: ns.zip vs) = _
    unfold putF
    rw [if_neg ne, zip_put ns vs i f y hn.2 h2 (by simpa using hi)]; rfl
/-- what of the text a class must have -/
structure CK (K : PySem.W.Frag) (k : Nat) : Prop where
  cls : Cls K (cl K (clsN k).1)
  na : ∀ f ∈ (clsN k).2, NoAttr K (cl K (clsN k).1) f
theorem lookup_mem {α β : Type} [BEq α] [LawfulBEq α] : ∀ {l : List (α × β)} {a : α} {b : β}, l.lookup a = some b → (a, b) ∈ l
  | [], _, _, h => by simp at h
  | (x, y) :: l, a, b, h => by
    rw [List.lookup] at h
    split at h
    · rename_i e
      have e := eq_of_beq e
      cases h; subst e; exact List.mem_cons_self
    · exact List.mem_cons_of_mem _ (lookup_mem h)
section
variable {X : Cx} {W : WX} {pos : Pos}
/-- e.f; tab: the classes that have it, and its place -/
def kFld (K : PySem.W.Frag) (tab : List (Nat × Nat)) (t : KE) : KE := fun σ G M R E => t σ G M (fun x G M => match x with
  | .ref a => ∃ (k : Nat) (dx : Addr) (vs : List V) (i : Nat) (v : V), At G M a (Ob K k dx vs) ∧ tab.lookup k = some i ∧ vs[i]? = some v ∧ R v G M
  | _ => False) E
theorem je_fld {e : Expr} {f : Str} {tab : List (Nat × Nat)} {t : KE} (he : JE X W e t) (ht : ∀ p ∈ tab, CK X.K p.1 ∧ (clsN p.1).2[p.2]? = some f) (hb : attributeBase e f X.env (eval e X.env) = eval e X.env := by rfl) : JE X W (.Attribute e f pos) (kFld X.K tab t) :=
  pe_mono (pe_fld he hb) fun σ H Q ⟨G, M, R, E, hv, h, hR, hE⟩ => ⟨G, M, _, E, hv, h, fun x G1 M1 H1 hv1 q => by
    match x, q with
    | .ref a, ⟨k, dx, vs, i, v, q1, q2, q3, q4⟩ =>
      obtain ⟨ck, hf⟩ := ht (k, i) (lookup_mem q2)
      exact ⟨a, _, dx, _, v, rfl, hv1.at q1, ck.cls, ck.na f (List.mem_of_getElem? hf), by rw [zip_lookup _ _ i f (cls_nodup k) hf]; exact q3, hR _ G1 M1 H1 hv1 q4⟩, hE⟩
/-- o.f = e -/
def kFSet (K : PySem.W.Frag) (tab : List (Nat × Nat)) (to tv : KE) : KS := fun D σ G M => tv σ G M (fun y G M => to σ G M (fun x G M => match x with
  | .ref a => ∃ (n k : Nat) (dx : Addr) (vs : List V) (i : Nat), M[n]? = some (a, Ob K k dx vs) ∧ tab.lookup k = some i ∧ i ≤ vs.length ∧ D.nx σ G (M.set n (a, Ob K k dx (putV i y vs)))
  | _ => False) (D.x σ)) (D.x σ)
theorem js_fset {o value : Expr} {f : Str} {tab : List (Nat × Nat)} {to tv : KE} {pos' : Pos} (ho : JE X W o to) (hv : JE X W value tv) (ht : ∀ p ∈ tab, CK X.K p.1 ∧ (clsN p.1).2[p.2]? = some f)
    (hs : swapsWith value (some (.Attribute o f pos')) pos.line X.env = pure false := by rfl) : JS X W (.Assign [.Attribute o f pos'] value pos) (kFSet X.K tab to tv) :=
  ps_mono (ps_fld ho hv hs) fun D σ H ⟨G, M, d, hv, h, en⟩ => ⟨G, M, _, _, hv, h, fun y G1 M1 H1 hv1 q => ⟨G1, M1, _, _, hv1, q, fun x G2 M2 H2 hv2 q2 => by
    match x, q2 with
    | .ref a, ⟨n, k, dx, vs, i, q3, q4, q5, q6⟩ =>
      obtain ⟨ck, hf⟩ := ht (k, i) (lookup_mem q4)
      refine ⟨a, _, dx, _, rfl, hv2.get q3, ck.cls, ck.na f (List.mem_of_getElem? hf), ?_, ?_⟩
      · have := cls_few k
        rw [List.length_zip]; omega
      · rw [zip_put _ _ i f y (cls_nodup k) hf q5]
        exact en.nx _ G2 _ _ (hv2.set q3) q6, fun c a G' M' H' hv' q => en.xc c a σ G' M' H' hv' q⟩, fun c a G' M' H' hv' q => en.xc c a σ G' M' H' hv' q⟩
/-- a method that keeps its promise, of the class k -/
structure MDef (P : Program) (w : World) (K : PySem.W.Frag) (mg : Str → Option Value) (base : Heap) (lev : Nat) (k : Nat) (m : Str) (S : KSp) : Prop where
  ex : ∃ f fd ps, FnOk P w K mg base (L2.CX P w) lev f fd ps (lift S) ∧ Meth K (cl K (clsN k).1) m f ∧ Binds K fd ps []
  ck : CK K k
  no : m ∉ (clsN k).2
theorem MDef.mono {P : Program} {w : World} {K : PySem.W.Frag} {mg : Str → Option Value} {base : Heap} {lev lev' k : Nat} {m : Str} {S : KSp} (D : MDef P w K mg base lev k m S) (h : lev ≤ lev') : MDef P w K mg base lev' k m S := by
  obtain ⟨⟨f, fd, ps, F, a, b⟩, c, d⟩ := D
  exact ⟨⟨f, fd, ps, F.mono h, a, b⟩, c, d⟩
def kMeth (K : PySem.W.Frag) (tab : List (Nat × KSp)) (to : KE) (t : KA) : KE := fun σ G M R E => to σ G M (fun x G M => match x with
  | .ref a => ∃ (k : Nat) (dx : Addr) (vs : List V) (S : KSp), At G M a (Ob K k dx vs) ∧ tab.lookup k = some S ∧ t σ G M (fun ws G M => S (.ref a :: ws) G M R E) E
  | _ => False) E
theorem je_meth {pl : Sem Bool} {o e : Expr} {es : List Expr} {m : Str} {apos : Pos} {tab : List (Nat × KSp)} {k : Nat} {to : KE} {t : KA} (D : ∀ p ∈ tab, MDef X.prog X.w X.K X.mg X.base k p.1 m p.2) (hr : Room k X.A) (tk : Takes X W) (ho : JE X W o to) (ha : JA X W (e :: es) t)
    (hst : starEach (e :: es) X.env = (false, eval e X.env) :: starEach es X.env := by rfl) (hpl : (backTo pos (starEach es X.env)).any (·.1) = false := by rfl)
    (ht : eval (.Call (.Attribute o m apos) (e :: es) [] pos) X.env = (do
      let ov ← eval o X.env
      standAt apos.atName
      let (f, first) ← holding [ov] (getMethod ov m pl)
      callWith pos f first (backTo pos (starEach (e :: es) X.env)) (backToKw pos (keywordEach [] X.env))) := by rfl) :
    JE X W (.Call (.Attribute o m apos) (e :: es) [] pos) (kMeth X.K tab to t) := by
  refine ⟨fun pins s σ H Q I ⟨G, M, R, E, hv, h, hR, hE⟩ => ?_⟩
  refine PySem.W.methodCall_KW (pl := pl) (thn (ho.run pins s σ H (fun x H1 => ∃ (a k : Nat) (dx : Addr) (vs : List V) (S : KSp), x = .ref a ∧ H1 a = some (Ob X.K k dx vs) ∧ tab.lookup k = some S ∧ upG W t σ H1 fun ws H2 => lift S (.ref a :: ws) H2 Q (WE W σ)) I ?_) fun u s1 ⟨x, H1, I1, rx, a, k, dx, vs, S, ex, ea, l, q⟩ => ?_) ht
  · refine ⟨G, M, _, E, hv, h, fun x G1 M1 H1 hv1 q => ?_, hE⟩
    match x, q with
    | .ref a, ⟨k, dx, vs, S, q1, q2, q3⟩ => exact ⟨a, k, dx, vs, S, rfl, hv1.at q1, q2, G1, M1, _, E, hv1, q3, fun ws G2 M2 H2 hv2 q4 => ⟨G2, M2, R, E, hv2, q4, hR, hE⟩, hE⟩
  subst ex
  obtain rfl : u = Value.ref a := rx
  obtain ⟨⟨f, fd, ps, F, mt, hb⟩, ck, no⟩ := D (k, S) (lookup_mem l)
  refine getmeth_ok I1 ea ck.cls mt (zip_none _ _ _ no) ?_
  refine PySem.W.callWith_K (first := [.ref a]) (h₀ := X.base) I.ok.mod.kin mt.kp (thn (ha.run pos pins s1 σ H1 _ I1 q) fun us s2 ⟨vs, H2, I2, r, q2⟩ => ⟨I2.kIn, ?_⟩) hst hpl
  exact run_fnS (us := .ref a :: us) (vs := .ref a :: vs) F hr hb (passAt tk σ) I2 (.cons rfl r) q2
theorem je_meth0 {pl : Sem Bool} {o : Expr} {m : Str} {apos : Pos} {tab : List (Nat × KSp)} {k : Nat} {to : KE} (D : ∀ p ∈ tab, MDef X.prog X.w X.K X.mg X.base k p.1 m p.2) (hr : Room k X.A) (tk : Takes X W) (ho : JE X W o to)
    (ht : eval (.Call (.Attribute o m apos) [] [] pos) X.env = (do
      let ov ← eval o X.env
      standAt apos.atName
      let (f, first) ← holding [ov] (getMethod ov m pl)
      callWith pos f first (backTo pos (starEach [] X.env)) (backToKw pos (keywordEach [] X.env))) := by rfl) :
    JE X W (.Call (.Attribute o m apos) [] [] pos) (kMeth X.K tab to kNil) := by
  refine ⟨fun pins s σ H Q I ⟨G, M, R, E, hv, h, hR, hE⟩ => ?_⟩
  refine PySem.W.methodCall_KW (pl := pl) (thn (ho.run pins s σ H (fun x H1 => ∃ (a k : Nat) (dx : Addr) (vs : List V) (S : KSp), x = .ref a ∧ H1 a = some (Ob X.K k dx vs) ∧ tab.lookup k = some S ∧ lift S [.ref a] H1 Q (WE W σ)) I ?_) fun u s1 ⟨x, H1, I1, rx, a, k, dx, vs, S, ex, ea, l, q⟩ => ?_) ht
  · refine ⟨G, M, _, E, hv, h, fun x G1 M1 H1 hv1 q => ?_, hE⟩
    match x, q with
    | .ref a, ⟨k, dx, vs, S, q1, q2, q3⟩ => exact ⟨a, k, dx, vs, S, rfl, hv1.at q1, q2, G1, M1, R, E, hv1, q3, hR, hE⟩
  subst ex
  obtain rfl : u = Value.ref a := rx
  obtain ⟨⟨f, fd, ps, F, mt, hb⟩, ck, no⟩ := D (k, S) (lookup_mem l)
  refine getmeth_ok I1 ea ck.cls mt (zip_none _ _ _ no) ?_
  exact PySem.W.callWith_K0 (first := [.ref a]) I1.kIn mt.kp (run_fnS (us := [.ref a]) (vs := [.ref a]) F hr hb (passAt tk σ) I1 (.cons rfl .nil) q)
/-! C(..) -/
theorem run_makeS {CX : CXT} {k : Nat} {C f : Addr} {fd : FuncData} {ps : List Str} {sp : Sp} {E : XK} {pins : List (Addr × Obj)} {σ : St} {H : Hp} {s : Shared} {Q : VK} {us : List Value} {vs : List V} (M : Mk X.K C f) (F : FnOk X.prog X.w X.K X.mg X.base CX k f fd ps sp) (hr : Room (k + 1) X.A) (hb : Binds X.K fd ps [])
    (hx : PassesAt CX X σ E) (I : Inv X pins σ H s) (r : Vals vs us)
    (h : ∀ x dx, H x = none → H dx = none → dx ≠ x → sp (.ref x :: vs) (upd (upd H dx (.own x)) x (.ins C dx [])) (fun v H2 => v = .non ∧ Q (.ref x) H2) E) :
    wpAny (model X.prog X.w) X.A (call (.ref C) us) (EP X pins σ Q) X.xe s := by
  have hq := h (s.heap.objs.size + 1) s.heap.objs.size (I.hok.fresh (Nat.le_succ _)) (I.hok.fresh (Nat.le_refl _)) (Nat.ne_of_lt (Nat.lt_succ_self _))
  have I2 := Inv.made (C := C) I
  have r2 : Vals (V.ref (s.heap.objs.size + 1) :: vs) (Value.ref (s.heap.objs.size + 1) :: us) := .cons rfl r
  have hl : (Value.ref (s.heap.objs.size + 1) :: us ++ []).length = ps.length := by
    have e := r2.length
    rw [F.len _ _ _ _ hq] at e
    rw [List.append_nil]
    exact e.symm
  have hb2 := hb _ (Value.ref (s.heap.objs.size + 1) :: us) I2.kIn hl
  rw [List.append_nil] at hb2
  refine wpAny_call (make_map (f := f) I.kIn M.makes M.init (beq_iff_eq.mp M.fn) (codeAny_mono (F.run _ X.stack _ _ ⟨Value.ref (s.heap.objs.size + 1) :: us, []⟩ (Value.ref (s.heap.objs.size + 1) :: us) _ _ E (hr.make C us [])
    (I2.env0.make C us []) hb2 r2 hq) fun r s' hq' => ?_))
  cases r with
  | error e => exact hx pins _ _ e s' I2 hq'
  | ok fl =>
    cases fl with
    | ret u =>
      obtain ⟨v, H', I3, rv, ev, q3⟩ := I2.after hq'
      subst ev
      exact ⟨rv, ⟨V.ref (s.heap.objs.size + 1), H', I3, rfl, q3⟩⟩
    | next => exact False.elim hq'
    | brk => exact False.elim hq'
    | cont => exact False.elim hq'
structure CDef (P : Program) (w : World) (K : PySem.W.Frag) (mg : Str → Option Value) (base : Heap) (lev : Nat) (k : Nat) (x : Str) (S : KSp) : Prop where
  ex : ∃ f fd ps, FnOk P w K mg base (L2.CX P w) lev f fd ps (lift S) ∧ Mk K (cl K (clsN k).1) f ∧ Binds K fd ps []
  g : mg x = some (.ref (cl K (clsN k).1))
def kMake (K : PySem.W.Frag) (k : Nat) (S : KSp) (t : KA) : KE := fun σ G M R E => t σ G M (fun vs G M => ∀ x dx, Fr G M x → S (.ref x :: vs) G ((x, Ob K k dx []) :: M) (fun v G M => v = .non ∧ R (.ref x) G M) E) E
theorem ob_nil {K : PySem.W.Frag} {k : Nat} {dx : Addr} : Ob K k dx [] = .ins (cl K (clsN k).1) dx [] := by unfold Ob; rw [List.zip_nil_right]
theorem make_sim {k : Nat} {S : KSp} {σ : St} {vs : List V} {G : Hp} {M : Mem} {R : KR} {E : KX} {H : Hp} {Q : VK} (hv : Hv G M H) (q : ∀ x dx, Fr G M x → S (.ref x :: vs) G ((x, Ob X.K k dx []) :: M) (fun v G M => v = .non ∧ R (.ref x) G M) E)
    (hR : ∀ v G' M' H', Hv G' M' H' → R v G' M' → Q v H') (hE : ∀ c d G' M' H', Hv G' M' H' → E c d G' M' → W c d σ H') (x dx : Addr) (hx : H x = none) (hd : H dx = none) (hne : dx ≠ x) :
    lift S (.ref x :: vs) (upd (upd H dx (.own x)) x (.ins (cl X.K (clsN k).1) dx [])) (fun v H2 => v = .non ∧ Q (.ref x) H2) (WE W σ) := by
  have h1 : Hv G M (upd H dx (.own x)) := hv.junk hd
  have h2 : (upd H dx (.own x)) x = none := by rw [upd_ne (Ne.symm hne)]; exact hx
  refine ⟨G, _, fun v G M => v = .non ∧ R (.ref x) G M, E, h1.newM (o := .ins (cl X.K (clsN k).1) dx []) h2, by rw [← ob_nil]; exact q x dx (hv.fr hx), fun v G' M' H' hv' q => ⟨q.1, hR _ G' M' H' hv' q.2⟩, fun c d G' M' H' hv' q => hE c d G' M' H' hv' q⟩
theorem je_make {k lev cid : Nat} {x : Str} {p : Pos} {e : Expr} {es : List Expr} {S : KSp} {t : KA} (D : CDef X.prog X.w X.K X.mg X.base lev cid x S) (hk : PySem.W.keepIn X.K (.ref (cl X.K (clsN cid).1)) = true) (hr : Room k X.A) (tk : Takes X W) (ha : JA X W (e :: es) t) (hl : lev + 1 ≤ k := by decide) (hg : Gl X x := by rfl)
    (hdb : (x == ("__debug__" : Str)) = false := by decide) (he : starEach (e :: es) X.env = (false, eval e X.env) :: starEach es X.env := by rfl) (hpl : (backTo pos (starEach es X.env)).any (·.1) = false := by rfl) :
    JE X W (.Call (.Name x p) (e :: es) [] pos) (kMake X.K cid S t) := by
  obtain ⟨⟨f, fd, ps, F, mk, hb⟩, hm⟩ := D
  obtain ⟨k', rfl⟩ : ∃ k', k = k' + 1 := ⟨k - 1, by omega⟩
  refine ⟨fun pins s σ H Q I ⟨G, M, R, E, hv, h, hR, hE⟩ => ?_⟩
  refine wpAny_Call_Name_kw (ld_glob I hg hm ?_ hdb)
  refine PySem.W.callWith_K (h₀ := X.base) I.ok.mod.kin hk (thn (ha.run pos pins s σ H (fun vs H1 => ∀ x dx, H1 x = none → H1 dx = none → dx ≠ x → lift S (.ref x :: vs) (upd (upd H1 dx (.own x)) x (.ins (cl X.K (clsN cid).1) dx [])) (fun v H2 => v = .non ∧ Q (.ref x) H2) (WE W σ)) I ?_) fun us s1 ⟨vs, H1, I1, r, q⟩ => ⟨I1.kIn, ?_⟩) he hpl
  · exact ⟨G, M, _, E, hv, h, fun vs G1 M1 H1 hv1 q x dx hx hd hne => make_sim hv1 q hR hE x dx hx hd hne, hE⟩
  · exact run_makeS mk (F.mono (by omega)) hr hb (passAt tk σ) I1 r q
theorem je_make0 {k lev cid : Nat} {x : Str} {p : Pos} {S : KSp} (D : CDef X.prog X.w X.K X.mg X.base lev cid x S) (hk : PySem.W.keepIn X.K (.ref (cl X.K (clsN cid).1)) = true) (hr : Room k X.A) (tk : Takes X W) (hl : lev + 1 ≤ k := by decide) (hg : Gl X x := by rfl)
    (hdb : (x == ("__debug__" : Str)) = false := by decide) : JE X W (.Call (.Name x p) [] [] pos) (kMake X.K cid S kNil) := by
  obtain ⟨⟨f, fd, ps, F, mk, hb⟩, hm⟩ := D
  obtain ⟨k', rfl⟩ : ∃ k', k = k' + 1 := ⟨k - 1, by omega⟩
  refine ⟨fun pins s σ H Q I ⟨G, M, R, E, hv, h, hR, hE⟩ => ?_⟩
  refine wpAny_Call_Name_kw (ld_glob I hg hm ?_ hdb)
  refine PySem.W.callWith_K0 I.kIn hk (run_makeS (us := []) (vs := []) mk (F.mono (by omega)) hr hb (passAt tk σ) I .nil fun x dx hx hd hne => make_sim hv h hR hE x dx hx hd hne)
/-! C.m(self, ..), m a def of the class C -/
structure FDef (P : Program) (w : World) (K : PySem.W.Frag) (mg : Str → Option Value) (base : Heap) (lev : Nat) (x m : Str) (S : KSp) : Prop where
  ex : ∃ f fd ps, FnOk P w K mg base (L2.CX P w) lev f fd ps (lift S) ∧ PySem.W.findCls K (.ref (cl K x)) (.type "type") m = some (.val (.ref f)) ∧ Binds K fd ps [] ∧ PySem.W.keepIn K (.ref f) = true
  g : mg x = some (.ref (cl K x))
  rd : PySem.W.readsIn K (cl K x) (.type "type") = true
  ga : PySem.W.specialIn K (.ref (cl K x)) "__getattribute__" = some (some (.builtin "type.__getattribute__"))
theorem je_clsCall {pl : Sem Bool} {k lev : Nat} {x m : Str} {p apos : Pos} {e : Expr} {es : List Expr} {S : KSp} {t : KA} (D : FDef X.prog X.w X.K X.mg X.base lev x m S) (hr : Room k X.A) (tk : Takes X W) (ha : JA X W (e :: es) t) (hl : lev ≤ k := by decide) (hg : Gl X x := by rfl)
    (hdb : (x == ("__debug__" : Str)) = false := by decide) (hst : starEach (e :: es) X.env = (false, eval e X.env) :: starEach es X.env := by rfl) (hpl : (backTo pos (starEach es X.env)).any (·.1) = false := by rfl)
    (ht : eval (.Call (.Attribute (.Name x p) m apos) (e :: es) [] pos) X.env = (do
      let ov ← eval (.Name x p) X.env
      standAt apos.atName
      let (f, first) ← holding [ov] (getMethod ov m pl)
      callWith pos f first (backTo pos (starEach (e :: es) X.env)) (backToKw pos (keywordEach [] X.env))) := by rfl) :
    JE X W (.Call (.Attribute (.Name x p) m apos) (e :: es) [] pos) (kCall S t) := by
  obtain ⟨⟨f, fd, ps, F, hf, hb, hkp⟩, hm, rd, ga⟩ := D
  refine ⟨fun pins s σ H Q I ⟨G, M, R, E, hv, h, hR, hE⟩ => ?_⟩
  refine PySem.W.methodCall_KW (pl := pl) (ld_glob I hg hm ?_ hdb) ht
  refine PySem.W.method_cls I.kIn ga (PySem.W.cls_value I.kIn rd hf rfl ?_)
  refine PySem.W.callWith_K (first := []) (h₀ := X.base) I.ok.mod.kin hkp (thn (ha.run pos pins _ σ H (fun vs H1 => lift S vs H1 Q (WE W σ)) (I.tok _) ?_) fun us s2 ⟨vs, H2, I2, r, q2⟩ => ⟨I2.kIn, ?_⟩) hst hpl
  · exact ⟨G, M, _, E, hv, h, fun vs G1 M1 H1 hv1 q => ⟨G1, M1, R, E, hv1, q, hR, hE⟩, hE⟩
  · exact run_fnS (us := us) (vs := vs) (F.mono hl) hr hb (passAt tk σ) I2 r q2
end
end BT
namespace BT
open PySem PySem.Spec L2
open PyProof.Rows hiding St
section
variable {P : Program} {w : World} {K : PySem.W.Frag} {mg : Str → Option Value} {base : Heap} {k lev : Nat} {C f : Addr} {fd : FuncData} {ps : List Str} {S : KSp} {x m : Str}
theorem ck_mk (a : PySem.W.nsIn K mainGlobals (clsN k).1 = some (some (.ref C))) (h1 : PySem.W.plainGet K C Str.empty = true) (h2 : PySem.W.hasDictIn K C = true) (h3 : PySem.W.plainOver K C = true)
    (h4 : PySem.W.findIn K (.ref C) "__setattr__" = some (some (.builtin "object.__setattr__"))) (h5 : ∀ f ∈ (clsN k).2, PySem.W.findIn K (.ref C) f = some none) : CK K k := by
  have e := cl_of a
  exact ⟨by rw [e]; exact ⟨h1, h2, h3, h4⟩, by rw [e]; exact h5⟩
theorem keep_mk (a : PySem.W.nsIn K mainGlobals (clsN k).1 = some (some (.ref C))) (h : PySem.W.keepIn K (.ref C) = true) : PySem.W.keepIn K (.ref (cl K (clsN k).1)) = true := by
  rw [cl_of a]; exact h
theorem cd_mk (hx : (clsN k).1 = x) (a : PySem.W.nsIn K mainGlobals (clsN k).1 = some (some (.ref C))) (g : mg x = some (.ref C)) (F : FnOk P w K mg base (L2.CX P w) lev f fd ps (lift S)) (h1 : PySem.W.makesIn K C = true) (h2 : PySem.W.findIn K (.ref C) "__init__" = some (some (.ref f)))
    (h3 : PySem.W.isFn K (.ref f) = true) (h4 : PySem.W.keepIn K (.ref C) = true) (b : Binds K fd ps []) : CDef P w K mg base lev k x S := by
  have e := cl_of a
  exact ⟨⟨f, fd, ps, F, by rw [e]; exact ⟨h1, h2, h3, h4⟩, b⟩, by rw [e]; exact g⟩
theorem md_mk (a : PySem.W.nsIn K mainGlobals (clsN k).1 = some (some (.ref C))) (F : FnOk P w K mg base (L2.CX P w) lev f fd ps (lift S)) (h1 : PySem.W.findIn K (.ref C) m = some (some (.ref f))) (h2 : PySem.W.isFn K (.ref f) = true) (h3 : PySem.W.keepIn K (.ref f) = true) (b : Binds K fd ps [])
    (ck : CK K k) (no : m ∉ (clsN k).2) : MDef P w K mg base lev k m S := by
  have e := cl_of a
  exact ⟨⟨f, fd, ps, F, by rw [e]; exact ⟨h1, h2, h3⟩, b⟩, ck, no⟩
theorem fd_mk (a : PySem.W.nsIn K mainGlobals x = some (some (.ref C))) (g : mg x = some (.ref C)) (F : FnOk P w K mg base (L2.CX P w) lev f fd ps (lift S)) (h1 : PySem.W.findCls K (.ref C) (.type "type") m = some (.val (.ref f))) (b : Binds K fd ps []) (h2 : PySem.W.keepIn K (.ref f) = true)
    (h3 : PySem.W.readsIn K C (.type "type") = true) (h4 : PySem.W.specialIn K (.ref C) "__getattribute__" = some (some (.builtin "type.__getattribute__"))) : FDef P w K mg base lev x m S := by
  have e := cl_of a
  exact ⟨⟨f, fd, ps, F, by rw [e]; exact h1, b, h2⟩, by rw [e]; exact g, by rw [e]; exact h3, by rw [e]; exact h4⟩
end
end BT
set_option Elab.async false
set_option linter.all false
set_option maxRecDepth 100000
set_option maxHeartbeats 4000000
namespace BT
open PySem PySem.Spec L2
open PyProof.Rows hiding St
/-! ### dicts whose keys are ints and texts -/
section
variable {X : Cx} {W : WX} {pos : Pos} {o i e f : Expr}
def kDIn (neg : Bool) (ty td : KE) : KE := fun σ G M R E => ty σ G M (fun y G M => td σ G M (fun x G M => match x with
  | .ref a => ∃ (kvs : List (Key × V)) (k : Key), At G M a (.dK kvs) ∧ y = kV k ∧ R (.bl (if neg then !(valV kvs k).isSome else (valV kvs k).isSome)) G M
  | _ => False) E) E
theorem din_sim {ty td : KE} {σ : St} {H : Hp} {Q : VK} (h : upG W (kDIn false ty td) σ H Q) : tDIn (upG W ty) (upG W td) σ H Q := by
  obtain ⟨G, M, R, E, hv, h, hR, hE⟩ := h
  exact ⟨G, M, _, E, hv, h, fun y G1 M1 H1 hv1 q1 => ⟨G1, M1, _, E, hv1, q1, fun x G2 M2 H2 hv2 q2 => by
    match x, q2 with
    | .ref a, ⟨kvs, k, q3, q4, q5⟩ => subst q4; exact ⟨a, _, rfl, DGet.k (hv2.at q3), hR _ G2 M2 H2 hv2 q5⟩, hE⟩, hE⟩
theorem dnotin_sim {ty td : KE} {σ : St} {H : Hp} {Q : VK} (h : upG W (kDIn true ty td) σ H Q) : tDNotIn (upG W ty) (upG W td) σ H Q := by
  obtain ⟨G, M, R, E, hv, h, hR, hE⟩ := h
  exact ⟨G, M, _, E, hv, h, fun y G1 M1 H1 hv1 q1 => ⟨G1, M1, _, E, hv1, q1, fun x G2 M2 H2 hv2 q2 => by
    match x, q2 with
    | .ref a, ⟨kvs, k, q3, q4, q5⟩ => subst q4; exact ⟨a, _, rfl, DGet.k (hv2.at q3), hR _ G2 M2 H2 hv2 q5⟩, hE⟩, hE⟩
theorem je_din {ty td : KE} (hu : X.A.units + 64 < cLine) (hi : JE X W i ty) (ho : JE X W o td) (hm : behindInMarks .In o = false := by first | rfl | with_unfolding_all rfl) : JE X W (.Compare i [.In] [o] pos) (kDIn false ty td) := pe_mono (pe_cmp (pc_din (by omega) hi ho) hm) fun _ _ _ h => din_sim h
theorem jt_din {ty td : KE} (hu : X.A.units + 64 < cLine) (hi : JE X W i ty) (ho : JE X W o td) (hm : behindInMarks .In o = false := by first | rfl | with_unfolding_all rfl) : JT X W (.Compare i [.In] [o] pos) (kT (kDIn false ty td)) := pt_mono (pt_cmp (pc_din (by omega) hi ho) hm) fun _ _ _ h => din_sim (t_sim h)
theorem je_dnotin {ty td : KE} (hu : X.A.units + 64 < cLine) (hi : JE X W i ty) (ho : JE X W o td) (hm : behindInMarks .NotIn o = false := by first | rfl | with_unfolding_all rfl) : JE X W (.Compare i [.NotIn] [o] pos) (kDIn true ty td) := pe_mono (pe_cmp (pc_dnotin (by omega) hi ho) hm) fun _ _ _ h => dnotin_sim h
theorem jt_dnotin {ty td : KE} (hu : X.A.units + 64 < cLine) (hi : JE X W i ty) (ho : JE X W o td) (hm : behindInMarks .NotIn o = false := by first | rfl | with_unfolding_all rfl) : JT X W (.Compare i [.NotIn] [o] pos) (kT (kDIn true ty td)) := pt_mono (pt_cmp (pc_dnotin (by omega) hi ho) hm) fun _ _ _ h => dnotin_sim (t_sim h)
/-- d[k] -/
def kDGet : KR2 := fun x y G M R => match x with
  | .ref a => ∃ (kvs : List (Key × V)) (k : Key) (v : V), At G M a (.dK kvs) ∧ y = kV k ∧ valV kvs k = some v ∧ R v G M
  | _ => False
theorem je_dget {ta tb : KE} (hu : X.A.units + 64 < cLine) (ha : JE X W o ta) (hb : JE X W i tb) (hs : NoSl i := by exact fun _ _ => rfl) : JE X W (.Subscript o i pos) (kBin kDGet ta tb) :=
  pe_mono (pe_dget (by omega) ha hb hs) fun σ H Q ⟨G, M, R, E, hv, h, hR, hE⟩ => ⟨G, M, _, E, hv, h, fun x G1 M1 H1 hv1 q1 => ⟨G1, M1, _, E, hv1, q1, fun y G2 M2 H2 hv2 q2 => by
    match x, q2 with
    | .ref a, ⟨kvs, k, v, q3, q4, q5, q6⟩ =>
      subst q4
      refine ⟨a, v, rfl, ?_, hR _ G2 M2 H2 hv2 q6⟩
      rw [← q5]; exact DGet.k (hv2.at q3), hE⟩, hE⟩
/-- d[k] = v -/
def kDSet (td ty tv : KE) : KS := fun D σ G M => tv σ G M (fun v G M => td σ G M (fun x G M => ty σ G M (fun y G M => match x with
  | .ref a => ∃ (n : Nat) (kvs : List (Key × V)) (k : Key), M[n]? = some (a, .dK kvs) ∧ y = kV k ∧ kvs.length < sizeLine ∧ D.nx σ G (M.set n (a, .dK (putK kvs k v)))
  | _ => False) (D.x σ)) (D.x σ)) (D.x σ)
theorem js_dset {td ty tv : KE} {value : Expr} {pos' : Pos} (hu : X.A.units + 64 < cLine) (ho : JE X W o td) (hi : JE X W i ty) (hv : JE X W value tv) (hs : swapsWith value (some (.Subscript o i pos')) pos.line X.env = pure false := by rfl) :
    JS X W (.Assign [.Subscript o i pos'] value pos) (kDSet td ty tv) := ps_mono (ps_dput (by omega) ho hi hv hs) fun D σ H ⟨G, M, d, hv, h, en⟩ =>
  ⟨G, M, _, _, hv, h, fun v G1 M1 H1 hv1 q => ⟨G1, M1, _, _, hv1, q, fun x G2 M2 H2 hv2 q2 => ⟨G2, M2, _, _, hv2, q2, fun y G3 M3 H3 hv3 q3 => by
    match x, q3 with
    | .ref a, ⟨n, kvs, k, q4, q5, q6, q7⟩ => subst q5; exact ⟨a, _, rfl, DPut.k (hv3.get q4) q6, en.nx _ G3 _ _ (hv3.set q4) q7⟩, fun c a G' M' H' hv' q => en.xc c a σ G' M' H' hv' q⟩, fun c a G' M' H' hv' q => en.xc c a σ G' M' H' hv' q⟩, fun c a G' M' H' hv' q => en.xc c a σ G' M' H' hv' q⟩
/-- d.get(k, x), d.get(k) -/
def kDGet2 (td ty tx : KE) : KE := fun σ G M R E => td σ G M (fun x G M => match x with
  | .ref a => (∃ kvs, At G M a (.dK kvs)) ∧ ty σ G M (fun y G M => tx σ G M (fun z G M => ∃ (kvs : List (Key × V)) (k : Key), At G M a (.dK kvs) ∧ y = kV k ∧ R ((valV kvs k).getD z) G M) E) E
  | _ => False) E
theorem je_dget2 {td ty tx : KE} {apos cpos : Pos} (hu : X.A.units + 64 < cLine) (ho : JE X W o td) (he : JE X W e ty) (hf : JE X W f tx) (m : M2 X o "get" apos e f cpos := by exact ⟨rfl, rfl, rfl, rfl⟩) : JE X W (.Call (.Attribute o "get" apos) [e, f] [] cpos) (kDGet2 td ty tx) :=
  pe_mono (pe_dget2 (by omega) ho he hf m) fun σ H Q ⟨G, M, R, E, hv, h, hR, hE⟩ => ⟨G, M, _, E, hv, h, fun x G1 M1 H1 hv1 q1 => by
    match x, q1 with
    | .ref a, ⟨⟨kvs, q2⟩, q3⟩ => exact ⟨a, rfl, .inl ⟨kvs, .inl (hv1.at q2)⟩, G1, M1, _, E, hv1, q3, fun y G2 M2 H2 hv2 q4 => ⟨G2, M2, _, E, hv2, q4, fun z G3 M3 H3 hv3 q5 => by
        obtain ⟨kvs, k, q6, q7, q8⟩ := q5
        subst q7
        exact ⟨_, DGet.k (hv3.at q6), hR _ G3 M3 H3 hv3 q8⟩, hE⟩, hE⟩, hE⟩
def kDGet1 (td ty : KE) : KE := fun σ G M R E => td σ G M (fun x G M => match x with
  | .ref a => (∃ kvs, At G M a (.dK kvs)) ∧ ty σ G M (fun y G M => ∃ (kvs : List (Key × V)) (k : Key), At G M a (.dK kvs) ∧ y = kV k ∧ R ((valV kvs k).getD .non) G M) E
  | _ => False) E
theorem je_dget1 {td ty : KE} {apos cpos : Pos} (hu : X.A.units + 64 < cLine) (ho : JE X W o td) (he : JE X W e ty) (m : M1 X o "get" apos e cpos := by exact ⟨rfl, rfl, rfl, rfl⟩) : JE X W (.Call (.Attribute o "get" apos) [e] [] cpos) (kDGet1 td ty) :=
  pe_mono (pe_dget1 (by omega) ho he m) fun σ H Q ⟨G, M, R, E, hv, h, hR, hE⟩ => ⟨G, M, _, E, hv, h, fun x G1 M1 H1 hv1 q1 => by
    match x, q1 with
    | .ref a, ⟨⟨kvs, q2⟩, q3⟩ => exact ⟨a, rfl, .inl ⟨kvs, .inl (hv1.at q2)⟩, G1, M1, _, E, hv1, q3, fun y G2 M2 H2 hv2 q5 => by
        obtain ⟨kvs, k, q6, q7, q8⟩ := q5
        subst q7
        exact ⟨_, DGet.k (hv2.at q6), hR _ G2 M2 H2 hv2 q8⟩, hE⟩, hE⟩
/-- d.pop(k, x), d.pop(k) -/
def kDPop2 (td ty tx : KE) : KE := fun σ G M R E => td σ G M (fun x G M => match x with
  | .ref a => (∃ kvs, At G M a (.dK kvs)) ∧ ty σ G M (fun y G M => tx σ G M (fun z G M => ∃ (n : Nat) (kvs : List (Key × V)) (k : Key), M[n]? = some (a, .dK kvs) ∧ y = kV k ∧ (∀ v, valV kvs k = some v → R v G (M.set n (a, .dK (dropK kvs k)))) ∧ (valV kvs k = none → R z G M)) E) E
  | _ => False) E
theorem je_dpop2 {td ty tx : KE} {apos cpos : Pos} (ho : JE X W o td) (he : JE X W e ty) (hf : JE X W f tx) (m : M2 X o "pop" apos e f cpos := by exact ⟨rfl, rfl, rfl, rfl⟩) : JE X W (.Call (.Attribute o "pop" apos) [e, f] [] cpos) (kDPop2 td ty tx) :=
  pe_mono (pe_dpop2 ho he hf m) fun σ H Q ⟨G, M, R, E, hv, h, hR, hE⟩ => ⟨G, M, _, E, hv, h, fun x G1 M1 H1 hv1 q1 => by
    match x, q1 with
    | .ref a, ⟨⟨kvs, q2⟩, q3⟩ => exact ⟨a, rfl, .inl ⟨kvs, .inl (hv1.at q2)⟩, G1, M1, _, E, hv1, q3, fun y G2 M2 H2 hv2 q4 => ⟨G2, M2, _, E, hv2, q4, fun z G3 M3 H3 hv3 q5 => by
        obtain ⟨n, kvs, k, q6, q7, q8, q9⟩ := q5
        exact ⟨kvs, k, hv3.get q6, q7, fun v hv => hR _ G3 _ _ (hv3.set q6) (q8 v hv), fun hv => hR _ G3 M3 H3 hv3 (q9 hv)⟩, hE⟩, hE⟩, hE⟩
def kDPop1 (td ty : KE) : KE := fun σ G M R E => td σ G M (fun x G M => match x with
  | .ref a => (∃ kvs, At G M a (.dK kvs)) ∧ ty σ G M (fun y G M => ∃ (n : Nat) (kvs : List (Key × V)) (k : Key) (v : V), M[n]? = some (a, .dK kvs) ∧ y = kV k ∧ valV kvs k = some v ∧ R v G (M.set n (a, .dK (dropK kvs k)))) E
  | _ => False) E
theorem je_dpop1 {td ty : KE} {apos cpos : Pos} (ho : JE X W o td) (he : JE X W e ty) (m : M1 X o "pop" apos e cpos := by exact ⟨rfl, rfl, rfl, rfl⟩) : JE X W (.Call (.Attribute o "pop" apos) [e] [] cpos) (kDPop1 td ty) :=
  pe_mono (pe_dpop1 ho he m) fun σ H Q ⟨G, M, R, E, hv, h, hR, hE⟩ => ⟨G, M, _, E, hv, h, fun x G1 M1 H1 hv1 q1 => by
    match x, q1 with
    | .ref a, ⟨⟨kvs, q2⟩, q3⟩ => exact ⟨a, rfl, .inl ⟨kvs, .inl (hv1.at q2)⟩, G1, M1, _, E, hv1, q3, fun y G2 M2 H2 hv2 q5 => by
        obtain ⟨n, kvs, k, v, q6, q7, q8, q9⟩ := q5
        exact ⟨kvs, k, v, hv2.get q6, q7, q8, hR _ G2 _ _ (hv2.set q6) q9⟩, hE⟩, hE⟩
/-- d.setdefault(k, x) -/
def kDSetd (td ty tx : KE) : KE := fun σ G M R E => td σ G M (fun x G M => match x with
  | .ref a => (∃ kvs, At G M a (.dK kvs)) ∧ ty σ G M (fun y G M => tx σ G M (fun z G M => ∃ (n : Nat) (kvs : List (Key × V)) (k : Key), M[n]? = some (a, .dK kvs) ∧ y = kV k ∧ kvs.length < sizeLine ∧ (∀ v, valV kvs k = some v → R v G M) ∧ (valV kvs k = none → R z G (M.set n (a, .dK (putK kvs k z))))) E) E
  | _ => False) E
theorem je_dsetd {td ty tx : KE} {apos cpos : Pos} (ho : JE X W o td) (he : JE X W e ty) (hf : JE X W f tx) (m : M2 X o "setdefault" apos e f cpos := by exact ⟨rfl, rfl, rfl, rfl⟩) : JE X W (.Call (.Attribute o "setdefault" apos) [e, f] [] cpos) (kDSetd td ty tx) :=
  pe_mono (pe_dsetd ho he hf m) fun σ H Q ⟨G, M, R, E, hv, h, hR, hE⟩ => ⟨G, M, _, E, hv, h, fun x G1 M1 H1 hv1 q1 => by
    match x, q1 with
    | .ref a, ⟨⟨kvs, q2⟩, q3⟩ => exact ⟨a, rfl, .inl ⟨kvs, .inl (hv1.at q2)⟩, G1, M1, _, E, hv1, q3, fun y G2 M2 H2 hv2 q4 => ⟨G2, M2, _, E, hv2, q4, fun z G3 M3 H3 hv3 q5 => by
        obtain ⟨n, kvs, k, q6, q7, q8, q9, q10⟩ := q5
        exact ⟨kvs, k, hv3.get q6, q7, q8, fun v hv => hR _ G3 M3 H3 hv3 (q9 v hv), fun hv => hR _ G3 _ _ (hv3.set q6) (q10 hv)⟩, hE⟩, hE⟩, hE⟩
/-- sorted(d), list(d), len(d) -/
def kSortedD : KC := fun vs G M R => match vs with
  | [.ref a] => ∃ (kvs : List (Key × V)) (ks : List Int), At G M a (.dK kvs) ∧ kvs.map (·.1) = ks.map Sum.inl ∧ ks.length < 64 ∧ ∀ (ys : List Int) (p : Addr), ys.Perm ks → ys.Pairwise (· ≤ ·) → Fr G M p → R (.ref p) G ((p, .lst (ys.map V.int)) :: M)
  | _ => False
theorem kc_sortedD (hc : X.calm = true := by rfl) : KCall X (.builtin "sorted") kSortedD := kcall_of (call_sortedDI hc) fun vs G M R H Q hv h hR => by
  match vs, h with
  | [.ref a], ⟨kvs, ks, h1, h2, h3, h4⟩ => exact ⟨a, kvs, ks, rfl, .inl (hv.at h1), h2, h3, fun ys p q1 q2 q3 => hR _ G _ _ (hv.newM q3) (h4 ys p q1 q2 (hv.fr q3))⟩
def kListD : KC := fun vs G M R => match vs with
  | [.ref a] => ∃ kvs : List (Key × V), At G M a (.dK kvs) ∧ ∀ p, Fr G M p → R (.ref p) G ((p, .lst (kvs.map fun kv => kV kv.1)) :: M)
  | _ => False
theorem kc_listD (hc : X.calm = true := by rfl) : KCall X (.type "list") kListD := kcall_of (call_listD hc) fun vs G M R H Q hv h hR => by
  match vs, h with
  | [.ref a], ⟨kvs, h1, h2⟩ => exact ⟨a, kvs, rfl, .inl (hv.at h1), fun p q3 => hR _ G _ _ (hv.newM q3) (h2 p (hv.fr q3))⟩
def kLenD : KC := fun vs G M R => match vs with
  | [.ref a] => ∃ kvs : List (Key × V), At G M a (.dK kvs) ∧ R (.int kvs.length) G M
  | _ => False
theorem kc_lenD : KCall X (.builtin "len") kLenD := kcall_of call_lenD fun vs G M R H Q hv h hR => by
  match vs, h with
  | [.ref a], ⟨kvs, h1, h2⟩ => exact ⟨a, kvs, rfl, hv.at h1, hR _ G M H hv h2⟩
/-- x, y = a, b, two local names -/
def kPar (i j : Nat) (t : KA) : KS := fun D σ G M => t σ G M (fun vs G M => match vs with
  | [v, w] => D.nx ((σ.set i (some v)).set j (some w)) G M
  | _ => False) (D.x σ)
theorem js_par {i j : Nat} {x y : Str} {a b : Expr} {ta : KA} {px py pt : Pos} {kt k2 pt2} (hN : X.N.Nodup) (ha : JA X W [a, b] ta) (hc : X.calm = true := by rfl) (hi : X.N[i]? = some x := by rfl) (hj : X.N[j]? = some y := by rfl) (hij : i ≠ j := by decide)
    (hx : X.env.scope.names.lookup x = some .local := by rfl) (hy : X.env.scope.names.lookup y = some .local := by rfl)
    (hw : swappedStores [.Tuple [.Name x px, .Name y py] kt pt] (.Tuple [a, b] k2 pt2) X.env = pure (some [x, y]) := by rfl)
    (hs : swapsWithSole [.Tuple [.Name x px, .Name y py] kt pt] (.Tuple [a, b] k2 pt2) pos.line X.env = pure false := by rfl) :
    JS X W (.Assign [.Tuple [.Name x px, .Name y py] kt pt] (.Tuple [a, b] k2 pt2) pos) (kPar i j ta) :=
  ps_mono (ps_par hc hN hi hj hij hx hy ha hw hs) fun D σ H ⟨G, M, d, hv, h, en⟩ => ⟨G, M, _, _, hv, h, fun vs G1 M1 H1 hv1 q => by
    match vs, q with
    | [v, w], q => exact ⟨v, w, rfl, en.nx _ G1 M1 H1 hv1 q⟩, fun c a G' M' H' hv' q => en.xc c a σ G' M' H' hv' q⟩
end
end BT
set_option Elab.async false
set_option linter.all false
set_option maxRecDepth 100000
set_option maxHeartbeats 4000000
namespace BT
open PySem PySem.Spec L2
open PyProof.Rows hiding St
/-! ### slices and sums of tuples, unpacked lists -/
section
variable {X : Cx} {W : WX} {pos : Pos} {o i e f : Expr}
/-- a tuple's slice; the whole of it is the tuple itself -/
def cutT (K : PySem.W.Frag) (x : V) (lo hi : Option Int) (G : Hp) (M : Mem) (R : KR) : Prop := match x with
  | .ref a => ∃ xs, SqT K G a xs ∧ (HT.sIx xs.length 0 lo = 0 ∧ HT.sIx xs.length xs.length hi = xs.length → R (.ref a) G M) ∧ (¬ (HT.sIx xs.length 0 lo = 0 ∧ HT.sIx xs.length xs.length hi = xs.length) → ∀ p, Fr G M p → R (.ref p) (upd G p (.tup (cutV xs lo hi))) M)
  | _ => False
def kSlT (K : PySem.W.Frag) (t : KE) (tl th : KO) : KE := fun σ G M R E => t σ G M (fun x G M => tl σ G M (fun l G M => th σ G M (fun u G M => cutT K x l u G M R) E) E) E
theorem je_slT {t : KE} {lo hi : Option Expr} {tl th : KO} {p2 : Pos} (he : JE X W e t) (hl : JO X W lo tl) (hu : JO X W hi th) : JE X W (.Subscript e (.Slice lo hi none p2) pos) (kSlT X.K t tl th) :=
  pe_mono (pe_slice sl_tupA he hl hu) fun σ H Q ⟨G, M, R, E, hv, h, hR, hE⟩ => ⟨G, M, _, E, hv, h, fun x G1 M1 H1 hv1 h1 => ⟨G1, M1, _, E, hv1, h1, fun l G2 M2 H2 hv2 h2 => ⟨G2, M2, _, E, hv2, h2, fun u G3 M3 H3 hv3 h3 => by
    match x, h3 with
    | .ref a, ⟨xs, q1, q2, q3⟩ => exact ⟨_, xs, rfl, hv3.tup q1, fun z => hR _ G3 M3 H3 hv3 (q2 z), fun z p hp => hR _ _ _ _ (hv3.newG hp) (q3 z p (hv3.fr hp))⟩, hE⟩, hE⟩, hE⟩
/-- (a, b, ..) = a list of that length -/
def kgUnl (K : PySem.W.Frag) (n : Nat) (g : KGs) : KG := ⟨fun v σ G M R => match v with
    | .ref a => ∃ xs, LstAt K G M a xs ∧ onLen n g xs σ G M R
    | _ => False, fun _ _ _ _ _ => False⟩
theorem jg_unl {K : PySem.W.Frag} {ts : List Expr} {g : KGs} {gs : TGs} {n k : Nat} (hc : X.calm = true) (h : JGs X ts g gs) (hK : X.K = K := by rfl) (hn : (assignEach ts X.env).length = n := by rfl) (hst : (assignEach ts X.env).findIdx? (·.1) = none := by rfl) :
    JG X (.Tuple ts k pos) (kgUnl K n g) (gUnl K n gs) := by
  subst hK
  exact ⟨pg_unl hc h.pgs hn hst, fun v σ G M R H Q hv q hR => by
    match v, q with
    | .ref a, ⟨xs, q1, q2⟩ =>
      obtain ⟨e, q3⟩ := onLen_of q2
      exact ⟨a, xs, rfl, hv.lst q1, e, h.sim xs σ G M R H Q hv q3 hR⟩,
   fun T vs σ G M R H Q hv hT q hR => q.elim⟩
/-- the sum of two tuples -/
def kCat (K : PySem.W.Frag) : KR2 := fun x y G M R => match x, y with
  | .ref a, .ref b => ∃ xs ys, SqT K G a xs ∧ SqT K G b ys ∧ xs.length + ys.length ≤ sizeLine ∧ (xs = [] → R (.ref b) G M) ∧ (xs ≠ [] → ys = [] → R (.ref a) G M) ∧ (xs ≠ [] → ys ≠ [] → ∀ p, Fr G M p → R (.ref p) (upd G p (.tup (xs ++ ys))) M)
  | _, _ => False
theorem kop_cat : KOp X (binaryOp .Add) (kCat X.K) := kop_of op_catA fun x y G M R H Q hv h hR => by
  match x, y, h with
  | .ref a, .ref b, ⟨xs, ys, h1, h2, h3, h4, h5, h6⟩ => exact ⟨a, b, xs, ys, rfl, rfl, hv.tup h1, hv.tup h2, h3, fun z => hR _ G M H hv (h4 z), fun z w => hR _ G M H hv (h5 z w), fun z w p hp => hR _ _ _ _ (hv.newG hp) (h6 z w p (hv.fr hp))⟩
end
end BT
set_option Elab.async false
set_option linter.all false
set_option maxRecDepth 100000
set_option maxHeartbeats 4000000
namespace BT
open PySem PySem.Spec L2
open PyProof.Rows hiding St
/-! ### isinstance(err, (C, D, ..)); except C without a name -/
def orTab (a b : List (Str × Bool)) : List (Str × Bool) := a.zipWith (fun p q => (p.1, p.2 || q.2)) b
theorem orTab_mem : ∀ {a b : List (Str × Bool)}, a.map (·.1) = b.map (·.1) → ∀ p, p ∈ orTab a b → ∃ x y, (p.1, x) ∈ a ∧ (p.1, y) ∈ b ∧ p.2 = (x || y)
  | [], _, _, p, h => by simp [orTab] at h
  | _ :: _, [], _, p, h => by simp [orTab] at h
  | u :: a, v :: b, e, p, h => by
    have e1 : u.1 = v.1 := by simpa using (List.cons.inj e).1
    rcases List.mem_cons.mp (show p ∈ (u.1, u.2 || v.2) :: orTab a b from h) with rfl | h
    · exact ⟨u.2, v.2, List.mem_cons_self, by rw [e1]; exact List.mem_cons_self, rfl⟩
    · obtain ⟨x, y, h1, h2, h3⟩ := orTab_mem (List.cons.inj e).2 p h
      exact ⟨x, y, List.mem_cons_of_mem _ h1, List.mem_cons_of_mem _ h2, h3⟩
structure IsT (K : PySem.W.Frag) (cs : List V) (us : List Value) (tab : List (Str × Bool)) : Prop where
  p : Paired ClsV cs us
  n : PySem.W.kitAny K (.type "NoneType") us = some false
  t : ∀ p ∈ tab, ExcC K (cl K p.1) ∧ PySem.W.kitAny K (.ref (cl K p.1)) us = some p.2
theorem IsT.cons {K : PySem.W.Frag} {c : V} {u : Value} {cs : List V} {us : List Value} {tab tab1 : List (Str × Bool)} (hc : ClsV c u) (hn : PySem.W.kitOne K (.type "NoneType") u = some false)
    (ht : ∀ p ∈ tab1, ExcC K (cl K p.1) ∧ PySem.W.kitOne K (.ref (cl K p.1)) u = some p.2) (h : IsT K cs us tab) (e : tab1.map (·.1) = tab.map (·.1) := by rfl) : IsT K (c :: cs) (u :: us) (orTab tab1 tab) :=
  ⟨.cons hc h.p, kitAny_cons hn (fun _ => h.n) (fun z => nomatch z), fun p hp => by
    obtain ⟨x, y, h1, h2, h3⟩ := orTab_mem e p hp
    obtain ⟨q1, q2⟩ := ht _ h1
    refine ⟨q1, kitAny_cons q2 (fun z => ?_) (fun z => ?_)⟩
    · rw [h3, show x = false from z]
      exact (h.t _ h2).2
    · rw [h3, show x = true from z]; rfl⟩
theorem IsT.one {K : PySem.W.Frag} {c : V} {u : Value} {tab1 : List (Str × Bool)} (hc : ClsV c u) (hn : PySem.W.kitOne K (.type "NoneType") u = some false)
    (ht : ∀ p ∈ tab1, ExcC K (cl K p.1) ∧ PySem.W.kitOne K (.ref (cl K p.1)) u = some p.2) : IsT K [c] [u] tab1 :=
  ⟨.cons hc .nil, kitAny_cons hn (fun _ => rfl) (fun z => nomatch z), fun p hp => by
    obtain ⟨q1, q2⟩ := ht p hp
    exact ⟨q1, kitAny_cons q2 (fun z => by rw [z]; rfl) (fun z => z)⟩⟩
section
variable {X : Cx} {W : WX} {pos : Pos}
def kIsXT (K : PySem.W.Frag) (cs : List V) (tab : List (Str × Bool)) : KC := fun vs G M R => match vs with
  | [.non, .ref t] => G t = some (.tup cs) ∧ R (.bl false) G M
  | [.ref a, .ref t] => G t = some (.tup cs) ∧ ∃ p ∈ tab, At G M a (ErA K p.1 none a) ∧ R (.bl p.2) G M
  | _ => False
theorem kc_isXT {tab : List (Str × Bool)} {cs : List V} {us : List Value} (T : IsT X.K cs us tab) : KCall X (.builtin "isinstance") (kIsXT X.K cs tab) := by
  intro pins s σ H xs ws Q I r h
  obtain ⟨G, M, R, hv, h, hR⟩ := h
  match xs, h with
  | [.non, .ref t], h2 =>
    obtain ⟨ht, h3⟩ := h2
    exact (call_isiT (X := X)) pins s σ H [.non, .ref t] _ Q I r ⟨_, t, cs, .type "NoneType", us, false, rfl, hv.ex _ _ ht, T.p, .base .non, T.n, hR _ _ _ _ hv h3⟩
  | [.ref a, .ref t], h2 =>
    obtain ⟨ht, p, hp, ha, h3⟩ := h2
    obtain ⟨C, e⟩ := T.t p hp
    obtain ⟨u1, u2, rfl, r1, r2⟩ := vals2 r
    cases (show u2 = Value.ref t from r2)
    cases (show u1 = Value.ref a from r1)
    have hH : H a = some (ErA X.K p.1 none a) := hv.at ha
    obtain ⟨⟨oe, vs, hget, hz, hd⟩, _, _⟩ := I.hok a _ hH
    have J : PySem.W.InstAt s.heap a oe (cl X.K p.1) none := by
      obtain ⟨oc, od, oda, osl⟩ := oe
      obtain ⟨h1, h2⟩ := hz
      dsimp only at h1 h2 hd
      subst h1 h2 hd
      exact ⟨hget, rfl, rfl, trivial⟩
    obtain ⟨_, its, rv, o, h1, h2, n, h3'⟩ := (show ObjOk X.prog X.w H s.heap t (.tup cs) from I.hok t _ (hv.ex _ _ ht))
    have e3 := ClsV.all T.p rv
    subst e3
    obtain ⟨oc, od, dt, sl⟩ := o
    simp only at h2 h3'
    subst h2 h3'
    exact PySem.W.kia_tup (PySem.W.handS_kitx_exc C.hg C.hk C.hs C.hd C.ha C.hn C.ht C.hm) I.kIn J h1 e (fun z => nomatch z) fun tk => ⟨.bl p.2, H, I.kept (t' := tk) fun _ _ z => z, rfl, hR _ _ _ _ hv h3⟩
/-- try: t, except C: u -/
def kTryO (K : PySem.W.Frag) (tab : List (Str × Bool)) (t u : KS) : KS := fun D σ G M => t { D with xc := fun c d σ' G' M' => ∃ p ∈ tab, c = .ref (cl K p.1) ∧
  (if p.2 = true then u { D with xc := fun _ _ _ _ _ => False } σ' G' M' else D.xc c d σ' G' M') } σ G M
theorem js_tryO {K : PySem.W.Frag} {x : Str} {tab : List (Str × Bool)} {body suite : List Stmt} {b0 : Stmt} {t u : KS} {np pos' : Pos} (g : XG X.K X.mg x) (ht : ∀ p ∈ tab, PySem.W.exmOne X.K (.ref (cl X.K p.1)) (.ref (cl X.K x)) = some p.2) (tk : Takes X W)
    (hb : ∀ (W : WX) (pn : List (Addr × Obj)) (xe : Value → Shared → Prop), Takes (X.tr pn xe) W → PassesOwn (model X.prog X.w) X.A X.env xe → JSs (X.tr pn xe) W body t)
    (hsu : ∀ (a : Addr) (oe : Obj) (pn : List (Addr × Obj)), JSs (X.suite a ((a, oe) :: pn)) W0 (b0 :: suite) u)
    (hK : X.K = K := by rfl) (hs : X.stack = X.env :: X.outer := by rfl) (hf : X.env.frame = some X.env.locals := by rfl) (hg : Gl X x := by rfl) (hxd : (x == ("__debug__" : Str)) = false := by decide) :
    JS X W (.Try body [.ExceptHandler (some (.Name x np)) none (b0 :: suite) pos'] [] [] pos) (kTryO K tab t u) := by
  subst hK
  refine ps_mono (ps_try_only (c := .ref (cl X.K x)) (tb := fun W => upS W t) (ts := fun _ _ _ => upS W0 u) hs hf ⟨hg, hxd, .inl g.g⟩ tk hb (fun a oe cls d pn _ _ => hsu a oe pn)) fun D σ H ⟨G, M, d, hv, h, en⟩ => ?_
  refine ⟨G, M, _, hv, h, ⟨en.nx, en.rt, en.bk, en.ct, fun c e σ' G' M' H' hv' q => ?_⟩⟩
  obtain ⟨p, hp, rfl, q⟩ := q
  refine ⟨p.2, ht p hp, fun hb a na => ?_, fun hb => ?_⟩
  · rw [if_pos hb] at q
    exact ⟨G', M', _, hv', q, ⟨en.nx, en.rt, en.bk, en.ct, fun _ _ _ _ _ _ _ z => z.elim⟩⟩
  · rw [if_neg (by rw [hb]; exact Bool.false_ne_true)] at q
    exact en.xc _ _ _ _ _ _ hv' q
end
end BT
namespace PySem.SeqAt
open AutoSeq1 (wpAny_loadPart')
open MeetsSeq
theorem bt_str_eq_declines (b : Str) (u : Tok) (l : Addr) (c : Value) (es : _) (ep : _) (dd : Option Addr) (sl : Array (Option Value)) :
    Meets (Builtin.«str.__eq__» ⟨[.str b u, .ref l], []⟩) (fun _ R s => s.heap.get? l = some ⟨c, dd, .dict es ep, sl⟩ ∧ R (.ok (.ret .notImplemented)) s) :=
  .of_wp fun prog w A R s h => by obtain ⟨hp, g, d, tk, os⟩ := s; obtain ⟨hl, h⟩ := h; wp_walk using wpAny_loadPart' hl, wpAny_load hl; exact ⟨_, rfl, h⟩
theorem bt_dict_eq_declines (l : Addr) (es : _) (ep : _) (dd : Option Addr) (sl : Array (Option Value)) (b : Str) (u : Tok) :
    Meets (Builtin.«dict.__eq__» ⟨[.ref l, .str b u], []⟩) (fun _ R s => s.heap.get? l = some ⟨.type "dict", dd, .dict es ep, sl⟩ ∧ R (.ok (.ret .notImplemented)) s) :=
  .of_wp fun prog w A R s h => by obtain ⟨hp, g, d, tk, os⟩ := s; obtain ⟨hl, h⟩ := h; have f1 := F.sub_str_dict; wp_walk using wpAny_loadPart' hl, wpAny_load hl; exact ⟨_, rfl, h⟩
theorem bt_dict_str {A : Around} {s : Shared} {l : Addr} {o : Obj} {es : _} {ep : _} (b : Str) (u : Tok) (ho : s.heap.get? l = some o) (hx : o.ExactDict) (hd : o.data = .dict es ep) (hu : A.units < cLine) : RcAt A s (.ref l) (.str b u) false := fun prog w E Q h => by
  obtain ⟨cls, dd, data, sl⟩ := o
  obtain ⟨hc, h2, h3⟩ := hx
  simp only at hc hd
  subst hc hd
  exact rc_eq_decline_or (k := false) ⟨_, ho, rfl⟩ (typeIs_str s b u) (by decide) F.sub_str_dict F.slot_dict_eq F.slot_str_eq_refl
    (fun _ hq => call_meets F.slot_dict_eq ⟨_, ho, rfl⟩ F.entry_dict_eq (F.args_dict_eq_2 _ _) (bt_dict_eq_declines l es ep dd sl b u) ⟨ho, hq⟩)
    (fun _ hq => call_meets F.slot_str_eq_refl (typeIs_str s b u) F.entry_str_eq (F.args_str_eq_2 _ _) (bt_str_eq_declines b u l (.type "dict") es ep dd sl) ⟨ho, hq⟩)
    (fun _ hq => wpAny_of_eq (rfl : isSame (.ref l) (.str b u) = pure false) hq) (.inr hu) h
end PySem.SeqAt
namespace BT
open PySem PySem.Spec L2
open PyProof.Rows hiding St
/-- == of what may be a dict, and a text -/
def kEqD (K : PySem.W.Frag) : KR2 := fun x y G M R => kEqv false K x y G M R ∨ ∃ (a : Addr) (s : Str) (kvs : List (Key × V)), x = .ref a ∧ y = .str s ∧ At G M a (.dK kvs) ∧ R (.bl false) G M
theorem kop_eqD {X : Cx} (hu : X.A.units + 64 < cLine) : KOp X (compareOp .Eq) (kEqD X.K) := fun pins s σ H x y v u Q G M R I rx ry hv h hR => by
  rcases h with h | ⟨a, t, kvs, rfl, rfl, ha, h⟩
  · exact kop_eq hu pins s σ H x y v u Q G M R I rx ry hv h hR
  · cases (show v = Value.ref a from rx)
    obtain ⟨tk, e⟩ := (show ∃ t', u = Value.str t t' from ry)
    subst e
    obtain ⟨_, _, vs, _, o, es, ep, h1, h2, h3, _⟩ := (show ObjOk X.prog X.w H s.heap a (.dK kvs) from I.hok a _ (hv.at ha))
    exact SeqAt.bt_dict_str t tk h1 h2 h3 (by omega) _ _ _ _ ⟨.bl false, H, I, rfl, hR _ G M H hv h⟩
end BT
set_option Elab.async false
set_option linter.all false
set_option maxRecDepth 100000
set_option maxHeartbeats 4000000
namespace BT
open PySem PySem.Spec L2
open PyProof.Rows hiding St
/-! ### written data: what a display of constants lays -/
inductive XD where
  | non
  | bl (b : Bool)
  | int (i : Int)
  | str (s : Str)
  | list (l : List XD)
  | tup (l : List XD)
  | dict
mutual
inductive Rp (K : PySem.W.Frag) (G : Hp) (Mx : Mem) : V → XD → Prop where
  | non : Rp K G Mx .non .non
  | bl (b : Bool) : Rp K G Mx (.bl b) (.bl b)
  | int (i : Int) : Rp K G Mx (.int i) (.int i)
  | str (s : Str) : Rp K G Mx (.str s) (.str s)
  | list {a : Addr} {vs : List V} {ds : List XD} : ((a, HO.lst vs) ∈ Mx ∨ G a = some (.lst vs)) → RpA K G Mx vs ds → Rp K G Mx (.ref a) (.list ds)
  | tup {a : Addr} {vs : List V} {ds : List XD} : SqT K G a vs → RpA K G Mx vs ds → Rp K G Mx (.ref a) (.tup ds)
  | dict {a : Addr} : ((a, HO.dK []) ∈ Mx ∨ G a = some (.dK [])) → Rp K G Mx (.ref a) .dict
inductive RpA (K : PySem.W.Frag) (G : Hp) (Mx : Mem) : List V → List XD → Prop where
  | nil : RpA K G Mx [] []
  | cons {v : V} {d : XD} {vs : List V} {ds : List XD} : Rp K G Mx v d → RpA K G Mx vs ds → RpA K G Mx (v :: vs) (d :: ds)
end
section
variable {K : PySem.W.Frag} {G G' : Hp} {Mx My M : Mem}
mutual
theorem Rp.mono (f : ∀ a o, ((a, o) ∈ Mx ∨ G a = some o) → ((a, o) ∈ My ∨ G' a = some o)) (e : Ex G G') : ∀ {v : V} {d : XD}, Rp K G Mx v d → Rp K G' My v d
  | _, _, .non => .non
  | _, _, .bl b => .bl b
  | _, _, .int b => .int b
  | _, _, .str b => .str b
  | _, _, .list h hs => .list (f _ _ h) (RpA.mono f e hs)
  | _, _, .tup h hs => .tup (ex_t e h) (RpA.mono f e hs)
  | _, _, .dict h => .dict (f _ _ h)
theorem RpA.mono (f : ∀ a o, ((a, o) ∈ Mx ∨ G a = some o) → ((a, o) ∈ My ∨ G' a = some o)) (e : Ex G G') : ∀ {vs : List V} {ds : List XD}, RpA K G Mx vs ds → RpA K G' My vs ds
  | _, _, .nil => .nil
  | _, _, .cons h hs => .cons (Rp.mono f e h) (RpA.mono f e hs)
end
theorem Rp.up {v : V} {d : XD} (e : Ex G G') (s : ∀ x, x ∈ Mx → x ∈ My) (h : Rp K G Mx v d) : Rp K G' My v d := h.mono (fun a o q => q.elim (fun z => .inl (s _ z)) (fun z => .inr (e _ _ z))) e
theorem RpA.up {v : List V} {d : List XD} (e : Ex G G') (s : ∀ x, x ∈ Mx → x ∈ My) (h : RpA K G Mx v d) : RpA K G' My v d := h.mono (fun a o q => q.elim (fun z => .inl (s _ z)) (fun z => .inr (e _ _ z))) e
theorem Rp.ex {v : V} {d : XD} (e : Ex G G') (h : Rp K G Mx v d) : Rp K G' Mx v d := h.up e fun _ z => z
theorem RpA.ex {v : List V} {d : List XD} (e : Ex G G') (h : RpA K G Mx v d) : RpA K G' Mx v d := h.up e fun _ z => z
theorem RpA.len : ∀ {vs : List V} {ds : List XD}, RpA K G Mx vs ds → vs.length = ds.length
  | _, _, .nil => rfl
  | _, _, .cons _ hs => by rw [List.length_cons, List.length_cons, hs.len]
theorem RpA.app : ∀ {vs ws : List V} {ds es : List XD}, RpA K G Mx vs ds → RpA K G Mx ws es → RpA K G Mx (vs ++ ws) (ds ++ es)
  | _, _, _, _, .nil, h => h
  | _, _, _, _, .cons a b, h => .cons a (b.app h)
theorem RpA.get : ∀ {vs : List V} {ds : List XD} {i : Nat}, RpA K G Mx vs ds → i < vs.length → ∃ v d, vs[i]? = some v ∧ ds[i]? = some d ∧ Rp K G Mx v d
  | _, _, _, .nil, h => by simp at h
  | _, _, 0, .cons a _, _ => ⟨_, _, rfl, rfl, a⟩
  | _, _, i + 1, .cons _ b, h => by
    obtain ⟨v, d, h1, h2, h3⟩ := RpA.get (i := i) b (by simpa using h)
    exact ⟨v, d, by simpa using h1, by simpa using h2, h3⟩
/-- cells of its own -/
def NewC (G : Hp) (Mx : Mem) : Prop := (∀ x, x ∈ Mx → G x.1 = none) ∧ (Mx.map (·.1)).Nodup
theorem NewC.nil : NewC G [] := ⟨fun _ z => (nomatch z), List.nodup_nil⟩
def frzA (G : Hp) (Mx : Mem) : Hp := Mx.foldr (fun x g => upd g x.1 x.2) G
theorem frzA_wk : ∀ (Mx : Mem) (G : Hp) (M : Mem), Wk G (Mx ++ M) (frzA G Mx) M
  | [], G, M => Wk.refl
  | x :: Mx, G, M => by
    refine Wk.trans (Wk.perm (M' := Mx ++ x :: M) ?_) ((frzA_wk Mx G (x :: M)).trans Wk.frz0)
    exact List.perm_middle
theorem frzA_ne : ∀ {Mx : Mem} {G : Hp} {a : Addr}, (∀ x, x ∈ Mx → x.1 ≠ a) → frzA G Mx a = G a
  | [], _, _, _ => rfl
  | x :: Mx, G, a, h => by
    show upd (frzA G Mx) x.1 x.2 a = _
    rw [upd_ne (Ne.symm (h x List.mem_cons_self))]
    exact frzA_ne fun y hy => h y (List.mem_cons_of_mem _ hy)
theorem frzA_ex (h : NewC G Mx) : Ex G (frzA G Mx) := fun a o e => by
  rw [frzA_ne]
  · exact e
  · intro x hx z
    rw [← z, h.1 x hx] at e
    cases e
theorem frzA_at : ∀ {Mx : Mem} {G : Hp}, (Mx.map (·.1)).Nodup → ∀ x, x ∈ Mx → frzA G Mx x.1 = some x.2
  | [], _, _, _, h => nomatch h
  | y :: Mx, G, hn, x, h => by
    rw [List.map_cons, List.nodup_cons] at hn
    show upd (frzA G Mx) y.1 y.2 x.1 = _
    rcases List.mem_cons.mp h with rfl | h
    · exact upd_same
    · rw [upd_ne (fun z => hn.1 (by rw [← z]; exact List.mem_map.mpr ⟨x, h, rfl⟩))]
      exact frzA_at hn.2 x h
theorem Rp.frz {v : V} {d : XD} (n : NewC G Mx) (h : Rp K G Mx v d) : Rp K (frzA G Mx) [] v d := h.mono (fun a o q => q.elim (fun z => .inr (frzA_at n.2 (a, o) z)) (fun z => .inr (frzA_ex n _ _ z))) (frzA_ex n)
theorem RpA.frz {v : List V} {d : List XD} (n : NewC G Mx) (h : RpA K G Mx v d) : RpA K (frzA G Mx) [] v d := h.mono (fun a o q => q.elim (fun z => .inr (frzA_at n.2 (a, o) z)) (fun z => .inr (frzA_ex n _ _ z))) (frzA_ex n)
theorem frzA_fr {p : Addr} (h : Fr G (Mx ++ M) p) : Fr (frzA G Mx) M p := ⟨by rw [frzA_ne (fun x hx => h.2 x (List.mem_append.mpr (.inl hx)))]; exact h.1, fun x hx => h.2 x (List.mem_append.mpr (.inr hx))⟩
/-- a cell more, a tuple more -/
theorem NewC.cell {p : Addr} {o : HO} (h : NewC G Mx) (f : Fr G (Mx ++ M) p) : NewC G ((p, o) :: Mx) := by
  refine ⟨fun x hx => ?_, ?_⟩
  · rcases List.mem_cons.mp hx with rfl | hx
    · exact f.1
    · exact h.1 x hx
  · rw [List.map_cons, List.nodup_cons]
    refine ⟨fun z => ?_, h.2⟩
    obtain ⟨y, hy, e⟩ := List.mem_map.mp z
    exact f.2 y (List.mem_append.mpr (.inl hy)) e
theorem NewC.tup {p : Addr} {o : HO} (h : NewC G Mx) (f : Fr G (Mx ++ M) p) : NewC (upd G p o) Mx :=
  ⟨fun x hx => by rw [upd_ne (f.2 x (List.mem_append.mpr (.inl hx)))]; exact h.1 x hx, h.2⟩
/-- an expression that lays written data -/
def LitOk (K : PySem.W.Frag) (te : KE) (σ : St) (G : Hp) (d : XD) : Prop := ∀ (G0 : Hp) (My M : Mem) (R : KR) (E : KX), Ex G G0 → NewC G0 My → (∀ v G' Mx, Ex G0 G' → NewC G' (Mx ++ My) → Rp K G' Mx v d → R v G' (Mx ++ (My ++ M))) → te σ G0 (My ++ M) R E
def LitsOk (K : PySem.W.Frag) (ta : KA) (σ : St) (G : Hp) (ds : List XD) : Prop := ∀ (G0 : Hp) (My M : Mem) (R : List V → Hp → Mem → Prop) (E : KX), Ex G G0 → NewC G0 My → (∀ vs G' Mx, Ex G0 G' → NewC G' (Mx ++ My) → RpA K G' Mx vs ds → R vs G' (Mx ++ (My ++ M))) → ta σ G0 (My ++ M) R E
end
section
variable {K : PySem.W.Frag} {σ : St} {G : Hp} {te ta tb : KE} {tas : KA} {ds es : List XD} {d : XD}
theorem lit_pure {v : V} (h : ∀ G0 M R E, Ex G G0 → R v G0 M → te σ G0 M R E) (r : Rp K G [] v d) : LitOk K te σ G d := fun G0 My M R E e n q => h G0 _ R E e (q v G0 [] Ex.refl n (r.ex e))
theorem lit_int {i : Int} : LitOk K (kC (.int i)) σ G (.int i) := lit_pure (fun _ _ _ _ _ q => q) (.int i)
theorem lit_bl {i : Bool} : LitOk K (kC (.bl i)) σ G (.bl i) := lit_pure (fun _ _ _ _ _ q => q) (.bl i)
theorem lit_str {i : Str} : LitOk K (kC (.str i)) σ G (.str i) := lit_pure (fun _ _ _ _ _ q => q) (.str i)
theorem lit_non : LitOk K (kC .non) σ G .non := lit_pure (fun _ _ _ _ _ q => q) .non
theorem lit_neg {i : Int} : LitOk K (kUn kNeg (kC (.int i))) σ G (.int (-i)) := lit_pure (fun _ _ _ _ _ q => q) (.int _)
theorem lit_var {i : Nat} {v : V} (h : σ[i]? = some (some v)) (r : Rp K G [] v d) : LitOk K (kVar i) σ G d := lit_pure (v := v) (fun _ _ _ _ _ q => by unfold kVar; rw [h]; exact q) r
theorem lit_dict : LitOk K kDNew σ G .dict := fun G0 My M R E e n q p fp => q _ G0 [(p, .dK [])] Ex.refl (n.cell fp) (.dict (.inl List.mem_cons_self))
theorem lits_nil : LitsOk K kNil σ G [] := fun G0 My M R E e n q => q [] G0 [] Ex.refl n .nil
theorem lits_cons (h : LitOk K te σ G d) (hs : LitsOk K tas σ G ds) : LitsOk K (kCons te tas) σ G (d :: ds) := fun G0 My M R E e n q =>
  h G0 My M _ E e n fun v G1 Mx e1 n1 r1 => by
    rw [← List.append_assoc]
    refine hs G1 (Mx ++ My) M _ E (e.trans e1) n1 fun vs G2 Mz e2 n2 r2 => ?_
    have := q (v :: vs) G2 (Mz ++ Mx) (e1.trans e2) (by rw [List.append_assoc]; exact n2) (.cons (r1.up e2 fun x hx => List.mem_append.mpr (.inr hx)) (r2.up Ex.refl fun x hx => List.mem_append.mpr (.inl hx)))
    simpa [List.append_assoc] using this
theorem lit_tup (h : LitsOk K tas σ G ds) (hl : ds.length ≤ 1000) : LitOk K (kTup tas) σ G (.tup ds) := fun G0 My M R E e n q =>
  h G0 My M _ E e n fun vs G1 Mx e1 n1 r1 => ⟨Nat.le_trans (by rw [r1.len]; exact hl) (by decide), fun p fp => by
    rw [← List.append_assoc] at fp
    exact q _ _ Mx (e1.trans (Ex.new fp)) (n1.tup fp) (.tup sqt_new (r1.ex (Ex.new fp)))⟩
theorem lit_lst (h : LitsOk K tas σ G ds) (hl : ds.length ≤ 1000) : LitOk K (kLst tas) σ G (.list ds) := fun G0 My M R E e n q =>
  h G0 My M _ E e n fun vs G1 Mx e1 n1 r1 => ⟨Nat.le_trans (by rw [r1.len]; exact hl) (by decide), fun p fp => by
    rw [← List.append_assoc] at fp
    exact q _ _ ((p, .lst vs) :: Mx) e1 (n1.cell fp) (.list (.inl List.mem_cons_self) (r1.up Ex.refl fun x hx => List.mem_cons_of_mem _ hx))⟩
theorem lit_add (h1 : LitOk K ta σ G (.list ds)) (h2 : LitOk K tb σ G (.list es)) (hl : (ds ++ es).length ≤ 1000) : LitOk K (kBin kAdd ta tb) σ G (.list (ds ++ es)) := fun G0 My M R E e n q =>
  h1 G0 My M _ E e n fun v G1 Mx e1 n1 r1 => by
    rw [← List.append_assoc]
    refine h2 G1 (Mx ++ My) M _ E (e.trans e1) n1 fun u G2 Mz e2 n2 r2 => ?_
    cases r1 with
    | @list a xs _ a1 s1 =>
      cases r2 with
      | @list b ys _ a2 s2 =>
        have l1 := s1.len
        have l2 := s2.len
        refine ⟨xs, ys, ?_, ?_, Nat.le_trans (m := 1000) (by rw [List.length_append] at hl; omega) (by decide), fun p fp => ?_⟩
        · rcases a1 with z | z
          · exact .inl (by simp [z])
          · exact .inr (e2 _ _ z)
        · rcases a2 with z | z
          · exact .inl (by simp [z])
          · exact .inr z
        · have fp' : Fr G2 ((Mz ++ (Mx ++ My)) ++ M) p := by simpa [List.append_assoc] using fp
          have := q (.ref p) G2 ((p, .lst (xs ++ ys)) :: (Mz ++ Mx)) (e1.trans e2) (by
            have := n2.cell (o := .lst (xs ++ ys)) fp'
            simpa [List.append_assoc] using this) (.list (.inl List.mem_cons_self) ((s1.up e2 fun x hx => by simp [hx]).app (s2.up Ex.refl fun x hx => by simp [hx])))
          simpa [List.append_assoc] using this
theorem lit_pow {i j : Int} (h : CPow i j) : LitOk K (kBin (kI CPow fun i j => .int (i ^ j.toNat)) (kC (.int i)) (kC (.int j))) σ G (.int (i ^ j.toNat)) := lit_pure (v := .int (i ^ j.toNat)) (fun _ _ _ _ _ q => ⟨h, q⟩) (.int _)
/-- one of written things is picked by a draw -/
theorem lit_pick {M : Mem} {R : KR} {E : KX} {i n : Nat} {p : Addr} {c s L : Int} (h : LitOk K te σ G (.list ds)) (hv : σ[i]? = some (some (.ref p))) (hn : M[n]? = some (p, pool c s)) (hs : PoolOk s) (hL : L = ds.length) (h0 : 0 < ds.length) (h1 : ds.length ≤ 1000)
    (q : ∀ v d G' Mx c' s', Ex G G' → NewC G' Mx → d ∈ ds → Rp K G' Mx v d → PoolOk s' → R v G' (Mx ++ M.set n (p, pool c' s'))) : kBin (kIx K) te (kCall (S_law_take K) (kCons (kVar i) (kCons (kC (.int L)) kNil))) σ G M R E := by
  refine h G [] M _ E Ex.refl NewC.nil fun v G1 Mx e1 n1 r1 => ?_
  rw [List.append_nil] at n1
  cases r1 with
  | @list a vs _ ha hs1 =>
    have hl := hs1.len
    rw [List.nil_append]
    simp only [kCall, kCons, kVar, hv]
    have hn2 : (Mx ++ M)[Mx.length + n]? = some (p, pool c s) := by rw [List.getElem?_append_right (by omega), Nat.add_sub_cancel_left]; exact hn
    refine ⟨p, L, Mx.length + n, c, s, rfl, rfl, hn2, hs, by omega, by omega, fun r c' s' r0 r1 hs' => ?_⟩
    obtain ⟨j, rfl⟩ := Int.eq_ofNat_of_zero_le r0
    obtain ⟨y, d, hy, hd, ry⟩ := hs1.get (i := j) (by omega)
    have hne : (a, HO.lst vs) ∈ Mx → (a, HO.lst vs) ∈ (Mx ++ M).set (Mx.length + n) (p, pool c' s') := fun z => by
      rw [List.set_append_right _ _ (by omega)]; exact List.mem_append.mpr (.inl z)
    refine ⟨vs, y, ?_, atI_nat hy, ?_⟩
    · rcases ha with z | z
      · exact .inl (.inl (hne z))
      · exact .inl (.inr (sql_of z))
    · have := q y d G1 Mx c' s' e1 n1 (List.mem_of_getElem? hd) ry hs'
      rw [List.set_append_right _ _ (by omega), Nat.add_sub_cancel_left]; exact this
end
/-! what is known of written things -/
def XD.ty : XD → PT
  | .non => .non | .bl _ => .bool | .int _ => .int | .str _ => .str | .list _ => .list | .tup _ => .tuple | .dict => .dict
theorem rp_ty {K : PySem.W.Frag} {G : Hp} {v : V} {d : XD} (h : Rp K G [] v d) (M : Mem) : TyK K G M v d.ty := by
  cases h with
  | non => exact ty_non
  | bl b => exact ty_bl
  | int i => exact ty_int
  | str s => exact ty_str
  | list h _ =>
    rcases h with z | z
    · cases z
    · exact ty_lst (.inr (sql_of z))
  | tup h _ => exact ty_tup h
  | dict h =>
    rcases h with z | z
    · cases z
    · exact ty_dict (.inr z)
mutual
def XD.toD : XD → Option PyData
  | .non => some .none
  | .bl b => some (.bool b)
  | .int i => some (.int i)
  | .str s => some (.str s)
  | .list l => (XD.toDs l).map .list
  | .tup l => (XD.toDs l).map .tuple
  | .dict => none
def XD.toDs : List XD → Option (List PyData)
  | [] => some []
  | x :: l => match x.toD, XD.toDs l with
    | some d, some ds => some (d :: ds)
    | _, _ => none
end
mutual
theorem rp_dp {K : PySem.W.Frag} {G : Hp} : ∀ {v : V} {d : XD} {e : PyData}, Rp K G [] v d → d.toD = some e → Dp K G v e
  | _, _, _, .non, h => by cases h; exact .non
  | _, _, _, .bl b, h => by cases h; exact .bl b
  | _, _, _, .int b, h => by cases h; exact .int b
  | _, _, _, .str b, h => by cases h; exact .str b
  | _, _, e, .list (ds := ds) ha hs, h => by
    have h : (XD.toDs ds).map PyData.list = some e := h
    obtain ⟨es, h1, rfl⟩ := Option.map_eq_some_iff.mp h
    rcases ha with z | z
    · cases z
    · exact .lst (sql_of z) (rpa_dp hs h1)
  | _, _, e, .tup (ds := ds) ha hs, h => by
    have h : (XD.toDs ds).map PyData.tuple = some e := h
    obtain ⟨es, h1, rfl⟩ := Option.map_eq_some_iff.mp h
    exact .tup ha (rpa_dp hs h1)
  | _, _, _, .dict _, h => by cases h
theorem rpa_dp {K : PySem.W.Frag} {G : Hp} : ∀ {vs : List V} {ds : List XD} {es : List PyData}, RpA K G [] vs ds → XD.toDs ds = some es → DpAll K G vs es
  | _, _, _, .nil, h => by cases h; exact .nil
  | _, _, es, .cons (d := d) (ds := ds) a b, h => by
    have h : (match d.toD, XD.toDs ds with | some d, some ds => some (d :: ds) | _, _ => none) = some es := h
    split at h
    · rename_i d' ds' e1 e2
      cases h
      exact .cons (rp_dp a e1) (rpa_dp b e2)
    · cases h
end
end BT
namespace BT
open PySem PySem.Spec L2
theorem LitOk.use {K : PySem.W.Frag} {te : KE} {σ : St} {G : Hp} {d : XD} {M : Mem} {R : KR} {E : KX} (h : LitOk K te σ G d) (q : ∀ v G' Mx, Ex G G' → NewC G' Mx → Rp K G' Mx v d → R v G' (Mx ++ M)) : te σ G M R E :=
  h G [] M R E Ex.refl NewC.nil fun v G' Mx e n r => by rw [List.append_nil] at n; exact q v G' Mx e n r
theorem Wk.dropP {G : Hp} (Mx : Mem) {M : Mem} : Wk G (Mx ++ M) G M := fun H hv => ⟨hv.ex, fun x hx => hv.mu x (List.mem_append.mpr (.inr hx)), hv.nd.sublist ((List.sublist_append_right Mx M).map _), fun x hx => hv.dj x (List.mem_append.mpr (.inr hx))⟩
end BT
set_option Elab.async false
set_option linter.all false
set_option maxRecDepth 100000
set_option maxHeartbeats 4000000
namespace BT
open PySem PySem.Spec L2
open PyProof.Rows hiding St
/-! ### dicts that are walked: locked while it goes on -/
def unl (G : Hp) (d : Addr) : Hp := fun a => if a = d then none else G a
theorem unl_upd {G : Hp} {d : Addr} {o : HO} (h : G d = none) : unl (upd G d o) d = G := by
  funext a
  unfold unl
  by_cases e : a = d
  · rw [if_pos e, e, h]
  · rw [if_neg e, upd_ne e]
theorem hv_lock {G : Hp} {M1 M2 : Mem} {H : Hp} {d : Addr} {u o : HO} (h : Hv G (M1 ++ (d, u) :: M2) H) : Hv (upd G d o) (M1 ++ M2) (upd H d o) := by
  have hg : G d = none := h.dj (d, u) (by simp)
  have h2 := Wk.drop (G := G) M1 (x := (d, u)) (M2 := M2) H h
  have nd : ∀ x, x ∈ M1 ++ M2 → x.1 ≠ d := fun x hx z => by
    have nd := h.nd
    rw [List.map_append, List.map_cons, List.nodup_append] at nd
    obtain ⟨n1, n2, n3⟩ := nd
    rcases List.mem_append.mp hx with q | q
    · exact n3 x.1 (List.mem_map.mpr ⟨x, q, rfl⟩) d (by simp) z
    · rw [List.nodup_cons] at n2
      exact n2.1 (by rw [← z]; exact List.mem_map.mpr ⟨x, q, rfl⟩)
  refine ⟨fun b v e => ?_, fun x hx => ?_, h2.nd, fun x hx => ?_⟩
  · by_cases hb : b = d
    · subst hb; rw [upd_same] at e ⊢; exact e
    · rw [upd_ne hb] at e ⊢; exact h.ex b v e
  · rw [upd_ne (nd x hx)]; exact h2.mu x hx
  · rw [upd_ne (nd x hx)]; exact h2.dj x hx
theorem hv_unlock {G : Hp} {M : Mem} {H : Hp} {d : Addr} {u o : HO} (h : Hv G M H) (hd : G d = some o) : Hv (unl G d) ((d, u) :: M) (upd H d u) := by
  have nd : ∀ x, x ∈ M → x.1 ≠ d := fun x hx z => by
    have := h.dj x hx
    rw [z, hd] at this; cases this
  refine ⟨fun b v e => ?_, fun x hx => ?_, ?_, fun x hx => ?_⟩
  · unfold unl at e
    by_cases hb : b = d
    · rw [if_pos hb] at e; cases e
    · rw [if_neg hb] at e; rw [upd_ne hb]; exact h.ex b v e
  · rcases List.mem_cons.mp hx with rfl | hx
    · exact upd_same
    · rw [upd_ne (nd x hx)]; exact h.mu x hx
  · rw [List.map_cons, List.nodup_cons]
    refine ⟨fun z => ?_, h.nd⟩
    obtain ⟨x, hx, e⟩ := List.mem_map.mp z
    exact nd x hx e
  · unfold unl
    rcases List.mem_cons.mp hx with rfl | hx
    · rw [if_pos rfl]
    · rw [if_neg (nd x hx)]; exact h.dj x hx
/-- a statement with a dict locked -/
def kLock (t : KS) : KS := fun D σ G M => ∃ (M1 M2 : Mem) (d : Addr) (kvs : List (Key × V)), M = M1 ++ (d, .dK kvs) :: M2 ∧ ∀ od : Obj, G d = none →
  t { nx := fun σ' G' M' => G' d = some (.frz od (.dK kvs)) ∧ D.nx σ' (unl G' d) ((d, .dK kvs) :: M'), rt := fun v G' M' => G' d = some (.frz od (.dK kvs)) ∧ D.rt v (unl G' d) ((d, .dK kvs) :: M'), bk := fun _ _ _ => False, ct := fun _ _ _ => False, xc := fun _ _ _ _ _ => False } σ (upd G d (.frz od (.dK kvs))) (M1 ++ M2)
section
variable {X : Cx} {W : WX} {pos : Pos} {o i e f tg : Expr}
theorem js_lock {s : Stmt} {t : KS} (h : JS X W s t) : JS X W s (kLock t) :=
  ps_mono (ps_lock h) fun D σ H ⟨G, M, d, hv, ⟨M1, M2, dd, kvs, e, q⟩, en⟩ => by
    subst e
    exact ⟨dd, .dK kvs, hv.mu (dd, .dK kvs) (by simp), trivial, fun od => ⟨upd G dd (.frz od (.dK kvs)), M1 ++ M2, _, hv_lock hv, q od (hv.dj (dd, .dK kvs) (by simp)), ⟨fun σ' G' M' H' hv' ⟨e1, e2⟩ => ⟨hv'.ex _ _ e1, en.nx σ' _ _ _ (hv_unlock hv' e1) e2⟩, fun v G' M' H' hv' ⟨e1, e2⟩ => ⟨hv'.ex _ _ e1, en.rt v _ _ _ (hv_unlock hv' e1) e2⟩, fun _ _ _ _ _ z => z.elim, fun _ _ _ _ _ z => z.elim, fun _ _ _ _ _ _ _ z => z.elim⟩⟩⟩
/-- an expression with a dict locked -/
def kLockE (t : KE) : KE := fun σ G M R E => ∃ (M1 M2 : Mem) (d : Addr) (kvs : List (Key × V)), M = M1 ++ (d, .dK kvs) :: M2 ∧ ∀ od : Obj, G d = none →
  t σ (upd G d (.frz od (.dK kvs))) (M1 ++ M2) (fun v G' M' => G' d = some (.frz od (.dK kvs)) ∧ R v (unl G' d) ((d, .dK kvs) :: M')) (fun _ _ _ _ => False)
theorem je_lock {t : KE} (h : JE X W e t) : JE X W e (kLockE t) :=
  pe_mono (pe_lock h) fun σ H Q ⟨G, M, R, E, hv, ⟨M1, M2, dd, kvs, e, q⟩, hR, hE⟩ => by
    subst e
    exact ⟨dd, .dK kvs, hv.mu (dd, .dK kvs) (by simp), trivial, fun od => ⟨upd G dd (.frz od (.dK kvs)), M1 ++ M2, _, _, hv_lock hv, q od (hv.dj (dd, .dK kvs) (by simp)), fun v G' M' H' hv' ⟨e1, e2⟩ => ⟨hv'.ex _ _ e1, hR v _ _ _ (hv_unlock hv' e1) e2⟩, fun _ _ _ _ _ _ z => z.elim⟩⟩
/-! what is walked -/
def srcK (d : Addr) (o : Obj) (kvs : List (Key × V)) : Src := ⟨kvs.length, fun i => .inl (match kvs[i]? with | some p => kV p.1 | none => .non), fun G M => G d = some (.frz o (.dK kvs))⟩
def srcVs (d : Addr) (o : Obj) (kvs : List (Key × V)) : Src := ⟨kvs.length, fun i => .inl (match kvs[i]? with | some p => p.2 | none => .non), fun G M => G d = some (.frz o (.dK kvs))⟩
def srcI (d : Addr) (o : Obj) (kvs : List (Key × V)) : Src := ⟨kvs.length, fun i => .inr (match kvs[i]? with | some p => [kV p.1, p.2] | none => []), fun G M => G d = some (.frz o (.dK kvs))⟩
theorem goes_K {d : Addr} {o : Obj} {kvs : List (Key × V)} : Goes (srcK d o kvs) (Itk d o kvs) where
  go := fun i G M H hv ok hi => ⟨hv.ex _ _ ok, hi⟩
  stop := fun i G M H hv ok hi => ⟨hv.ex _ _ ok, hi⟩
  yld := fun i G M H x H' hv ok hi y => by
    obtain ⟨e1, k, v, e2, e3⟩ := y
    show x = (match kvs[i]? with | some p => kV p.1 | none => .non) ∧ H' = H
    rw [e2]; exact ⟨e3, e1⟩
theorem goes_Vs {d : Addr} {o : Obj} {kvs : List (Key × V)} : Goes (srcVs d o kvs) (Itd d o kvs) where
  go := fun i G M H hv ok hi => ⟨hv.ex _ _ ok, hi⟩
  stop := fun i G M H hv ok hi => ⟨hv.ex _ _ ok, hi⟩
  yld := fun i G M H x H' hv ok hi y => by
    obtain ⟨e1, k, e2⟩ := y
    show x = (match kvs[i]? with | some p => p.2 | none => .non) ∧ H' = H
    rw [e2]; exact ⟨rfl, e1⟩
theorem goes_I {d : Addr} {o : Obj} {kvs : List (Key × V)} : Goes (srcI d o kvs) (Iti d o kvs) where
  go := fun i G M H hv ok hi => ⟨hv.ex _ _ ok, hi⟩
  stop := fun i G M H hv ok hi => ⟨hv.ex _ _ ok, hi⟩
  yld := fun i G M H x H' hv ok hi y => by
    obtain ⟨T, k, v, e1, e2, e3, e4⟩ := y
    show ∃ T, x = .ref T ∧ H T = none ∧ H' = upd H T (.tup (match kvs[i]? with | some p => [kV p.1, p.2] | none => []))
    rw [e1]; exact ⟨T, e2, e3, e4⟩
def kiKeys (t : KE) : KI := fun σ G M R E => t σ G M (fun x G M => match x with
  | .ref d => ∃ o kvs, G d = some (.frz o (.dK kvs)) ∧ R (srcK d o kvs) G M
  | _ => False) E
def kiVals (t : KE) : KI := fun σ G M R E => t σ G M (fun x G M => match x with
  | .ref d => ∃ o kvs, G d = some (.frz o (.dK kvs)) ∧ R (srcVs d o kvs) G M
  | _ => False) E
def kiItems (t : KE) : KI := fun σ G M R E => t σ G M (fun x G M => match x with
  | .ref d => ∃ o kvs, G d = some (.frz o (.dK kvs)) ∧ R (srcI d o kvs) G M
  | _ => False) E
theorem ji_keys {t : KE} (h : JE X W e t) : JI X W tg e (kiKeys t) :=
  pi_mono (pi_keys h) fun σ H Q ⟨G, M, R, E, hv, h, hR, hE⟩ => ⟨G, M, _, E, hv, h, fun x G1 M1 H1 hv1 q => by
    match x, q with
    | .ref d, ⟨o, kvs, q1, q2⟩ => exact ⟨d, o, rfl, .inl ⟨kvs, hv1.ex _ _ q1, hR _ G1 M1 H1 hv1 q2 _ goes_K⟩⟩, hE⟩
theorem ji_vals {t : KE} {apos cpos : Pos} (h : JE X W e t) (hbase : attributeBase e "values" X.env (eval e X.env) = eval e X.env := by rfl) (hline : (apos.endLine == cpos.line) = true := by rfl) : JI X W tg (.Call (.Attribute e "values" apos) [] [] cpos) (kiVals t) :=
  pi_mono (pi_values h hbase hline) fun σ H Q ⟨G, M, R, E, hv, h, hR, hE⟩ => ⟨G, M, _, E, hv, h, fun x G1 M1 H1 hv1 q => by
    match x, q with
    | .ref d, ⟨o, kvs, q1, q2⟩ => exact ⟨d, o, kvs, rfl, hv1.ex _ _ q1, hR _ G1 M1 H1 hv1 q2 _ goes_Vs⟩, hE⟩
theorem ji_items {t : KE} {apos cpos tpos : Pos} {elts : List Expr} {kk : Nat} (h : JE X W e t) (hbase : attributeBase e "items" X.env (eval e X.env) = eval e X.env := by rfl) (hline : (apos.endLine == cpos.line) = true := by rfl) : JI X W (.Tuple elts kk tpos) (.Call (.Attribute e "items" apos) [] [] cpos) (kiItems t) :=
  pi_mono (pi_items h hbase hline) fun σ H Q ⟨G, M, R, E, hv, h, hR, hE⟩ => ⟨G, M, _, E, hv, h, fun x G1 M1 H1 hv1 q => by
    match x, q with
    | .ref d, ⟨o, kvs, q1, q2⟩ => exact ⟨d, o, kvs, rfl, hv1.ex _ _ q1, hR _ G1 M1 H1 hv1 q2 _ goes_I⟩, hE⟩
theorem ex_lock {G : Hp} {d : Addr} {o : HO} (h : G d = none) : Ex G (upd G d o) := fun a u e => by
  rw [upd_ne (fun z => by rw [z, h] at e; cases e)]; exact e
/-- d[k], also while d is walked -/
def kDGetF : KR2 := fun x y G M R => match x with
  | .ref a => ∃ (kvs : List (Key × V)) (k : Key) (v : V), (At G M a (.dK kvs) ∨ ∃ od, G a = some (.frz od (.dK kvs))) ∧ y = kV k ∧ valV kvs k = some v ∧ R v G M
  | _ => False
theorem je_dgetF {ta tb : KE} (hu : X.A.units + 64 < cLine) (ha : JE X W o ta) (hb : JE X W i tb) (hs : NoSl i := by exact fun _ _ => rfl) : JE X W (.Subscript o i pos) (kBin kDGetF ta tb) :=
  pe_mono (pe_dget (by omega) ha hb hs) fun σ H Q ⟨G, M, R, E, hv, h, hR, hE⟩ => ⟨G, M, _, E, hv, h, fun x G1 M1 H1 hv1 q1 => ⟨G1, M1, _, E, hv1, q1, fun y G2 M2 H2 hv2 q2 => by
    match x, q2 with
    | .ref a, ⟨kvs, k, v, q3, q4, q5, q6⟩ =>
      subst q4
      refine ⟨a, v, rfl, ?_, hR _ G2 M2 H2 hv2 q6⟩
      rw [← q5]
      rcases q3 with q3 | ⟨od, q3⟩
      · exact DGet.k (hv2.at q3)
      · exact .inl ⟨kvs, k, .inr ⟨od, hv2.ex _ _ q3⟩, rfl, rfl⟩, hE⟩, hE⟩
/-- list(d.items()) -/
def kItems (t : KE) : KE := fun σ G M R E => t σ G M (fun x G M => match x with
  | .ref d => ∃ kvs, At G M d (.dK kvs) ∧ ∀ (G' : Hp) (p : Addr) (ts : List Addr), Ex G G' → Fr G' M p → ts.length = kvs.length → (∀ (i : Nat) (q : Key × V), kvs[i]? = some q → ∃ T, ts[i]? = some T ∧ G' T = some (.tup [kV q.1, q.2])) → R (.ref p) G' ((p, .lst (ts.map V.ref)) :: M)
  | _ => False) E
theorem paired_get2 {α β : Type} {F : α → β → Prop} : ∀ {xs : List α} {ys : List β}, Paired F xs ys → ∀ {i : Nat} {y : β}, ys[i]? = some y → ∃ x, xs[i]? = some x ∧ F x y
  | _, _, .nil, _, _, h => by simp at h
  | _, _, .cons r t, 0, y, h => by
    have e := Option.some.inj h
    subst e
    exact ⟨_, rfl, r⟩
  | _, _, .cons r t, i + 1, y, h => by
    obtain ⟨x, h1, h2⟩ := paired_get2 t (i := i) (y := y) (by simpa using h)
    exact ⟨x, by simpa using h1, h2⟩
theorem je_items {t : KE} {p apos cpos pos : Pos} (hm : X.mg "list" = none) (he : JE X W e t) (hc : X.calm = true := by rfl) (hg : Gl X "list" := by rfl) (hv : bootBuiltins "list" = some (.type "list") := by decide +kernel) (hbase : attributeBase e "items" X.env (eval e X.env) = eval e X.env := by rfl) (hline : (apos.endLine == cpos.line) = true := by rfl)
    (hs : starEach [.Call (.Attribute e "items" apos) [] [] cpos] X.env = (false, eval (.Call (.Attribute e "items" apos) [] [] cpos) X.env) :: starEach [] X.env := by rfl) :
    JE X W (.Call (.Name "list" p) [.Call (.Attribute e "items" apos) [] [] cpos] [] pos) (kItems t) :=
  pe_mono (LiI.pe_listItems hc he hg hm hv hbase hline hs) fun σ H Q ⟨G, M, R, E, hv, h, hR, hE⟩ => ⟨G, M, _, E, hv, h, fun x G1 M1 H1 hv1 q => by
    match x, q with
    | .ref d, ⟨kvs, q1, q2⟩ =>
      refine ⟨d, kvs, rfl, hv1.at q1, fun H' p ts ex hp hts hpt hpl pr => ?_⟩
      obtain ⟨G', hG'⟩ : ∃ G' : Hp, G' = fun a => if a ∈ ts then H' a else G1 a := ⟨_, rfl⟩
      have eG : Ex G1 G' := fun a u e => by
        rw [hG']
        show (if a ∈ ts then H' a else G1 a) = some u
        rw [if_neg (fun z => by have := hts a z; rw [hv1.ex a u e] at this; cases this)]; exact e
      have gp : G1 p = none := by
        cases e : G1 p with
        | none => rfl
        | some u => rw [hv1.ex p u e] at hp; cases hp
      have mp : ∀ x, x ∈ M1 → x.1 ≠ p := fun x hx z => by have := hv1.mu x hx; rw [z, hp] at this; cases this
      have mt : ∀ x, x ∈ M1 → x.1 ∉ ts := fun x hx z => by have := hv1.mu x hx; rw [hts _ z] at this; cases this
      have fp : Fr G' M1 p := ⟨by rw [hG']; show (if p ∈ ts then _ else _) = none; rw [if_neg hpt]; exact gp, mp⟩
      have hv2 : Hv G' ((p, .lst (ts.map V.ref)) :: M1) H' := by
        refine ⟨fun a u e => ?_, fun x hx => ?_, ?_, fun x hx => ?_⟩
        · rw [hG'] at e
          have e : (if a ∈ ts then H' a else G1 a) = some u := e
          split at e
          · exact e
          · exact ex a u (hv1.ex a u e)
        · rcases List.mem_cons.mp hx with rfl | hx
          · exact hpl
          · exact ex _ _ (hv1.mu x hx)
        · rw [List.map_cons, List.nodup_cons]
          refine ⟨fun z => ?_, hv1.nd⟩
          obtain ⟨x, hx, e⟩ := List.mem_map.mp z
          exact mp x hx e
        · rw [hG']
          rcases List.mem_cons.mp hx with rfl | hx
          · show (if p ∈ ts then _ else _) = none
            rw [if_neg hpt]; exact gp
          · show (if x.1 ∈ ts then _ else _) = none
            rw [if_neg (mt x hx)]; exact hv1.dj x hx
      refine hR _ G' _ H' hv2 (q2 G' p ts eG fp (Paired.length pr) fun i kv hkv => ?_)
      obtain ⟨T, h1, h2⟩ := paired_get2 pr hkv
      refine ⟨T, h1, ?_⟩
      rw [hG']
      show (if T ∈ ts then H' T else _) = _
      rw [if_pos (List.mem_of_getElem? h1)]; exact h2, hE⟩
end
end BT
namespace BT
open PySem PySem.Spec L2
open PyProof.Rows hiding St
def storeKs : List Nat := []
/-! ### whole numbers -/
def isIntV : V → Bool
  | .int _ => true
  | _ => false
def withinV (x : V) (lo hi : Int) : Bool := match x with
  | .int i => decide (lo ≤ i) && decide (i ≤ hi)
  | _ => false
def S_is_whole (K : PySem.W.Frag) : KSp := sp1 fun x G M R Z => ∃ T : PT, TyK K G M x T ∧ R (.bl (T == .int)) G M
def S_is_within (K : PySem.W.Frag) : KSp := sp3 fun x y z G M R Z => ∃ (T : PT) (lo hi : Int), y = .int lo ∧ z = .int hi ∧ TyK K G M x T ∧ (T == .int) = isIntV x ∧ R (.bl (withinV x lo hi)) G M
def isStrV : V → Bool
  | .str _ => true
  | _ => false

/-! ### things whose type is known -/
def WOk (K : PySem.W.Frag) (G : Hp) (w : V) : Prop := ∃ S : PT, (∀ M, TyK K G M w S) ∧ (S == .str) = isStrV w
def IOk (K : PySem.W.Frag) (G : Hp) (x : V) : Prop := ∃ T : PT, (∀ M, TyK K G M x T) ∧ (T == .int) = isIntV x

/-! ### kinds and draws -/
structure Kn where
  leaf : Bool
  n : Nat
def Kn.txt (k : Kn) : Str := if k.leaf then "leaf" else "shuffle"
def KnOk (k : Kn) : Prop := k.n ≤ 64 ∧ (k.leaf = true → k.n ≤ 6) ∧ (k.leaf = false → 1 ≤ k.n)
def fac : Nat → Nat
  | 0 => 1
  | n + 1 => (n + 1) * fac n
def manyK (k : Kn) : Nat := if k.leaf then 2 ^ k.n else fac k.n
def prK : List Kn → Nat
  | [] => 1
  | k :: ks => manyK k * prK ks
def knD (k : Kn) : PyData := .tuple [.str k.txt, .int k.n]
def rowAt : Nat → Nat → List Nat
  | 0, _ => []
  | s + 1, n => rowAt s (n / (s + 1)) ++ [n % (s + 1)]
/-- a draw: a leaf's number, or a row -/
inductive Dr | leaf (n : Nat) | row (l : List Nat)
def dOf (k : Kn) (n : Nat) : Dr := if k.leaf then .leaf n else .row (rowAt k.n n)
def drR : List Kn → Nat → List Dr
  | [], _ => []
  | k :: ks, n => dOf k (n % manyK k) :: drR ks (n / manyK k)
def drawsAt (ks : List Kn) (n : Nat) : List Dr := (drR ks.reverse n).reverse
def natsV (l : List Nat) : List V := l.map fun (n : Nat) => V.int (n : Int)
inductive A2 {α β : Type} (r : α → β → Prop) : List α → List β → Prop
  | nil : A2 r [] []
  | cons {a : α} {b : β} {as : List α} {bs : List β} : r a b → A2 r as bs → A2 r (a :: as) (b :: bs)
/-- a draw as it lies: a row's list is one of the cells -/
def DrM (M : Mem) (v : V) (d : Dr) : Prop := match d with
  | .leaf n => v = .int n
  | .row l => ∃ b, v = .ref b ∧ (b, HO.lst (natsV l)) ∈ M
def DrV (K : PySem.W.Frag) (G : Hp) (M : Mem) (v : V) (d : Dr) : Prop := match d with
  | .leaf n => v = .int n
  | .row l => ∃ b, v = .ref b ∧ LstAt K G M b (natsV l)
def KnAt (K : PySem.W.Frag) (G : Hp) (M : Mem) (a : Addr) (ks : List Kn) : Prop := ∃ us, LstAt K G M a us ∧ DpAll K G us (ks.map knD) ∧ (∀ k, k ∈ ks → KnOk k) ∧ ks.length ≤ 1000
def DrAt (K : PySem.W.Frag) (G : Hp) (M : Mem) (a : Addr) (ds : List Dr) : Prop := ∃ us, LstAt K G M a us ∧ A2 (DrV K G M) us ds
def DrOk (k : Kn) (d : Dr) : Prop := match d with
  | .leaf n => k.leaf = true ∧ n < 2 ^ k.n
  | .row l => k.leaf = false ∧ l.length = k.n ∧ ∀ (i v : Nat), l[i]? = some v → v ≤ i
def S_leaves (K : PySem.W.Frag) : KSp := sp1 fun x G M R Z => ∃ n : Nat, x = .int n ∧ n ≤ 1000 ∧ R (.int ((2 ^ n : Nat) : Int)) G M
def S_many_of (K : PySem.W.Frag) : KSp := sp1 fun x G M R Z => ∃ k : Kn, Dp K G x (knD k) ∧ KnOk k ∧ R (.int (manyK k)) G M
def S_how_many (K : PySem.W.Frag) : KSp := sp1 fun x G M R Z => ∃ (a : Addr) (ks : List Kn), x = .ref a ∧ KnAt K G M a ks ∧ R (.int (prK ks)) G M
def S_row_at (K : PySem.W.Frag) : KSp := sp2 fun x y G M R Z => ∃ s n : Nat, x = .int s ∧ y = .int n ∧ s ≤ 64 ∧ ∀ p, Fr G M p → R (.ref p) G ((p, .lst (natsV (rowAt s n))) :: M)
def S_draws_at (K : PySem.W.Frag) : KSp := sp2 fun x y G M R Z => ∃ (a : Addr) (ks : List Kn) (T : PT), x = .ref a ∧ KnAt K G M a ks ∧ TyK K G M y T ∧ (T == .int) = isIntV y ∧
  (∀ n : Nat, y = .int n → n < prK ks → ∀ (p : Addr) (us : List V) (Mn : Mem), A2 (DrM Mn) us (drawsAt ks n) → R (.ref p) G ((p, .lst us) :: (Mn ++ M))) ∧
  (withinV y 0 ((prK ks : Int) - 1) = false → Z (.ref (cl K "NoNumber")) none G M)

/-! ### sizes and needs -/
def highN (m : Nat) : Nat := ((List.range 6).filter fun k => decide (2 ^ k < m)).length
def lastN (m : Nat) : Nat := highN m - 1
def sideN (m : Nat) : Nat := ((List.range 7).filter fun k => decide (1 ≤ k) && decide (m ≤ k * k)).headD 0
def stairN (m p : Nat) : Nat := ((List.range 6).filter fun k => decide (k = lastN m) || decide (p % (2 * 2 ^ k) ≠ 0)).headD 0
def slotA (m st : Nat) : Nat := if st = lastN m then m else 2 * 2 ^ st
def trN : Nat → Nat → List Nat
  | 0, m => [m]
  | f + 1, m => if 4 < m then m :: trN f ((m + 3) / 4) else [m]
def treesN (m : Nat) : List Nat := trN 3 m
def spareK (m most : Nat) : List Kn := List.replicate ((most + sideN m - 1) / sideN m) ⟨false, m + sideN m⟩
def stairL (m most : Nat) : List Nat := lastN m :: (List.range ((most + 1) / 2 - 1)).map fun i => stairN m (i + 1)
def stairsK (m most : Nat) : List Kn := if most = 0 then [] else (stairL m most).map fun st => ⟨false, slotA m st + 2 * 2 ^ st⟩
def groveK (ts : List Nat) (most : Nat) : List Kn := (ts.flatMap fun m => List.replicate m ⟨true, highN m⟩) ++ (List.replicate most (ts.map fun m => (⟨true, highN m⟩ : Kn))).flatten
def kindsK (w : Str) (m most : Nat) : List Kn := if w = "spare" then spareK m most else if w = "stairs" then stairsK m most else if w = "tree" then groveK [m] most else if w = "grove" then groveK (treesN m) most else []
/-- a list of kinds that was told: a cell of its own -/
def KndsR (K : PySem.W.Frag) (G : Hp) (M : Mem) (ks : List Kn) (R : KR) : Prop := ∀ (t : Addr) (us : List V) (G' : Hp), Ex G G' → DpAll K G' us (ks.map knD) → R (.ref t) G' ((t, .lst us) :: M)
def natOk (x : V) (m : Nat) (lo hi : Nat) : Prop := x = .int m ∧ lo ≤ m ∧ m ≤ hi
def S_side_of (K : PySem.W.Frag) : KSp := sp1 fun x G M R Z => ∃ m, natOk x m 1 32 ∧ R (.int (sideN m)) G M
def S_high_of (K : PySem.W.Frag) : KSp := sp1 fun x G M R Z => ∃ m, natOk x m 1 32 ∧ R (.int (highN m)) G M
def S_last_of (K : PySem.W.Frag) : KSp := sp1 fun x G M R Z => ∃ m, natOk x m 1 32 ∧ R (.int (lastN m)) G M
def S_stair_of (K : PySem.W.Frag) : KSp := sp2 fun x y G M R Z => ∃ m p, natOk x m 1 32 ∧ natOk y p 1 30 ∧ R (.int (stairN m p)) G M
def S_slots_of (K : PySem.W.Frag) : KSp := sp2 fun x y G M R Z => ∃ m st, natOk x m 1 32 ∧ natOk y st 0 6 ∧ ∀ t G', Ex G G' → SqT K G' t [.int (slotA m st), .int ((2 * 2 ^ st : Nat) : Int)] → R (.ref t) G' M
def S_trees_of (K : PySem.W.Frag) : KSp := sp1 fun x G M R Z => ∃ m, natOk x m 1 32 ∧ ∀ t, Fr G M t → R (.ref t) G ((t, .lst (natsV (treesN m))) :: M)
def S_look_at_many (K : PySem.W.Frag) : KSp := sp1 fun x G M R Z => ∃ T : PT, TyK K G M x T ∧ (T == .int) = isIntV x ∧ (withinV x 1 32 = true → R .non G M) ∧ (withinV x 1 32 = false → Z (.ref (cl K "NoSize")) none G M)
def S_look_at_sizes (K : PySem.W.Frag) : KSp := sp2 fun x y G M R Z => ∃ T U : PT, TyK K G M x T ∧ (T == .int) = isIntV x ∧ TyK K G M y U ∧ (U == .int) = isIntV y ∧
  ((withinV x 1 32 && withinV y 0 60) = true → R .non G M) ∧ ((withinV x 1 32 && withinV y 0 60) = false → Z (.ref (cl K "NoSize")) none G M)
def waysL : List Str := ["scan", "spare", "stairs", "tree", "grove"]
def wayV (x : V) : Bool := match x with
  | .str s => waysL.contains s
  | _ => false
def S_look_at_way (K : PySem.W.Frag) : KSp := sp1 fun x G M R Z => ∃ T : PT, TyK K G M x T ∧ (T == .str) = isStrV x ∧ (wayV x = true → R .non G M) ∧ (wayV x = false → Z (.ref (cl K "NoWay")) none G M)
def S_spare_needs (K : PySem.W.Frag) : KSp := sp2 fun x y G M R Z => ∃ m q, natOk x m 1 32 ∧ natOk y q 0 60 ∧ KndsR K G M (spareK m q) R
def S_stairs_needs (K : PySem.W.Frag) : KSp := sp2 fun x y G M R Z => ∃ m q, natOk x m 1 32 ∧ natOk y q 0 60 ∧ KndsR K G M (stairsK m q) R
def S_grove_needs (K : PySem.W.Frag) : KSp := sp2 fun x y G M R Z => ∃ (a : Addr) (ts : List Nat) (q : Nat), x = .ref a ∧ LstAt K G M a (natsV ts) ∧ (∀ t, t ∈ ts → 1 ≤ t ∧ t ≤ 32) ∧ ts.length ≤ 3 ∧ natOk y q 0 60 ∧ KndsR K G M (groveK ts q) R
def S_kinds_of (K : PySem.W.Frag) : KSp := sp3 fun w x y G M R Z => ∃ (s : Str) (m q : Nat), w = .str s ∧ natOk x m 1 32 ∧ natOk y q 0 60 ∧ KndsR K G M (kindsK s m q) R
def S_needs (K : PySem.W.Frag) : KSp := sp3 fun w x y G M R Z => ∃ S T U : PT, TyK K G M w S ∧ (S == .str) = isStrV w ∧ TyK K G M x T ∧ (T == .int) = isIntV x ∧ TyK K G M y U ∧ (U == .int) = isIntV y ∧
  (∀ (s : Str) (m q : Nat), w = .str s → wayV w = true → natOk x m 1 32 → natOk y q 0 60 → KndsR K G M (kindsK s m q) R) ∧
  (wayV w = false → Z (.ref (cl K "NoWay")) none G M) ∧ (wayV w = true → (withinV x 1 32 && withinV y 0 60) = false → Z (.ref (cl K "NoSize")) none G M)

/-! ### orders and rows: what they are -/
def swapL (l : List Nat) (i j : Nat) : List Nat := (l.set i (l.getD j 0)).set j (l.getD i 0)
def walkO (r : Nat → Nat) : Nat → List Nat → List Nat
  | 0, o => o
  | m + 1, o => walkO r m (swapL o (m + 1) (r (m + 1)))
def orderOf (l : List Nat) : List Nat := walkO (fun i => l.getD i 0) (l.length - 1) (List.range l.length)
def walkR (o : Nat → Nat) : Nat → List Nat → List Nat → List Nat
  | 0, _, row => row
  | m + 1, left, row => walkR o m (swapL left (m + 1) (left.idxOf (o (m + 1)))) (row.set (m + 1) (left.idxOf (o (m + 1))))
def rowOf (o : List Nat) : List Nat := walkR (fun i => o.getD i 0) (o.length - 1) (List.range o.length) (List.replicate o.length 0)
/-- a shuffle's row -/
def RowOk (l : List Nat) : Prop := ∀ (i v : Nat), l[i]? = some v → v ≤ i
/-- an order of n -/
structure OrdOk (n : Nat) (o : List Nat) : Prop where
  len : o.length = n
  nd : o.Nodup
  lt : ∀ x, x ∈ o → x < n
/-- the ints of a list of things, where all are -/
def intOf : V → Int
  | .int i => i
  | _ => 0
def orderB (xs : List V) : Bool := decide (1 ≤ xs.length) && decide (xs.length ≤ 64) && xs.all (fun x => withinV x 0 ((xs.length : Int) - 1)) && decide ((xs.map intOf).Nodup)
def ItemsTy (K : PySem.W.Frag) (G : Hp) (M : Mem) (xs : List V) : Prop := ∀ x, x ∈ xs → ∃ T : PT, TyK K G M x T ∧ (T == .int) = isIntV x
/-- a thing that may be an order -/
def ordV (K : PySem.W.Frag) (G : Hp) (M : Mem) (x : V) (b : Bool) : Prop := (∃ T : PT, TyK K G M x T ∧ T ≠ .list ∧ b = false) ∨ ∃ (a : Addr) (xs : List V), x = .ref a ∧ LstAt K G M a xs ∧ xs.length ≤ 1000 ∧ ItemsTy K G M xs ∧ b = orderB xs
def S_is_order (K : PySem.W.Frag) : KSp := sp1 fun x G M R Z => ∃ b, ordV K G M x b ∧ R (.bl b) G M
def S_exchange (K : PySem.W.Frag) : KSp := sp3 fun x y z G M R Z => ∃ (a : Addr) (n : Nat) (l : List Nat) (i j : Nat), x = .ref a ∧ y = .int i ∧ z = .int j ∧ M[n]? = some (a, .lst (natsV l)) ∧ i < l.length ∧ j < l.length ∧ R .non G (M.set n (a, .lst (natsV (swapL l i j))))
def S_order_of (K : PySem.W.Frag) : KSp := sp1 fun x G M R Z => ∃ (a : Addr) (l : List Nat), x = .ref a ∧ LstAt K G M a (natsV l) ∧ RowOk l ∧ l.length ≤ 1000 ∧ ∀ t, Fr G M t → R (.ref t) G ((t, .lst (natsV (orderOf l))) :: M)
def S_row_of (K : PySem.W.Frag) : KSp := sp1 fun x G M R Z => (ordV K G M x false ∧ Z (.ref (cl K "NoOrder")) none G M) ∨ ∃ (a : Addr) (o : List Nat), x = .ref a ∧ LstAt K G M a (natsV o) ∧ OrdOk o.length o ∧ 1 ≤ o.length ∧ o.length ≤ 64 ∧ ∀ t, Fr G M t → R (.ref t) G ((t, .lst (natsV (rowOf o))) :: M)

/-! ### asks -/
inductive Deed | read (c : Nat) | write (c w : Nat)
def Deed.cell : Deed → Nat
  | .read c => c
  | .write c _ => c
def Deed.vs : Deed → List V
  | .read c => [.str "read", .int c]
  | .write c w => [.str "write", .int c, .int w]
def Deed.upd (ws : List Nat) : Deed → List Nat
  | .read _ => ws
  | .write c w => ws.set c w
def Deed.put (told : Nat) : Deed → Nat
  | .read _ => told
  | .write _ w => w
def DeedOk (m : Nat) (d : Deed) : Prop := d.cell < m ∧ match d with
  | .read _ => True
  | .write _ w => w ≤ 999999999999999999
def DeedAt (K : PySem.W.Frag) (G : Hp) (v : V) (d : Deed) : Prop := ∃ t, v = .ref t ∧ SqT K G t d.vs
/-- a thing whose first item may be compared with a text -/
def HeadOk (K : PySem.W.Frag) (G : Hp) (M : Mem) (x : V) : Prop := match x with
  | .ref a => (∃ d, DatAt K G M x d ∧ SeqAt.shaped d = true ∧ ∀ s, PyData.eqv d (.str s) = false) ∨ ∃ kvs, G a = some (.dK kvs)
  | .non => True
  | .int _ => True
  | .bl _ => True
  | .str _ => True
  | _ => False
def askB (m : Int) (xs : List V) : Bool := match xs with
  | x0 :: x1 :: r => withinV x1 0 (m - 1) && (match r with
    | [] => decide (x0 = .str "read")
    | [x2] => decide (x0 = .str "write") && withinV x2 0 999999999999999999
    | _ => false)
  | _ => false
def AskV (K : PySem.W.Frag) (G : Hp) (M : Mem) (m : Int) (y : V) (b : Bool) : Prop := (∃ T : PT, TyK K G M y T ∧ T ≠ .tuple ∧ b = false) ∨
  ∃ (t : Addr) (xs : List V), y = .ref t ∧ SqT K G t xs ∧ xs.length ≤ 1000 ∧ (∀ x, x ∈ xs → ∃ T : PT, TyK K G M x T ∧ (T == .int) = isIntV x) ∧ (∀ x, xs[0]? = some x → HeadOk K G M x) ∧ b = askB m xs
def S_is_ask (K : PySem.W.Frag) : KSp := sp2 fun x y G M R Z => ∃ (m : Int) (b : Bool), x = .int m ∧ AskV K G M m y b ∧ R (.bl b) G M
def S_need_ask (K : PySem.W.Frag) : KSp := sp2 fun x y G M R Z => ∃ (m : Int) (b : Bool), x = .int m ∧ AskV K G M m y b ∧ (b = true → R .non G M) ∧ (b = false → Z (.ref (cl K "NoAsk")) none G M)
/-- a thing that is no ask, wherever it is looked at -/
def NoAskG (K : PySem.W.Frag) (G : Hp) (m : Int) (v : V) : Prop := ∀ G2 M2, Ex G G2 → AskV K G2 M2 m v false

/-! ### signs: what they are -/
inductive Sg
  | room (lay : Bool) (sh r : Nat)
  | item (lay : Bool) (sh dr it : Nat)
  | way (lay : Bool) (sh dr dep sd : Nat)
  deriving DecidableEq
def deedS (b : Bool) : Str := if b then "lay" else "look"
def Sg.vs : Sg → List V
  | .room b s r => [.str "room", .str (deedS b), .int s, .int r]
  | .item b s d i => [.str "item", .str (deedS b), .int s, .int d, .int i]
  | .way b s d p e => [.str "way", .str (deedS b), .int s, .int d, .int p, .int e]
def sgD : Sg → PyData
  | .room b s r => .tuple [.str "room", .str (deedS b), .int s, .int r]
  | .item b s d i => .tuple [.str "item", .str (deedS b), .int s, .int d, .int i]
  | .way b s d p e => .tuple [.str "way", .str (deedS b), .int s, .int d, .int p, .int e]
def AsksAt (K : PySem.W.Frag) (G : Hp) (M : Mem) (a : Addr) (ds : List Deed) : Prop := ∃ us, LstAt K G M a us ∧ A2 (fun v d => DeedAt K G v d) us ds
def DsOk (m : Nat) (ds : List Deed) : Prop := (∀ d, d ∈ ds → DeedOk m d) ∧ ds.length ≤ 60
def SgR (K : PySem.W.Frag) (G : Hp) (M : Mem) (sg : List Sg) (R : KR) : Prop := ∀ (t : Addr) (us : List V) (G' : Hp), Ex G G' → DpAll K G' us (sg.map sgD) → R (.ref t) G' ((t, .lst us) :: M)
def scanRow (m : Nat) : List Sg := (List.range m).flatMap fun r => [.room false 0 r, .room true 0 r]
def scanS (m : Nat) (ds : List Deed) : List Sg := ds.flatMap fun _ => scanRow m
def wayS (b : Bool) (sh dr : Nat) (l : List Nat) : List Sg := l.flatMap fun d => [.way b sh dr d 0, .way b sh dr d 1]
def waySg (sh dr high : Nat) : List Sg := wayS false sh dr (List.range (high + 1)) ++ wayS true sh dr (List.range (high + 1)).reverse
/-- the number of a tree's first cell's draw -/
def startT (ts : List Nat) (t : Nat) : Nat := (ts.take t).sum
/-- the draw by which a cell of a tree has its leaf, behind n asks -/
def drawOf (ts : List Nat) (cells : List Nat) (t : Nat) : Nat → Nat → Nat
  | 0, c => startT ts t + c
  | n + 1, c => if cells.getD n 0 / 2 ^ (2 * t) = c then ts.sum + n * ts.length + t else drawOf ts cells t n c
def askSg (ts : List Nat) (cells : List Nat) (n : Nat) : List Sg := (List.range ts.length).reverse.flatMap fun t => waySg t (drawOf ts cells t n (cells.getD n 0 / 2 ^ (2 * t))) (highN (ts.getD t 0))
def groveS (ts : List Nat) (cells : List Nat) : List Sg := (List.range cells.length).flatMap (askSg ts cells)
def cellsD (ds : List Deed) : List Nat := ds.map Deed.cell
/-- a grove's trees hold an ask's cells -/
structure TreesOk (ts : List Nat) (m : Nat) : Prop where
  len : ts.length ≤ 3
  ok : ∀ t, t ∈ ts → 1 ≤ t ∧ t ≤ 32
  le : ∀ t, t < ts.length → ∀ c, c < m → c / 2 ^ (2 * t) < ts.getD t 0
def S_way_there (K : PySem.W.Frag) : KSp := sp3 fun x y z G M R Z => ∃ sh dr high : Nat, x = .int sh ∧ y = .int dr ∧ z = .int high ∧ high ≤ 6 ∧ SgR K G M (waySg sh dr high) R
def S_starts_of (K : PySem.W.Frag) : KSp := sp1 fun x G M R Z => ∃ (a : Addr) (ts : List Nat), x = .ref a ∧ LstAt K G M a (natsV ts) ∧ ts.length ≤ 3 ∧ ∀ (l T : Addr) (G' : Hp), Fr G M l → Ex G G' → SqT K G' T [.ref l, .int ts.sum] → R (.ref T) G' ((l, .lst (natsV ((List.range ts.length).map (startT ts)))) :: M)
def S_scan_signs (K : PySem.W.Frag) : KSp := sp2 fun x y G M R Z => ∃ (m : Nat) (a : Addr) (ds : List Deed), natOk x m 1 32 ∧ y = .ref a ∧ AsksAt K G M a ds ∧ DsOk m ds ∧ SgR K G M (scanS m ds) R
def S_grove_signs (K : PySem.W.Frag) : KSp := sp2 fun x y G M R Z => ∃ (m : Nat) (a b : Addr) (ts : List Nat) (ds : List Deed), x = .ref b ∧ y = .ref a ∧ LstAt K G M b (natsV ts) ∧ TreesOk ts m ∧ AsksAt K G M a ds ∧ DsOk m ds ∧ SgR K G M (groveS ts (cellsD ds)) R
/-- a thing that may be a list of asks -/
def AsksV (K : PySem.W.Frag) (G : Hp) (M : Mem) (m : Int) (y : V) (b : Bool) : Prop := (∃ T : PT, TyK K G M y T ∧ T ≠ .list ∧ b = false) ∨
  ∃ (a : Addr) (xs : List V), y = .ref a ∧ LstAt K G M a xs ∧ xs.length ≤ 1000 ∧ ((60 < xs.length ∧ b = false) ∨ (xs.length ≤ 60 ∧ ∃ bs : List Bool, A2 (fun x b => AskV K G M m x b) xs bs ∧ b = bs.all id))
def S_look_at_asks (K : PySem.W.Frag) : KSp := sp2 fun x y G M R Z => ∃ (m : Nat) (b : Bool), x = .int m ∧ AsksV K G M m y b ∧ (b = true → R .non G M) ∧ (b = false → Z (.ref (cl K "NoAsk")) none G M)

def S_law_word (K : PySem.W.Frag) : KSp := sp1 fun x G M R Z => ∃ (p : Addr) (n : Nat) (c s : Int), x = .ref p ∧ M[n]? = some (p, pool c s) ∧ PoolOk s ∧ ∀ (w : Nat) (c' s' : Int), w ≤ 999999999999999999 → PoolOk s' → R (.int w) G (M.set n (p, pool c' s'))
def S_law_ask (K : PySem.W.Frag) : KSp := sp2 fun x y G M R Z => ∃ (p : Addr) (n : Nat) (c s : Int) (m : Nat), x = .ref p ∧ y = .int m ∧ M[n]? = some (p, pool c s) ∧ PoolOk s ∧ 1 ≤ m ∧ m ≤ 32 ∧
  ∀ (t : Addr) (d : Deed) (c' s' : Int) (G' : Hp), Ex G G' → SqT K G' t d.vs → DeedOk m d → PoolOk s' → R (.ref t) G' (M.set n (p, pool c' s'))
def S_law_many (K : PySem.W.Frag) : KSp := sp1 fun x G M R Z => ∃ (p : Addr) (n : Nat) (c s : Int), x = .ref p ∧ M[n]? = some (p, pool c s) ∧ PoolOk s ∧ ∀ (k : Nat) (c' s' : Int), 1 ≤ k → k ≤ 32 → PoolOk s' → R (.int k) G (M.set n (p, pool c' s'))
def S_law_told (K : PySem.W.Frag) : KSp := sp2 fun x y G M R Z => ∃ (u : Addr) (j : Nat) (ws : List Nat) (d : Deed), x = .ref u ∧ M[j]? = some (u, .lst (natsV ws)) ∧ DeedAt K G y d ∧ DeedOk ws.length d ∧ R (.int (ws.getD d.cell 0 : Nat)) G (M.set j (u, .lst (natsV (d.upd ws))))

def S_law_side (K : PySem.W.Frag) : KSp := sp1 fun x G M R Z => ∃ m, natOk x m 1 32 ∧ R (.int (sideN m)) G M
def rcell (x : Addr × List Nat) : Addr × HO := (x.1, .lst (natsV x.2))
inductive Frs' (G : Hp) (M : Mem) : Mem → Prop
  | nil : Frs' G M []
  | cons {p : Addr} {o : HO} {Mx : Mem} : Fr G (Mx ++ M) p → Frs' G M Mx → Frs' G M ((p, o) :: Mx)
def roundsN (m q : Nat) : Nat := (q + sideN m - 1) / sideN m
def S_law_rounds (K : PySem.W.Frag) : KSp := sp3 fun x y z G M R Z => ∃ (p : Addr) (n : Nat) (c s : Int) (m q : Nat), x = .ref p ∧ natOk y m 1 32 ∧ natOk z q 0 60 ∧ M[n]? = some (p, pool c s) ∧ PoolOk s ∧
  ∀ (t : Addr) (rs : List (Addr × List Nat)) (c' s' : Int), PoolOk s' → rs.length = roundsN m q → (∀ x, x ∈ rs → x.2.length = m + sideN m ∧ RowOk x.2) → Frs' G (M.set n (p, pool c' s')) (rs.reverse.map rcell) → Fr G (rs.reverse.map rcell ++ M.set n (p, pool c' s')) t →
    R (.ref t) G ((t, .lst (rs.map fun x => .ref x.1)) :: (rs.reverse.map rcell ++ M.set n (p, pool c' s')))

def S_spare_signs (K : PySem.W.Frag) : KSp := fun _ _ _ _ _ => False
def S_stairs_signs (K : PySem.W.Frag) : KSp := fun _ _ _ _ _ => False
theorem z_spare_signs {K : PySem.W.Frag} : ∀ vs G M R Z, ¬ S_spare_signs K vs G M R Z := fun _ _ _ _ _ h => h
theorem z_stairs_signs {K : PySem.W.Frag} : ∀ vs G M R Z, ¬ S_stairs_signs K vs G M R Z := fun _ _ _ _ _ h => h
def S_signs_by (K : PySem.W.Frag) : KSp := sp3 fun w x y G M R Z => ∃ (s : Str) (m : Nat) (a : Addr) (ds : List Deed), w = .str s ∧ (s = "scan" ∨ s = "tree" ∨ s = "grove") ∧ natOk x m 1 32 ∧ y = .ref a ∧ AsksAt K G M a ds ∧ DsOk m ds ∧ SgR K G M (if s = "scan" then scanS m ds else groveS (if s = "tree" then [m] else treesN m) (cellsD ds)) R
def S_signs_of (K : PySem.W.Frag) : KSp := sp3 fun w x y G M R Z => ∃ (s : Str) (m : Nat) (a : Addr) (ds : List Deed), w = .str s ∧ (s = "scan" ∨ s = "tree" ∨ s = "grove") ∧ natOk x m 1 32 ∧ y = .ref a ∧ AsksAt K G M a ds ∧ DsOk m ds ∧ SgR K G M (if s = "scan" then scanS m ds else groveS (if s = "tree" then [m] else treesN m) (cellsD ds)) R
def S_law_trees (K : PySem.W.Frag) : KSp := sp2 fun w x G M R Z => ∃ (s : Str) (m : Nat), w = .str s ∧ natOk x m 1 32 ∧ ∀ t G', Ex G G' → G' t = some (.lst (natsV (if s = "grove" then treesN m else [m]))) → R (.ref t) G' M
def S_law_way_signs (K : PySem.W.Frag) : KSp := sp3 fun x y z G M R Z => ∃ sh dr high : Nat, x = .int sh ∧ y = .int dr ∧ z = .int high ∧ high ≤ 6 ∧ SgR K G M (waySg sh dr high) R
def S_law_due (K : PySem.W.Frag) : KSp := sp3 fun w x y G M R Z => ∃ (s : Str) (m : Nat) (a : Addr) (ds : List Deed), w = .str s ∧ (s = "scan" ∨ s = "tree" ∨ s = "grove") ∧ natOk x m 1 32 ∧ y = .ref a ∧ AsksAt K G M a ds ∧ DsOk m ds ∧ SgR K G M (if s = "scan" then scanS m ds else groveS (if s = "tree" then [m] else treesN m) (cellsD ds)) R
def S_law_whole (K : PySem.W.Frag) : KSp := sp1 fun x G M R Z => ∃ T : PT, TyK K G M x T ∧ R (.bl (T == .int)) G M
def S_law_is (K : PySem.W.Frag) : KSp := sp2 fun x y G M R Z => ∃ (a b : Addr) (us ws : List V) (sg : List Sg), x = .ref a ∧ y = .ref b ∧ LstAt K G M a us ∧ LstAt K G M b ws ∧ DpAll K G us (sg.map sgD) ∧ DpAll K G ws (sg.map sgD) ∧ sg.length ≤ 1000000 ∧ ∀ G', Ex G G' → R (.bl true) G' M
/-! readings of the defs, printed by gen.py -/
def con_WAYS : List V := [.str "scan", .str "spare", .str "stairs", .str "tree", .str "grove"]
def con_SIDES : List V := [.int 0, .int 1]
/-- law_pool(_law_script, _law_k); slots 0 _law_script, 1 _law_k, 2 _law_cell, 3 _law_seed -/
def rd_law_pool_4 (K : PySem.W.Frag) : KS :=
  kSeq (kRet (kLst (kCons (kVar 2) (kCons (kVar 3) (kNil))))) (kNext)
def rd_law_pool_3 (K : PySem.W.Frag) : KS :=
  kSeq (kIf (kT (kBin (kI0 fun i j => .bl (decide (i < j))) (kVar 2) (kBin (kI CPow fun i j => .int (i ^ j.toNat)) (kC (.int 10)) (kC (.int 18))))) (kSeq (kSet 2 (kC (.int 0))) (kNext)) (kNext)) (rd_law_pool_4 K)
def rd_law_pool_2 (K : PySem.W.Frag) : KS :=
  kSeq (kSet 3 (kBin (kI (fun _ j => 0 < j) fun i j => .int (i % j)) (kBin (kMul) (kBin (kAdd) (kBin (kAdd) (kBin (kI (fun _ j => 0 < j) fun i j => .int (i % j)) (kVar 2) (kC (.int 1000000007))) (kBin (kMul) (kBin (kMul) (kC (.int 15485863)) (kVar 1)) (kVar 1))) (kC (.int 3))) (kC (.int 39373))) (kC (.int 2147483647)))) (rd_law_pool_3 K)
def rd_law_pool_1 (K : PySem.W.Frag) : KS :=
  kSeq (kIf (kT (kBin (kI0 fun i j => .bl (decide (i < j))) (kVar 1) (kCB (kLen K) (kCons (kVar 0) (kNil))))) (kSeq (kSet 2 (kBin (kIx K) (kVar 0) (kVar 1))) (kNext)) (kNext)) (rd_law_pool_2 K)
def rd_law_pool (K : PySem.W.Frag) : KS :=
  kSeq (kSet 2 (kC (.int 0))) (rd_law_pool_1 K)
/-- law_take(_law_pool_here, _law_many_here); slots 0 _law_pool_here, 1 _law_many_here, 2 _law_found -/
def rd_law_take_2 (K : PySem.W.Frag) : KS :=
  kSeq (kRet (kBin (kI (fun _ j => 0 < j) fun i j => .int (i % j)) (kBin (kI CDivW fun i j => .int (i / j)) (kBin (kI (fun _ j => 0 < j) fun i j => .int (i % j)) (kBin (kMul) (kBin (kIx K) (kVar 0) (kC (.int 1))) (kBin (kIx K) (kVar 0) (kC (.int 1)))) (kC (.int 2147483629))) (kC (.int 64))) (kVar 1))) (kNext)
def rd_law_take_1 (K : PySem.W.Frag) : KS :=
  kSeq (kAsg (kBin (kI (fun _ j => 0 < j) fun i j => .int (i % j)) (kBin (kAdd) (kBin (kMul) (kBin (kIx K) (kVar 0) (kC (.int 1))) (kC (.int 48271))) (kC (.int 11))) (kC (.int 2147483647))) (kgIx (kVar 0) (kC (.int 1)))) (rd_law_take_2 K)
def rd_law_take (K : PySem.W.Frag) : KS :=
  kSeq (kIf (kT (kBin (kI0 fun i j => .bl (decide (j < i))) (kBin (kIx K) (kVar 0) (kC (.int 0))) (kC (.int 0)))) (kSeq (kSet 2 (kBin (kI (fun _ j => 0 < j) fun i j => .int (i % j)) (kBin (kIx K) (kVar 0) (kC (.int 0))) (kVar 1))) (kSeq (kAsg (kBin (kI CDivW fun i j => .int (i / j)) (kBin (kIx K) (kVar 0) (kC (.int 0))) (kVar 1)) (kgIx (kVar 0) (kC (.int 0)))) (kSeq (kRet (kVar 2)) (kNext)))) (kNext)) (rd_law_take_1 K)
/-- law_many(_law_pool_here); slots 0 _law_pool_here -/
def rd_law_many (K : PySem.W.Frag) : KS :=
  kSeq (kRet (kBin (kAdd) (kC (.int 1)) (kCall (S_law_take K) (kCons (kVar 0) (kCons (kBin (kIx K) (kLst (kCons (kC (.int 4)) (kCons (kC (.int 9)) (kCons (kC (.int 32)) (kNil))))) (kCall (S_law_take K) (kCons (kVar 0) (kCons (kC (.int 3)) (kNil))))) (kNil)))))) (kNext)
/-- law_word(_law_pool_here); slots 0 _law_pool_here -/
def rd_law_word (K : PySem.W.Frag) : KS :=
  kSeq (kRet (kBin (kIx K) (kLst (kCons (kC (.int 0)) (kCons (kC (.int 1)) (kCons (kBin (kI0 fun i j => .int (i - j)) (kBin (kI CPow fun i j => .int (i ^ j.toNat)) (kC (.int 10)) (kC (.int 18))) (kC (.int 1))) (kCons (kBin (kAdd) (kBin (kMul) (kCall (S_law_take K) (kCons (kVar 0) (kCons (kBin (kI CPow fun i j => .int (i ^ j.toNat)) (kC (.int 10)) (kC (.int 9))) (kNil)))) (kBin (kI CPow fun i j => .int (i ^ j.toNat)) (kC (.int 10)) (kC (.int 9)))) (kCall (S_law_take K) (kCons (kVar 0) (kCons (kBin (kI CPow fun i j => .int (i ^ j.toNat)) (kC (.int 10)) (kC (.int 9))) (kNil))))) (kNil)))))) (kBin (kI (fun _ j => 0 < j) fun i j => .int (i % j)) (kCall (S_law_take K) (kCons (kVar 0) (kCons (kC (.int 8)) (kNil)))) (kC (.int 4))))) (kNext)
/-- law_ask(_law_pool_here, _law_many_here); slots 0 _law_pool_here, 1 _law_many_here, 2 _law_cell -/
def rd_law_ask_2 (K : PySem.W.Frag) : KS :=
  kSeq (kRet (kTup (kCons (kC (.str "write")) (kCons (kVar 2) (kCons (kCall (S_law_word K) (kCons (kVar 0) (kNil))) (kNil)))))) (kNext)
def rd_law_ask_1 (K : PySem.W.Frag) : KS :=
  kSeq (kIf (kT (kBin (kEqv false K) (kCall (S_law_take K) (kCons (kVar 0) (kCons (kC (.int 2)) (kNil)))) (kC (.int 0)))) (kSeq (kRet (kTup (kCons (kC (.str "read")) (kCons (kVar 2) (kNil))))) (kNext)) (kNext)) (rd_law_ask_2 K)
def rd_law_ask (K : PySem.W.Frag) : KS :=
  kSeq (kSet 2 (kCall (S_law_take K) (kCons (kVar 0) (kCons (kBin (kIx K) (kLst (kCons (kVar 1) (kCons (kCB (kMin2) (kCons (kVar 1) (kCons (kC (.int 2)) (kNil)))) (kNil)))) (kBin (kI CDivW fun i j => .int (i / j)) (kCall (S_law_take K) (kCons (kVar 0) (kCons (kC (.int 4)) (kNil)))) (kC (.int 3)))) (kNil))))) (rd_law_ask_1 K)
/-- law_trees(_law_way, _law_many_here); slots 0 _law_way, 1 _law_many_here, 2 _law_trees_here -/
def rd_law_trees_b0 (K : PySem.W.Frag) : KS :=
  kSeq (kSet 2 (kBin (kAdd) (kVar 2) (kLst (kCons (kBin (kI CDivW fun i j => .int (i / j)) (kBin (kAdd) (kBin (kIx K) (kVar 2) (kUn kNeg (kC (.int 1)))) (kC (.int 3))) (kC (.int 4))) (kNil))))) (kNext)
def rd_law_trees_2 (K : PySem.W.Frag) : KS :=
  kSeq (kRet (kVar 2)) (kNext)
def rd_law_trees_1 (K : PySem.W.Frag) : KS :=
  kSeq (kWhile (kAnd (kT (kBin (kEqv false K) (kVar 0) (kC (.str "grove")))) (kT (kBin (kI0 fun i j => .bl (decide (j < i))) (kBin (kIx K) (kVar 2) (kUn kNeg (kC (.int 1)))) (kC (.int 4))))) (rd_law_trees_b0 K)) (rd_law_trees_2 K)
def rd_law_trees (K : PySem.W.Frag) : KS :=
  kSeq (kSet 2 (kLst (kCons (kVar 1) (kNil)))) (rd_law_trees_1 K)
/-- law_way_signs(_law_shelf, _law_draw, _law_high); slots 0 _law_shelf, 1 _law_draw, 2 _law_high, 3 _law_found, 4 _law_depth -/
def rd_law_way_signs_b0 (K : PySem.W.Frag) : KS :=
  kSeq (kExpr (kBM K "list" (kExtend) (kVar 3) (kCons (kLst (kCons (kTup (kCons (kC (.str "way")) (kCons (kC (.str "look")) (kCons (kVar 0) (kCons (kVar 1) (kCons (kVar 4) (kCons (kC (.int 0)) (kNil)))))))) (kCons (kTup (kCons (kC (.str "way")) (kCons (kC (.str "look")) (kCons (kVar 0) (kCons (kVar 1) (kCons (kVar 4) (kCons (kC (.int 1)) (kNil)))))))) (kNil)))) (kNil)))) (kNext)
def rd_law_way_signs_b1 (K : PySem.W.Frag) : KS :=
  kSeq (kExpr (kBM K "list" (kExtend) (kVar 3) (kCons (kLst (kCons (kTup (kCons (kC (.str "way")) (kCons (kC (.str "lay")) (kCons (kVar 0) (kCons (kVar 1) (kCons (kVar 4) (kCons (kC (.int 0)) (kNil)))))))) (kCons (kTup (kCons (kC (.str "way")) (kCons (kC (.str "lay")) (kCons (kVar 0) (kCons (kVar 1) (kCons (kVar 4) (kCons (kC (.int 1)) (kNil)))))))) (kNil)))) (kNil)))) (kNext)
def rd_law_way_signs_3 (K : PySem.W.Frag) : KS :=
  kSeq (kRet (kVar 3)) (kNext)
def rd_law_way_signs_2 (K : PySem.W.Frag) : KS :=
  kSeq (kFor (kiRv1 (kBin (kAdd) (kVar 2) (kC (.int 1)))) (kgName 4) (rd_law_way_signs_b1 K)) (rd_law_way_signs_3 K)
def rd_law_way_signs_1 (K : PySem.W.Frag) : KS :=
  kSeq (kFor (kiR1 (kCons (kBin (kAdd) (kVar 2) (kC (.int 1))) (kNil))) (kgName 4) (rd_law_way_signs_b0 K)) (rd_law_way_signs_2 K)
def rd_law_way_signs (K : PySem.W.Frag) : KS :=
  kSeq (kSet 3 (kLst (kNil))) (rd_law_way_signs_1 K)
/-- law_due(_law_way, _law_many_here, _law_asks); slots 0 _law_way, 1 _law_many_here, 2 _law_asks, 3 _law_found, 4 _law_deed, 5 _law_room, 6 _law_trees_here, 7 _law_number, 8 _law_at, 9 _law_cell, 10 _law_last, 11 _law_draw, 12 _law_k -/
def rd_law_due_b1 (K : PySem.W.Frag) : KS :=
  kSeq (kExpr (kBM K "list" (kExtend) (kVar 3) (kCons (kLst (kCons (kTup (kCons (kC (.str "room")) (kCons (kC (.str "look")) (kCons (kC (.int 0)) (kCons (kVar 5) (kNil)))))) (kCons (kTup (kCons (kC (.str "room")) (kCons (kC (.str "lay")) (kCons (kC (.int 0)) (kCons (kVar 5) (kNil)))))) (kNil)))) (kNil)))) (kNext)
def rd_law_due_b0 (K : PySem.W.Frag) : KS :=
  kSeq (kFor (kiR1 (kCons (kVar 1) (kNil))) (kgName 5) (rd_law_due_b1 K)) (kNext)
def rd_law_due_b3_4 (K : PySem.W.Frag) : KS :=
  kSeq (kExpr (kBM K "list" (kExtend) (kVar 3) (kCons (kCall (S_law_way_signs K) (kCons (kVar 8) (kCons (kVar 11) (kCons (kCB (kLen K) (kCons (kComp (kiR1 (kCons (kC (.int 6)) (kNil))) (kgName 12) (kT (kBin (kI0 fun i j => .bl (decide (i < j))) (kBin (kI CPow fun i j => .int (i * 2 ^ j.toNat)) (kC (.int 1)) (kVar 12)) (kBin (kIx K) (kVar 6) (kVar 8)))) (kVar 12) [12]) (kNil))) (kNil))))) (kNil)))) (kNext)
def rd_law_due_b3_3 (K : PySem.W.Frag) : KS :=
  kSeq (kIf (kT (kBin (kEqv true K) (kVar 10) (kLst (kNil)))) (kSeq (kSet 11 (kBin (kAdd) (kBin (kAdd) (kCB (kSum K) (kCons (kVar 6) (kNil))) (kBin (kMul) (kBin (kIx K) (kVar 10) (kUn kNeg (kC (.int 1)))) (kCB (kLen K) (kCons (kVar 6) (kNil))))) (kVar 8))) (kNext)) (kNext)) (rd_law_due_b3_4 K)
def rd_law_due_b3_2 (K : PySem.W.Frag) : KS :=
  kSeq (kSet 11 (kBin (kAdd) (kCB (kSum K) (kCons (kSl K (kVar 6) (kNoP) (kPart (kVar 8))) (kNil))) (kVar 9))) (rd_law_due_b3_3 K)
def rd_law_due_b3_1 (K : PySem.W.Frag) : KS :=
  kSeq (kSet 10 (kComp (kiR1 (kCons (kVar 7) (kNil))) (kgName 12) (kT (kBin (kEqv false K) (kBin (kI CDivW fun i j => .int (i / j)) (kBin (kIx K) (kBin (kIx K) (kVar 2) (kVar 12)) (kC (.int 1))) (kBin (kIx K) (kLst (kCons (kC (.int 1)) (kCons (kC (.int 4)) (kCons (kC (.int 16)) (kNil))))) (kVar 8))) (kVar 9))) (kVar 12) [12])) (rd_law_due_b3_2 K)
def rd_law_due_b3 (K : PySem.W.Frag) : KS :=
  kSeq (kSet 9 (kBin (kI CDivW fun i j => .int (i / j)) (kBin (kIx K) (kBin (kIx K) (kVar 2) (kVar 7)) (kC (.int 1))) (kBin (kIx K) (kLst (kCons (kC (.int 1)) (kCons (kC (.int 4)) (kCons (kC (.int 16)) (kNil))))) (kVar 8)))) (rd_law_due_b3_1 K)
def rd_law_due_b2 (K : PySem.W.Frag) : KS :=
  kSeq (kFor (kiRv1 (kCB (kLen K) (kCons (kVar 6) (kNil)))) (kgName 8) (rd_law_due_b3 K)) (kNext)
def rd_law_due_4 (K : PySem.W.Frag) : KS :=
  kSeq (kRet (kVar 3)) (kNext)
def rd_law_due_3 (K : PySem.W.Frag) : KS :=
  kSeq (kFor (kiR1 (kCons (kCB (kLen K) (kCons (kVar 2) (kNil))) (kNil))) (kgName 7) (rd_law_due_b2 K)) (rd_law_due_4 K)
def rd_law_due_2 (K : PySem.W.Frag) : KS :=
  kSeq (kSet 6 (kCall (S_law_trees K) (kCons (kVar 0) (kCons (kVar 1) (kNil))))) (rd_law_due_3 K)
def rd_law_due_1 (K : PySem.W.Frag) : KS :=
  kSeq (kIf (kT (kBin (kEqv false K) (kVar 0) (kC (.str "scan")))) (kSeq (kFor (kiSeq K (kVar 2)) (kgName 4) (rd_law_due_b0 K)) (kSeq (kRet (kVar 3)) (kNext))) (kNext)) (rd_law_due_2 K)
def rd_law_due (K : PySem.W.Frag) : KS :=
  kSeq (kSet 3 (kLst (kNil))) (rd_law_due_1 K)
/-- look_at_way(way); slots 0 way -/
def rd_look_at_way (K : PySem.W.Frag) : KS :=
  kSeq (kIf (kOr (kNot (kT (kCB (kIsi K) (kCons (kVar 0) (kCons (kC (.ty "str")) (kNil)))))) (kT (kBin (kIn true K) (kVar 0) (kConT K "WAYS" con_WAYS)))) (kSeq (kRaise K "NoWay") (kNext)) (kNext)) (kNext)
/-- is_whole(thing); slots 0 thing -/
def rd_is_whole (K : PySem.W.Frag) : KS :=
  kSeq (kRet (kAndV (kCB (kIsi K) (kCons (kVar 0) (kCons (kC (.ty "int")) (kNil)))) (kNotV (kCB (kIsi K) (kCons (kVar 0) (kCons (kC (.ty "bool")) (kNil))))))) (kNext)
/-- is_within(thing, least, most); slots 0 thing, 1 least, 2 most -/
def rd_is_within (K : PySem.W.Frag) : KS :=
  kSeq (kRet (kAndV (kCall (S_is_whole K) (kCons (kVar 0) (kNil))) (kChain (kI0 fun i j => .bl (decide (i ≤ j))) (kI0 fun i j => .bl (decide (i ≤ j))) (kVar 1) (kVar 0) (kVar 2)))) (kNext)
/-- look_at_many(many); slots 0 many -/
def rd_look_at_many (K : PySem.W.Frag) : KS :=
  kSeq (kIf (kNot (kT (kCall (S_is_within K) (kCons (kVar 0) (kCons (kC (.int 1)) (kCons (kC (.int 32)) (kNil))))))) (kSeq (kRaise K "NoSize") (kNext)) (kNext)) (kNext)
/-- is_ask(many, thing); slots 0 many, 1 thing -/
def rd_is_ask_2 (K : PySem.W.Frag) : KS :=
  kSeq (kRet (kAndV (kBin (kEqv false K) (kCB (kLen K) (kCons (kVar 1) (kNil))) (kC (.int 3))) (kAndV (kBin (kEqD K) (kBin (kIx K) (kVar 1) (kC (.int 0))) (kC (.str "write"))) (kCall (S_is_within K) (kCons (kBin (kIx K) (kVar 1) (kC (.int 2))) (kCons (kC (.int 0)) (kCons (kC (.int 999999999999999999)) (kNil)))))))) (kNext)
def rd_is_ask_1 (K : PySem.W.Frag) : KS :=
  kSeq (kIf (kT (kBin (kEqv false K) (kCB (kLen K) (kCons (kVar 1) (kNil))) (kC (.int 2)))) (kSeq (kRet (kBin (kEqD K) (kBin (kIx K) (kVar 1) (kC (.int 0))) (kC (.str "read")))) (kNext)) (kNext)) (rd_is_ask_2 K)
def rd_is_ask (K : PySem.W.Frag) : KS :=
  kSeq (kIf (kOr (kNot (kT (kCB (kIsi K) (kCons (kVar 1) (kCons (kC (.ty "tuple")) (kNil)))))) (kOr (kT (kBin (kI0 fun i j => .bl (decide (i < j))) (kCB (kLen K) (kCons (kVar 1) (kNil))) (kC (.int 2)))) (kNot (kT (kCall (S_is_within K) (kCons (kBin (kIx K) (kVar 1) (kC (.int 1))) (kCons (kC (.int 0)) (kCons (kBin (kI0 fun i j => .int (i - j)) (kVar 0) (kC (.int 1))) (kNil))))))))) (kSeq (kRet (kC (.bl false))) (kNext)) (kNext)) (rd_is_ask_1 K)
/-- look_at_asks(many, asks); slots 0 many, 1 asks, 2 deed -/
def rd_look_at_asks_b0 (K : PySem.W.Frag) : KS :=
  kSeq (kIf (kNot (kT (kCall (S_is_ask K) (kCons (kVar 0) (kCons (kVar 2) (kNil)))))) (kSeq (kRaise K "NoAsk") (kNext)) (kNext)) (kNext)
def rd_look_at_asks_1 (K : PySem.W.Frag) : KS :=
  kSeq (kFor (kiSeq K (kVar 1)) (kgName 2) (rd_look_at_asks_b0 K)) (kNext)
def rd_look_at_asks (K : PySem.W.Frag) : KS :=
  kSeq (kIf (kOr (kNot (kT (kCB (kIsi K) (kCons (kVar 1) (kCons (kC (.ty "list")) (kNil)))))) (kT (kBin (kI0 fun i j => .bl (decide (j < i))) (kCB (kLen K) (kCons (kVar 1) (kNil))) (kC (.int 60))))) (kSeq (kRaise K "NoAsk") (kNext)) (kNext)) (rd_look_at_asks_1 K)
/-- scan_signs(many, asks); slots 0 many, 1 asks, 2 found, 3 deed, 4 room -/
def rd_scan_signs_b1 (K : PySem.W.Frag) : KS :=
  kSeq (kExpr (kBM K "list" (kExtend) (kVar 2) (kCons (kLst (kCons (kTup (kCons (kC (.str "room")) (kCons (kC (.str "look")) (kCons (kC (.int 0)) (kCons (kVar 4) (kNil)))))) (kCons (kTup (kCons (kC (.str "room")) (kCons (kC (.str "lay")) (kCons (kC (.int 0)) (kCons (kVar 4) (kNil)))))) (kNil)))) (kNil)))) (kNext)
def rd_scan_signs_b0 (K : PySem.W.Frag) : KS :=
  kSeq (kFor (kiR1 (kCons (kVar 0) (kNil))) (kgName 4) (rd_scan_signs_b1 K)) (kNext)
def rd_scan_signs_2 (K : PySem.W.Frag) : KS :=
  kSeq (kRet (kVar 2)) (kNext)
def rd_scan_signs_1 (K : PySem.W.Frag) : KS :=
  kSeq (kFor (kiSeq K (kVar 1)) (kgName 3) (rd_scan_signs_b0 K)) (rd_scan_signs_2 K)
def rd_scan_signs (K : PySem.W.Frag) : KS :=
  kSeq (kSet 2 (kLst (kNil))) (rd_scan_signs_1 K)
/-- starts_of(trees); slots 0 trees, 1 starts, 2 ahead, 3 cells -/
def rd_starts_of_b0_1 (K : PySem.W.Frag) : KS :=
  kSeq (kSet 2 (kBin (kAdd) (kVar 2) (kVar 3))) (kNext)
def rd_starts_of_b0 (K : PySem.W.Frag) : KS :=
  kSeq (kExpr (kBM K "list" (kAppend) (kVar 1) (kCons (kVar 2) (kNil)))) (rd_starts_of_b0_1 K)
def rd_starts_of_3 (K : PySem.W.Frag) : KS :=
  kSeq (kRet (kTup (kCons (kVar 1) (kCons (kVar 2) (kNil))))) (kNext)
def rd_starts_of_2 (K : PySem.W.Frag) : KS :=
  kSeq (kFor (kiSeq K (kVar 0)) (kgName 3) (rd_starts_of_b0 K)) (rd_starts_of_3 K)
def rd_starts_of_1 (K : PySem.W.Frag) : KS :=
  kSeq (kSet 2 (kC (.int 0))) (rd_starts_of_2 K)
def rd_starts_of (K : PySem.W.Frag) : KS :=
  kSeq (kSet 1 (kLst (kNil))) (rd_starts_of_1 K)
/-- high_of(many); slots 0 many, 1 high -/
def rd_high_of_b0 (K : PySem.W.Frag) : KS :=
  kSeq (kSet 1 (kBin (kAdd) (kVar 1) (kC (.int 1)))) (kNext)
def rd_high_of_2 (K : PySem.W.Frag) : KS :=
  kSeq (kRet (kVar 1)) (kNext)
def rd_high_of_1 (K : PySem.W.Frag) : KS :=
  kSeq (kWhile (kT (kBin (kI0 fun i j => .bl (decide (i < j))) (kBin (kI CPow fun i j => .int (i * 2 ^ j.toNat)) (kC (.int 1)) (kVar 1)) (kVar 0))) (rd_high_of_b0 K)) (rd_high_of_2 K)
def rd_high_of (K : PySem.W.Frag) : KS :=
  kSeq (kSet 1 (kC (.int 0))) (rd_high_of_1 K)
/-- way_there(shelf, draw, high); slots 0 shelf, 1 draw, 2 high, 3 found, 4 depth, 5 side -/
def rd_way_there_b0 (K : PySem.W.Frag) : KS :=
  kSeq (kExpr (kBM K "list" (kExtend) (kVar 3) (kCons (kComp (kiTup K (kConT K "SIDES" con_SIDES)) (kgName 5) (kYes) (kTup (kCons (kC (.str "way")) (kCons (kC (.str "look")) (kCons (kVar 0) (kCons (kVar 1) (kCons (kVar 4) (kCons (kVar 5) (kNil)))))))) [5]) (kNil)))) (kNext)
def rd_way_there_b1 (K : PySem.W.Frag) : KS :=
  kSeq (kExpr (kBM K "list" (kExtend) (kVar 3) (kCons (kComp (kiTup K (kConT K "SIDES" con_SIDES)) (kgName 5) (kYes) (kTup (kCons (kC (.str "way")) (kCons (kC (.str "lay")) (kCons (kVar 0) (kCons (kVar 1) (kCons (kVar 4) (kCons (kVar 5) (kNil)))))))) [5]) (kNil)))) (kNext)
def rd_way_there_3 (K : PySem.W.Frag) : KS :=
  kSeq (kRet (kVar 3)) (kNext)
def rd_way_there_2 (K : PySem.W.Frag) : KS :=
  kSeq (kFor (kiR3 (kCons (kVar 2) (kCons (kUn kNeg (kC (.int 1))) (kCons (kUn kNeg (kC (.int 1))) (kNil))))) (kgName 4) (rd_way_there_b1 K)) (rd_way_there_3 K)
def rd_way_there_1 (K : PySem.W.Frag) : KS :=
  kSeq (kFor (kiR1 (kCons (kBin (kAdd) (kVar 2) (kC (.int 1))) (kNil))) (kgName 4) (rd_way_there_b0 K)) (rd_way_there_2 K)
def rd_way_there (K : PySem.W.Frag) : KS :=
  kSeq (kSet 3 (kLst (kNil))) (rd_way_there_1 K)
/-- grove_signs(trees, asks); slots 0 trees, 1 asks, 2 starts, 3 ahead, 4 shown, 5 start, 6 cells, 7 found, 8 number, 9 deed, 10 tree, 11 cell -/
def rd_grove_signs_b1_2 (K : PySem.W.Frag) : KS :=
  kSeq (kAsg (kBin (kAdd) (kBin (kAdd) (kVar 3) (kBin (kMul) (kVar 8) (kCB (kLen K) (kCons (kVar 0) (kNil))))) (kVar 10)) (kgIx (kBin (kIx K) (kVar 4) (kVar 10)) (kVar 11))) (kNext)
def rd_grove_signs_b1_1 (K : PySem.W.Frag) : KS :=
  kSeq (kExpr (kBM K "list" (kExtend) (kVar 7) (kCons (kCall (S_way_there K) (kCons (kVar 10) (kCons (kBin (kIx K) (kBin (kIx K) (kVar 4) (kVar 10)) (kVar 11)) (kCons (kCall (S_high_of K) (kCons (kBin (kIx K) (kVar 0) (kVar 10)) (kNil))) (kNil))))) (kNil)))) (rd_grove_signs_b1_2 K)
def rd_grove_signs_b1 (K : PySem.W.Frag) : KS :=
  kSeq (kSet 11 (kBin (kI (fun _ j => 0 ≤ j) fun i j => .int (i / 2 ^ j.toNat)) (kBin (kIx K) (kVar 9) (kC (.int 1))) (kBin (kMul) (kC (.int 2)) (kVar 10)))) (rd_grove_signs_b1_1 K)
def rd_grove_signs_b0 (K : PySem.W.Frag) : KS :=
  kSeq (kFor (kiR3 (kCons (kBin (kI0 fun i j => .int (i - j)) (kCB (kLen K) (kCons (kVar 0) (kNil))) (kC (.int 1))) (kCons (kUn kNeg (kC (.int 1))) (kCons (kUn kNeg (kC (.int 1))) (kNil))))) (kgName 10) (rd_grove_signs_b1 K)) (kNext)
def rd_grove_signs_4 (K : PySem.W.Frag) : KS :=
  kSeq (kRet (kVar 7)) (kNext)
def rd_grove_signs_3 (K : PySem.W.Frag) : KS :=
  kSeq (kFor (kiEnum K (kCons (kVar 1) (kNil))) (kgTup K 2 (kgsCons (kgName 8) (kgsCons (kgName 9) (kgsNil)))) (rd_grove_signs_b0 K)) (rd_grove_signs_4 K)
def rd_grove_signs_2 (K : PySem.W.Frag) : KS :=
  kSeq (kSet 7 (kLst (kNil))) (rd_grove_signs_3 K)
def rd_grove_signs_1 (K : PySem.W.Frag) : KS :=
  kSeq (kSet 4 (kComp (kiZip K (kCons (kVar 2) (kCons (kVar 0) (kNil)))) (kgTup K 2 (kgsCons (kgName 5) (kgsCons (kgName 6) (kgsNil)))) (kYes) (kListR2 (kVar 5) (kBin (kAdd) (kVar 5) (kVar 6))) [5, 6])) (rd_grove_signs_2 K)
def rd_grove_signs (K : PySem.W.Frag) : KS :=
  kSeq (kAsg (kCall (S_starts_of K) (kCons (kVar 0) (kNil))) (kgTup K 2 (kgsCons (kgName 2) (kgsCons (kgName 3) (kgsNil))))) (rd_grove_signs_1 K)
/-- trees_of(many); slots 0 many, 1 found -/
def rd_trees_of_b0 (K : PySem.W.Frag) : KS :=
  kSeq (kExpr (kBM K "list" (kAppend) (kVar 1) (kCons (kBin (kI CDivW fun i j => .int (i / j)) (kBin (kI0 fun i j => .int (i - j)) (kBin (kAdd) (kBin (kIx K) (kVar 1) (kUn kNeg (kC (.int 1)))) (kC (.int 4))) (kC (.int 1))) (kC (.int 4))) (kNil)))) (kNext)
def rd_trees_of_2 (K : PySem.W.Frag) : KS :=
  kSeq (kRet (kVar 1)) (kNext)
def rd_trees_of_1 (K : PySem.W.Frag) : KS :=
  kSeq (kWhile (kT (kBin (kI0 fun i j => .bl (decide (j < i))) (kBin (kIx K) (kVar 1) (kUn kNeg (kC (.int 1)))) (kC (.int 4)))) (rd_trees_of_b0 K)) (rd_trees_of_2 K)
def rd_trees_of (K : PySem.W.Frag) : KS :=
  kSeq (kSet 1 (kLst (kCons (kVar 0) (kNil)))) (rd_trees_of_1 K)
/-- signs_by(way, many, asks); slots 0 way, 1 many, 2 asks -/
def rd_signs_by_4 (K : PySem.W.Frag) : KS :=
  kSeq (kRet (kCall (S_grove_signs K) (kCons (kCall (S_trees_of K) (kCons (kVar 1) (kNil))) (kCons (kVar 2) (kNil))))) (kNext)
def rd_signs_by_3 (K : PySem.W.Frag) : KS :=
  kSeq (kIf (kT (kBin (kEqv false K) (kVar 0) (kC (.str "tree")))) (kSeq (kRet (kCall (S_grove_signs K) (kCons (kLst (kCons (kVar 1) (kNil))) (kCons (kVar 2) (kNil))))) (kNext)) (kNext)) (rd_signs_by_4 K)
def rd_signs_by_2 (K : PySem.W.Frag) : KS :=
  kSeq (kIf (kT (kBin (kEqv false K) (kVar 0) (kC (.str "stairs")))) (kSeq (kRet (kCall (S_stairs_signs K) (kCons (kVar 1) (kCons (kVar 2) (kNil))))) (kNext)) (kNext)) (rd_signs_by_3 K)
def rd_signs_by_1 (K : PySem.W.Frag) : KS :=
  kSeq (kIf (kT (kBin (kEqv false K) (kVar 0) (kC (.str "spare")))) (kSeq (kRet (kCall (S_spare_signs K) (kCons (kVar 1) (kCons (kVar 2) (kNil))))) (kNext)) (kNext)) (rd_signs_by_2 K)
def rd_signs_by (K : PySem.W.Frag) : KS :=
  kSeq (kIf (kT (kBin (kEqv false K) (kVar 0) (kC (.str "scan")))) (kSeq (kRet (kCall (S_scan_signs K) (kCons (kVar 1) (kCons (kVar 2) (kNil))))) (kNext)) (kNext)) (rd_signs_by_1 K)
/-- signs_of(way, many, asks); slots 0 way, 1 many, 2 asks -/
def rd_signs_of_3 (K : PySem.W.Frag) : KS :=
  kSeq (kRet (kCall (S_signs_by K) (kCons (kVar 0) (kCons (kVar 1) (kCons (kVar 2) (kNil)))))) (kNext)
def rd_signs_of_2 (K : PySem.W.Frag) : KS :=
  kSeq (kExpr (kCall (S_look_at_asks K) (kCons (kVar 1) (kCons (kVar 2) (kNil))))) (rd_signs_of_3 K)
def rd_signs_of_1 (K : PySem.W.Frag) : KS :=
  kSeq (kExpr (kCall (S_look_at_many K) (kCons (kVar 1) (kNil)))) (rd_signs_of_2 K)
def rd_signs_of (K : PySem.W.Frag) : KS :=
  kSeq (kExpr (kCall (S_look_at_way K) (kCons (kVar 0) (kNil)))) (rd_signs_of_1 K)
/-- law_whole(_law_found); slots 0 _law_found -/
def rd_law_whole (K : PySem.W.Frag) : KS :=
  kSeq (kRet (kAndV (kCB (kIsi K) (kCons (kVar 0) (kCons (kC (.ty "int")) (kNil)))) (kNotV (kCB (kIsi K) (kCons (kVar 0) (kCons (kC (.ty "bool")) (kNil))))))) (kNext)
/-- law_is(_law_found, _law_due_here); slots 0 _law_found, 1 _law_due_here, 2 _law_sign, 3 _law_part -/
def rd_law_is_b0 (K : PySem.W.Frag) : KS :=
  kSeq (kIf (kOr (kNot (kT (kCB (kIsi K) (kCons (kVar 2) (kCons (kC (.ty "tuple")) (kNil)))))) (kNot (kT (kCB (kAll K) (kCons (kComp (kiTup K (kSlT K (kVar 2) (kPart (kC (.int 2))) (kNoP))) (kgName 3) (kYes) (kCall (S_law_whole K) (kCons (kVar 3) (kNil))) [3]) (kNil)))))) (kSeq (kRet (kC (.bl false))) (kNext)) (kNext)) (kNext)
def rd_law_is_2 (K : PySem.W.Frag) : KS :=
  kSeq (kRet (kC (.bl true))) (kNext)
def rd_law_is_1 (K : PySem.W.Frag) : KS :=
  kSeq (kFor (kiSeq K (kVar 0)) (kgName 2) (rd_law_is_b0 K)) (rd_law_is_2 K)
def rd_law_is (K : PySem.W.Frag) : KS :=
  kSeq (kIf (kOr (kNot (kT (kCB (kIsi K) (kCons (kVar 0) (kCons (kC (.ty "list")) (kNil)))))) (kT (kBin (kEqv true K) (kVar 0) (kVar 1)))) (kSeq (kRet (kC (.bl false))) (kNext)) (kNext)) (rd_law_is_1 K)
/-- law(_law_script); slots 0 _law_script, 1 _law_k, 2 _law_pool_here, 3 _law_many_here, 4 _law_asks, 5 _law_way, 6 _law_handed, 7 _law_due_here, 8 _law_found, 9 _law_j -/
def rd_law_b1_5 (K : PySem.W.Frag) : KS :=
  kSeq (kIf (kT (kBin (kEqv true K) (kCall (S_signs_of K) (kCons (kVar 5) (kCons (kVar 3) (kCons (kVar 6) (kNil))))) (kVar 7))) (kSeq (kRet (kC (.bl false))) (kNext)) (kNext)) (kNext)
def rd_law_b1_4 (K : PySem.W.Frag) : KS :=
  kSeq (kExpr (kBM K "list" (kAppend) (kVar 8) (kCons (kTup (kCons (kC (.str "room")) (kCons (kC (.str "look")) (kCons (kC (.int 0)) (kCons (kC (.int 0)) (kNil)))))) (kNil)))) (rd_law_b1_5 K)
def rd_law_b1_3 (K : PySem.W.Frag) : KS :=
  kSeq (kIf (kOr (kNot (kT (kCall (S_law_is K) (kCons (kVar 8) (kCons (kVar 7) (kNil)))))) (kT (kBin (kEqv true K) (kVar 6) (kVar 4)))) (kSeq (kRet (kC (.bl false))) (kNext)) (kNext)) (rd_law_b1_4 K)
def rd_law_b1_2 (K : PySem.W.Frag) : KS :=
  kSeq (kSet 8 (kCall (S_signs_of K) (kCons (kVar 5) (kCons (kVar 3) (kCons (kVar 6) (kNil)))))) (rd_law_b1_3 K)
def rd_law_b1_1 (K : PySem.W.Frag) : KS :=
  kSeq (kSet 7 (kCall (S_law_due K) (kCons (kVar 5) (kCons (kVar 3) (kCons (kVar 4) (kNil)))))) (rd_law_b1_2 K)
def rd_law_b1 (K : PySem.W.Frag) : KS :=
  kSeq (kSet 6 (kCB (kList K) (kCons (kVar 4) (kNil)))) (rd_law_b1_1 K)
def rd_law_b0_3 (K : PySem.W.Frag) : KS :=
  kSeq (kFor (kiW (kiSeq K (kLst (kCons (kC (.str "scan")) (kCons (kC (.str "tree")) (kCons (kC (.str "grove")) (kNil))))))) (kgName 5) (rd_law_b1 K)) (kNext)
def rd_law_b0_2 (K : PySem.W.Frag) : KS :=
  kSeq (kSet 4 (kComp (kiR1 (kCons (kCall (S_law_take K) (kCons (kVar 2) (kCons (kBin (kIx K) (kLst (kCons (kC (.int 61)) (kCons (kC (.int 13)) (kNil)))) (kCB (kInt) (kCons (kBin (kI0 fun i j => .bl (decide (j < i))) (kVar 3) (kC (.int 1))) (kNil)))) (kNil)))) (kNil))) (kgName 9) (kYes) (kCall (S_law_ask K) (kCons (kVar 2) (kCons (kVar 3) (kNil)))) [9])) (rd_law_b0_3 K)
def rd_law_b0_1 (K : PySem.W.Frag) : KS :=
  kSeq (kSet 3 (kCall (S_law_many K) (kCons (kVar 2) (kNil)))) (rd_law_b0_2 K)
def rd_law_b0 (K : PySem.W.Frag) : KS :=
  kSeq (kSet 2 (kCall (S_law_pool K) (kCons (kVar 0) (kCons (kVar 1) (kNil))))) (rd_law_b0_1 K)
def rd_law_1 (K : PySem.W.Frag) : KS :=
  kSeq (kRet (kC (.bl true))) (kNext)
def rd_law (K : PySem.W.Frag) : KS :=
  kSeq (kFor (kiR1 (kCons (kCB (kMax2) (kCons (kC (.int 1)) (kCons (kCB (kMin2) (kCons (kCB (kLen K) (kCons (kVar 0) (kNil))) (kCons (kC (.int 10)) (kNil)))) (kNil)))) (kNil))) (kgName 1) (rd_law_b0 K)) (rd_law_1 K)
section
variable {K : PySem.W.Frag} {vs : List V} {G : Hp} {M : Mem} {R : KR} {Z : KX}
theorem pf_law_take (h : S_law_take K vs G M R Z) : rd_law_take K (ends R Z) (sta 3 vs) G M := by
  obtain ⟨_, _, rfl, p, m, n, c, s, rfl, rfl, hn, hs, hm0, hm1, q⟩ := sp2_of h
  have hS : SeqAt' K G M p [.int c, .int s] := lst_n hn
  refine ⟨G, M, Wk.refl, _, _, hS, rfl, ite2' (fun e => ?_) (fun e => ?_)⟩
  · refine ⟨G, M, Wk.refl, _, _, hS, rfl, hm0, ?_⟩
    refine ⟨G, M, Wk.refl, _, _, hS, rfl, divW hm0 hm1 c, n, _, 0, hn, rfl, ?_⟩
    refine ⟨G, _, Wk.refl, ?_⟩
    exact ret0 (q _ _ _ (Int.emod_nonneg _ (by omega)) (Int.emod_lt_of_pos _ hm0) hs)
  · obtain ⟨s0, s1⟩ := hs
    have hs' : PoolOk ((s * 48271 + 11) % 2147483647) := ⟨Int.emod_nonneg _ (by decide), Int.emod_lt_of_pos _ (by decide)⟩
    refine ⟨G, M, Wk.refl, _, _, hS, rfl, mul_r (by decide) (by decide), (by show (0 : Int) < _; decide), n, _, 1, hn, rfl, ?_⟩
    have hn' : (M.set n (p, pool c ((s * 48271 + 11) % 2147483647)))[n]? = some (p, pool c ((s * 48271 + 11) % 2147483647)) := set_n hn
    have hS' : SeqAt' K G (M.set n (p, pool c ((s * 48271 + 11) % 2147483647))) p [.int c, .int ((s * 48271 + 11) % 2147483647)] := lst_n hn'
    refine ⟨G, _, Wk.refl, _, _, hS', rfl, _, _, hS', rfl, mul_l (by have := hs'.1; omega) (by have := hs'.2; omega), (by show (0 : Int) < _; decide), divW (by decide) (by decide) _, hm0, ?_⟩
    exact ret0 (q _ _ _ (Int.emod_nonneg _ (by omega)) (Int.emod_lt_of_pos _ hm0) hs')
theorem b01 (b : Bool) : -(2 ^ 64) < (if b then (1 : Int) else 0) ∧ (if b then (1 : Int) else 0) < 2 ^ 64 := by cases b <;> decide
end

section
variable {K : PySem.W.Frag} {vs : List V} {G : Hp} {M : Mem} {R : KR} {Z : KX}
theorem set_self {α : Type} {l : List α} {n : Nat} {x : α} (h : l[n]? = some x) : l.set n x = l := by
  apply List.ext_getElem? 
  intro i
  rw [List.getElem?_set]
  by_cases e : n = i
  · subst e
    rw [if_pos rfl, if_pos (List.getElem?_eq_some_iff.mp h).1, h]
  · rw [if_neg e]
theorem at_two {x y : V} {r : Int} (h0 : 0 ≤ r) (h1 : r < 2) : ∃ v, atI [x, y] r = some v ∧ (v = x ∨ v = y) := by
  have e : r = 0 ∨ r = 1 := by omega
  rcases e with rfl | rfl
  · exact ⟨x, rfl, .inl rfl⟩
  · exact ⟨y, rfl, .inr rfl⟩
theorem fr_set {n : Nat} {p : Addr} {o : HO} {x : Addr × HO} {t : Addr} (hn : M[n]? = some (p, o)) (h : Fr G M t) (e : x.1 = p := by rfl) : Fr G (M.set n x) t := by
  refine ⟨h.1, fun y hy => ?_⟩
  rcases List.mem_or_eq_of_mem_set hy with hy | rfl
  · exact h.2 y hy
  · rw [e]; exact h.2 _ (List.mem_of_getElem? hn)
theorem fr_unset {n : Nat} {p : Addr} {o : HO} {x : Addr × HO} {t : Addr} (hn : M[n]? = some (p, o)) (h : Fr G (M.set n x) t) (e : x.1 = p := by rfl) : Fr G M t := by
  have hl : n < M.length := (List.getElem?_eq_some_iff.mp hn).1
  refine ⟨h.1, fun y hy => ?_⟩
  obtain ⟨m, hm⟩ := List.getElem?_of_mem hy
  by_cases z : n = m
  · subst z
    rw [hn] at hm; cases hm
    have := h.2 x (List.mem_of_getElem? (List.getElem?_set_self hl))
    rw [e] at this; exact this
  · exact h.2 y (List.mem_of_getElem? (by rw [List.getElem?_set_ne z]; exact hm))
end

section
variable {K : PySem.W.Frag} {vs : List V} {G : Hp} {M : Mem} {R : KR} {Z : KX}
theorem pf_is_whole (h : S_is_whole K vs G M R Z) : rd_is_whole K (ends R Z) (sta 1 vs) G M := by
  obtain ⟨x, rfl, T, hT, q⟩ := sp1_of h
  refine ⟨G, M, Wk.refl, .type T.name, .type "int", _, .ty "int", hT, kit_pt T .int, ite2' (fun e => ?_) (fun e => ?_)⟩
  · refine ⟨.type T.name, .type "bool", _, .ty "bool", hT, kit_pt T .bool, ret0 ?_⟩
    have e2 : (!isaB T .bool) = (T == .int) := by revert e; cases T <;> decide
    rw [e2]; exact q
  · have e2 : false = (T == .int) := by revert e; cases T <;> decide
    refine ret0 ?_
    rw [e2]; exact q
theorem pf_is_within (h : S_is_within K vs G M R Z) : rd_is_within K (ends R Z) (sta 3 vs) G M := by
  obtain ⟨x, _, _, rfl, T, lo, hi, rfl, rfl, hT, hx, q⟩ := sp3_of h
  refine ⟨G, M, Wk.refl, T, hT, ite2' (fun e => ?_) (fun e => ?_)⟩
  · rw [e] at hx
    cases x with
    | int i =>
      have q : R (.bl (decide (lo ≤ i) && decide (i ≤ hi))) G M := q
      refine ite2' (fun e1 => ?_) (fun e1 => ?_)
      · rw [e1, Bool.true_and] at q; exact ret0 q
      · rw [e1, Bool.false_and] at q; exact ret0 q
    | _ => cases hx
  · rw [e] at hx
    have e2 : withinV x lo hi = false := by cases x <;> first | rfl | cases hx
    rw [e2] at q
    exact ret0 q
end

section
variable {K : PySem.W.Frag} {vs : List V} {G : Hp} {M : Mem} {R : KR} {Z : KX}
section
variable {α β : Type} {r : α → β → Prop}
theorem A2.len {as : List α} {bs : List β} (h : A2 r as bs) : as.length = bs.length := by
  induction h with
  | nil => rfl
  | cons _ _ ih => simp [ih]
theorem A2.app {as as' : List α} {bs bs' : List β} (h : A2 r as bs) (h' : A2 r as' bs') : A2 r (as ++ as') (bs ++ bs') := by
  induction h with
  | nil => exact h'
  | cons a _ ih => exact .cons a ih
theorem A2.rev {as : List α} {bs : List β} (h : A2 r as bs) : A2 r as.reverse bs.reverse := by
  induction h with
  | nil => exact .nil
  | cons a _ ih => rw [List.reverse_cons, List.reverse_cons]; exact ih.app (.cons a .nil)
theorem A2.get {as : List α} {bs : List β} (h : A2 r as bs) : ∀ {i : Nat} {b : β}, bs[i]? = some b → ∃ a, as[i]? = some a ∧ r a b := by
  induction h with
  | nil => intro i b e; simp at e
  | cons a _ ih =>
    intro i b e
    cases i with
    | zero => cases e; exact ⟨_, rfl, a⟩
    | succ i => exact ih e
theorem A2.get' {as : List α} {bs : List β} (h : A2 r as bs) : ∀ {i : Nat} {a : α}, as[i]? = some a → ∃ b, bs[i]? = some b ∧ r a b := by
  induction h with
  | nil => intro i b e; simp at e
  | cons a _ ih =>
    intro i b e
    cases i with
    | zero => cases e; exact ⟨_, rfl, a⟩
    | succ i => exact ih e
theorem A2.mono {r' : α → β → Prop} (m : ∀ a b, r a b → r' a b) {as : List α} {bs : List β} (h : A2 r as bs) : A2 r' as bs := by
  induction h with
  | nil => exact .nil
  | cons a _ ih => exact .cons (m _ _ a) ih
end
theorem drM_v {Mn : Mem} (hs : ∀ x, x ∈ Mn → x ∈ M) {v : V} {d : Dr} (h : DrM Mn v d) : DrV K G M v d := by
  cases d with
  | leaf n => exact h
  | row l => obtain ⟨b, rfl, h⟩ := h; exact ⟨b, rfl, .inl (hs _ h)⟩
theorem drM_sub {Mn Mm : Mem} (hs : ∀ x, x ∈ Mn → x ∈ Mm) {v : V} {d : Dr} (h : DrM Mn v d) : DrM Mm v d := by
  cases d with
  | leaf n => exact h
  | row l => obtain ⟨b, rfl, h⟩ := h; exact ⟨b, rfl, hs _ h⟩
theorem dp_kn_inv {v : V} {k : Kn} (h : Dp K G v (knD k)) : ∃ t, v = .ref t ∧ SqT K G t [.str k.txt, .int k.n] := by
  obtain ⟨t, xs, rfl, s, a⟩ := dp_tup_inv h
  refine ⟨t, rfl, ?_⟩
  cases a with
  | cons a b =>
    cases b with
    | cons b c =>
      cases c
      cases a
      cases b
      exact s
theorem dp_kn {t : Addr} {k : Kn} (h : SqT K G t [.str k.txt, .int k.n]) : Dp K G (.ref t) (knD k) := .tup h (.cons (.str _) (.cons (.int _) .nil))
theorem shp_kns {n : Nat} (ks : List Kn) : Shp (n + 2) (.list (ks.map knD)) := .list fun d hd => by
  obtain ⟨p, _, rfl⟩ := List.mem_map.mp hd
  refine .tuple fun d hd => ?_
  rcases List.mem_cons.mp hd with rfl | hd
  · exact .str (by obtain ⟨b, n⟩ := p; cases b <;> (show PyData.strOk _ = true; first | exact (by decide +kernel : PyData.strOk ("leaf" : Str) = true) | exact (by decide +kernel : PyData.strOk ("shuffle" : Str) = true)))
  · rcases List.mem_cons.mp hd with rfl | hd
    · exact .int
    · cases hd
theorem txt_leaf (k : Kn) : decide ((V.str k.txt) = (.str "leaf")) = k.leaf := by
  obtain ⟨b, n⟩ := k
  cases b
  · exact decide_eq_false (by intro h; injection h with h; exact absurd (show ("shuffle" : Str) = "leaf" from h) (by decide))
  · exact decide_eq_true rfl
/-! sizes -/
theorem fac_pos : ∀ n, 0 < fac n
  | 0 => by decide
  | n + 1 => Nat.mul_pos (by omega) (fac_pos n)
theorem fac_mono : ∀ {m n : Nat}, m ≤ n → fac m ≤ fac n := by
  intro m n h
  induction n with
  | zero => have : m = 0 := by omega
            subst this; exact Nat.le_refl _
  | succ n ih =>
    by_cases e : m = n + 1
    · subst e; exact Nat.le_refl _
    · have h1 := ih (by omega)
      show fac m ≤ (n + 1) * fac n
      have : 1 * fac n ≤ (n + 1) * fac n := Nat.mul_le_mul_right _ (by omega)
      omega
theorem fac_64 : fac 64 < 2 ^ 300 := by decide +kernel
theorem manyK_pos (k : Kn) : 0 < manyK k := by
  unfold manyK; split
  · exact Nat.pow_pos (by decide)
  · exact fac_pos _
theorem manyK_lt {k : Kn} (h : KnOk k) : manyK k < 2 ^ 300 := by
  unfold manyK; split
  · exact Nat.pow_lt_pow_right (by decide) (by have := h.1; omega)
  · exact Nat.lt_of_le_of_lt (fac_mono h.1) fac_64
theorem prK_pos : ∀ ks, 0 < prK ks
  | [] => by decide
  | k :: ks => Nat.mul_pos (manyK_pos k) (prK_pos ks)
theorem prK_lt : ∀ ks : List Kn, (∀ k, k ∈ ks → KnOk k) → prK ks < 2 ^ (300 * ks.length + 1)
  | [], _ => by decide
  | k :: ks, h => by
    have h1 := manyK_lt (h k List.mem_cons_self)
    have h2 := prK_lt ks fun q hq => h q (List.mem_cons_of_mem _ hq)
    show manyK k * prK ks < _
    rw [List.length_cons, show 300 * (ks.length + 1) + 1 = 300 + (300 * ks.length + 1) by omega, Nat.pow_add]
    exact Nat.mul_lt_mul'' h1 h2
theorem prK_snoc (ks : List Kn) (k : Kn) : prK (ks ++ [k]) = prK ks * manyK k := by
  induction ks with
  | nil => simp [prK]
  | cons a ks ih => show manyK a * prK (ks ++ [k]) = manyK a * prK ks * manyK k; rw [ih, Nat.mul_assoc]
theorem prK_take_le (ks : List Kn) (i : Nat) (h : ∀ k, k ∈ ks → KnOk k) : ∀ k, k ∈ ks.take i → KnOk k := fun k hk => h k (List.mem_of_mem_take hk)
theorem take_succ' {α : Type} {l : List α} {i : Nat} {x : α} (h : l[i]? = some x) : l.take (i + 1) = l.take i ++ [x] := by
  rw [List.take_succ, h]; rfl
end

section
variable {K : PySem.W.Frag} {vs : List V} {G : Hp} {M : Mem} {R : KR} {Z : KX}
theorem natsV_rev (l : List Nat) : (natsV l).reverse = natsV l.reverse := by unfold natsV; rw [List.map_reverse]
theorem lat_app {Mn : Mem} {a : Addr} {xs : List V} (h : LstAt K G M a xs) : LstAt K G (Mn ++ M) a xs := by
  rcases h with h | h
  · exact .inl (List.mem_append_right _ h)
  · exact .inr h
theorem rev_get {α : Type} {l : List α} {i : Nat} (h : i < l.length) : l.reverse[i]? = l[l.length - 1 - i]? := by
  rw [List.getElem?_reverse h]
theorem drop_get {α : Type} {l : List α} {i : Nat} {x : α} (h : l[i]? = some x) : l.drop i = x :: l.drop (i + 1) := by
  obtain ⟨hi, rfl⟩ := List.getElem?_eq_some_iff.mp h
  exact List.drop_eq_getElem_cons hi
end

section
variable {K : PySem.W.Frag} {vs : List V} {G : Hp} {M : Mem} {R : KR} {Z : KX}
theorem natsV_get {l : List Nat} {i v : Nat} (h : l[i]? = some v) : (natsV l)[i]? = some (.int (v : Int)) := by
  unfold natsV; rw [List.getElem?_map, h]; rfl
theorem natsV_len (l : List Nat) : (natsV l).length = l.length := by unfold natsV; rw [List.length_map]
theorem atI_nats {l : List Nat} {i v : Nat} (h : l[i]? = some v) : atI (natsV l) (i : Int) = some (.int (v : Int)) := atI_nat (natsV_get h)
theorem at_mem {l : List V} {r : Int} (h0 : 0 ≤ r) (h1 : r < l.length) : ∃ v, atI l r = some v ∧ v ∈ l := by
  obtain ⟨j, rfl⟩ := Int.eq_ofNat_of_zero_le h0
  have hj : l[j]? = some l[j] := List.getElem?_eq_getElem (by omega)
  exact ⟨_, atI_nat hj, List.mem_of_getElem? hj⟩
theorem dpall_rep {v : V} {d : PyData} (h : Dp K G v d) : ∀ n, DpAll K G (List.replicate n v) (List.replicate n d)
  | 0 => .nil
  | n + 1 => .cons h (dpall_rep h n)
theorem dpall_app2 : ∀ {vs ws : List V} {ds es : List PyData}, DpAll K G vs ds → DpAll K G ws es → DpAll K G (vs ++ ws) (ds ++ es)
  | _, _, _, _, .nil, h => h
  | _, _, _, _, .cons a b, h => .cons a (dpall_app2 b h)
theorem dpall_flat {us : List V} {ds : List PyData} (h : DpAll K G us ds) : ∀ n, DpAll K G (List.replicate n us).flatten (List.replicate n ds).flatten
  | 0 => .nil
  | n + 1 => dpall_app2 h (dpall_flat h n)
theorem ex_lat {G' : Hp} {M' : Mem} {a : Addr} {us : List V} (x : Ex G G') (hm : ∀ x, x ∈ M → x ∈ M') (h : LstAt K G M a us) : LstAt K G' M' a us := by
  rcases h with h | h
  · exact .inl (hm _ h)
  · exact .inr (ex_l x h)
theorem wi_hi {i lo hi : Int} (h : hi < i) : withinV (.int i) lo hi = false := by
  show (decide (lo ≤ i) && decide (i ≤ hi)) = false
  rw [decide_eq_false (p := i ≤ hi) (by omega), Bool.and_false]
theorem wi_lo {i lo hi : Int} (h : i < lo) : withinV (.int i) lo hi = false := by
  show (decide (lo ≤ i) && decide (i ≤ hi)) = false
  rw [decide_eq_false (p := lo ≤ i) (by omega), Bool.false_and]
theorem wi_in {i lo hi : Int} (h : lo ≤ i) (h2 : i ≤ hi) : withinV (.int i) lo hi = true := by
  show (decide (lo ≤ i) && decide (i ≤ hi)) = true
  rw [decide_eq_true h, decide_eq_true h2]; rfl
theorem Wk.sub' {G : Hp} {M M' : Mem} (h : List.Sublist M' M) : Wk G M G M' := fun H hv => ⟨hv.ex, fun x hx => hv.mu x (h.subset hx), hv.nd.sublist (h.map _), fun x hx => hv.dj x (h.subset hx)⟩
end

section
theorem swap_len {l : List Nat} {i j : Nat} : (swapL l i j).length = l.length := by unfold swapL; simp
theorem getD_lt {l : List Nat} {i : Nat} (h : i < l.length) : l.getD i 0 = l[i] := by rw [List.getD_eq_getElem?_getD, List.getElem?_eq_getElem h]; rfl
theorem getD_set {l : List Nat} {i j v : Nat} (h : i < l.length) : (l.set i v).getD j 0 = if j = i then v else l.getD j 0 := by
  rw [List.getD_eq_getElem?_getD, List.getElem?_set]
  by_cases e : i = j
  · subst e; simp [h]
  · rw [if_neg e, if_neg (Ne.symm e), List.getD_eq_getElem?_getD]
theorem swap_getD {l : List Nat} {i j k : Nat} (hi : i < l.length) (hj : j < l.length) : (swapL l i j).getD k 0 = if k = j then l.getD i 0 else if k = i then l.getD j 0 else l.getD k 0 := by
  unfold swapL
  rw [getD_set (by simpa using hj), getD_set hi]
theorem ext_getD {l m : List Nat} (hl : l.length = m.length) (h : ∀ i, i < l.length → l.getD i 0 = m.getD i 0) : l = m := by
  apply List.ext_getElem hl
  intro i h1 h2
  have := h i h1
  rwa [getD_lt h1, getD_lt h2] at this
theorem nodup_getD {l : List Nat} : l.Nodup ↔ ∀ i j, i < l.length → j < l.length → l.getD i 0 = l.getD j 0 → i = j := by
  constructor
  · intro h i j hi hj e
    rw [getD_lt hi, getD_lt hj] at e
    exact (List.getElem_inj h).mp e
  · intro h
    rw [List.nodup_iff_pairwise_ne, List.pairwise_iff_getElem]
    intro i j hi hj hij e
    have := h i j hi hj (by rw [getD_lt hi, getD_lt hj]; exact e)
    omega
theorem mem_getD {l : List Nat} {x : Nat} : x ∈ l ↔ ∃ i, i < l.length ∧ l.getD i 0 = x := by
  constructor
  · intro h
    obtain ⟨i, hi, e⟩ := List.getElem_of_mem h
    exact ⟨i, hi, by rw [getD_lt hi]; exact e⟩
  · rintro ⟨i, hi, e⟩
    rw [getD_lt hi] at e
    rw [← e]; exact List.getElem_mem hi
theorem swap_mem {l : List Nat} {i j x : Nat} (hi : i < l.length) (hj : j < l.length) : x ∈ swapL l i j ↔ x ∈ l := by
  rw [mem_getD, mem_getD, swap_len]
  constructor
  · rintro ⟨k, hk, e⟩
    rw [swap_getD hi hj] at e
    by_cases e1 : k = j
    · rw [if_pos e1] at e; exact ⟨i, hi, e⟩
    · rw [if_neg e1] at e
      by_cases e2 : k = i
      · rw [if_pos e2] at e; exact ⟨j, hj, e⟩
      · rw [if_neg e2] at e; exact ⟨k, hk, e⟩
  · rintro ⟨k, hk, e⟩
    by_cases e1 : k = j
    · refine ⟨i, hi, ?_⟩
      rw [swap_getD hi hj, if_pos rfl]
      by_cases e3 : i = j
      · rw [if_pos e3, e3, ← e1, e]
      · rw [if_neg e3, ← e1, e]
    · by_cases e2 : k = i
      · exact ⟨j, hj, by rw [swap_getD hi hj, if_pos rfl, ← e2, e]⟩
      · exact ⟨k, hk, by rw [swap_getD hi hj, if_neg e1, if_neg e2, e]⟩
theorem swap_nodup {l : List Nat} {i j : Nat} (hi : i < l.length) (hj : j < l.length) (h : l.Nodup) : (swapL l i j).Nodup := by
  rw [nodup_getD] at h ⊢
  rw [swap_len]
  intro a b ha hb e
  have pi : ∀ k, (swapL l i j).getD k 0 = l.getD (if k = j then i else if k = i then j else k) 0 := fun k => by
    rw [swap_getD hi hj]; split <;> first | rfl | (split <;> rfl)
  rw [pi, pi] at e
  have lt : ∀ k, k < l.length → (if k = j then i else if k = i then j else k) < l.length := fun k hk => by split <;> first | assumption | (split <;> assumption)
  have q := h _ _ (lt a ha) (lt b hb) e
  split at q <;> split at q <;> first | omega | (split at q <;> first | omega | (split at q <;> omega))
theorem OrdOk.swap {n : Nat} {o : List Nat} {i j : Nat} (h : OrdOk n o) (hi : i < n) (hj : j < n) : OrdOk n (swapL o i j) :=
  have hi' : i < o.length := by rw [h.len]; exact hi
  have hj' : j < o.length := by rw [h.len]; exact hj
  ⟨by rw [swap_len]; exact h.len, swap_nodup hi' hj' h.nd, fun x hx => h.lt x ((swap_mem hi' hj').mp hx)⟩
theorem ord_range (n : Nat) : OrdOk n (List.range n) := ⟨List.length_range, List.nodup_range, fun x hx => List.mem_range.mp hx⟩
theorem nodup_lt_len : ∀ (m : Nat) (l : List Nat), l.Nodup → (∀ x, x ∈ l → x < m) → l.length ≤ m
  | 0, l, _, h => by
    cases l with
    | nil => exact Nat.le_refl _
    | cons x l => exact absurd (h x List.mem_cons_self) (Nat.not_lt_zero _)
  | m + 1, l, hn, h => by
    by_cases hm : m ∈ l
    · have e := List.length_erase_of_mem hm
      have ih := nodup_lt_len m (l.erase m) (hn.erase m) fun x hx => by
        have q := hn.mem_erase_iff.mp hx
        have := h x q.2
        have := q.1
        omega
      omega
    · have ih := nodup_lt_len m l hn fun x hx => by
        have := h x hx
        have : x ≠ m := fun z => hm (z ▸ hx)
        omega
      omega
/-- a list of different numbers below n, n long, has them all -/
theorem ord_has {n : Nat} {o : List Nat} (h : OrdOk n o) (x : Nat) (hx : x < n) : x ∈ o := by
  apply Classical.byContradiction
  intro hm
  have := nodup_lt_len n (x :: o) (List.nodup_cons.mpr ⟨hm, h.nd⟩) fun y hy => by
    rcases List.mem_cons.mp hy with rfl | hy
    · exact hx
    · exact h.lt y hy
  rw [List.length_cons, h.len] at this
  omega
/-- the walk keeps what is behind -/
theorem walkO_ok {n : Nat} {r : Nat → Nat} (hr : ∀ i, i < n → r i ≤ i) : ∀ (m : Nat) (o : List Nat), m < n → OrdOk n o → OrdOk n (walkO r m o) ∧ ∀ j, m < j → (walkO r m o).getD j 0 = o.getD j 0
  | 0, o, _, h => ⟨h, fun _ _ => rfl⟩
  | m + 1, o, hm, h => by
    have r1 := hr (m + 1) hm
    have h1 := h.swap (i := m + 1) (j := r (m + 1)) hm (by omega)
    obtain ⟨a, b⟩ := walkO_ok hr m (swapL o (m + 1) (r (m + 1))) (by omega) h1
    refine ⟨a, fun j hj => ?_⟩
    show (walkO r m (swapL o (m + 1) (r (m + 1)))).getD j 0 = _
    rw [b j (by omega), swap_getD (by rw [h.len]; omega) (by rw [h.len]; omega), if_neg (by omega), if_neg (by omega)]
theorem rowok_getD {l : List Nat} (h : RowOk l) : ∀ i, i < l.length → l.getD i 0 ≤ i := fun i hi => h i _ (by rw [getD_lt hi, List.getElem?_eq_getElem hi])
theorem order_ok {l : List Nat} (h : RowOk l) : OrdOk l.length (orderOf l) := by
  unfold orderOf
  by_cases e : l.length = 0
  · rw [e]; exact ord_range 0
  · exact (walkO_ok (rowok_getD h) _ _ (by omega) (ord_range _)).1
theorem order_len {l : List Nat} (h : RowOk l) : (orderOf l).length = l.length := (order_ok h).len
theorem idx_of_nodup {l : List Nat} {i : Nat} (h : l.Nodup) (hi : i < l.length) : l.idxOf (l.getD i 0) = i := by
  have hm : l.getD i 0 ∈ l := mem_getD.mpr ⟨i, hi, rfl⟩
  have hlt : l.idxOf (l.getD i 0) < l.length := List.idxOf_lt_length_iff.mpr hm
  have e : l[l.idxOf (l.getD i 0)] = l.getD i 0 := List.getElem_idxOf hlt
  exact nodup_getD.mp h _ _ hlt hi (by rw [getD_lt hlt]; exact e)
theorem getD_idx {l : List Nat} {x : Nat} (h : x ∈ l) : l.idxOf x < l.length ∧ l.getD (l.idxOf x) 0 = x := by
  have hlt : l.idxOf x < l.length := List.idxOf_lt_length_iff.mpr h
  exact ⟨hlt, by rw [getD_lt hlt]; exact List.getElem_idxOf hlt⟩
/-- the row of the order of a row -/
theorem walkR_of {n : Nat} {r : Nat → Nat} (hr : ∀ i, i < n → r i ≤ i) : ∀ (m : Nat) (o row : List Nat), m < n → OrdOk n o → row.length = n →
    (walkR (fun i => (walkO r m o).getD i 0) m o row).length = n ∧ ∀ j, j < n → (walkR (fun i => (walkO r m o).getD i 0) m o row).getD j 0 = if 1 ≤ j ∧ j ≤ m then r j else row.getD j 0
  | 0, o, row, hm, h, hl => ⟨hl, fun j hj => by rw [if_neg (by omega)]; rfl⟩
  | m + 1, o, row, hm, h, hl => by
    have r1 := hr (m + 1) hm
    have h1 := h.swap (i := m + 1) (j := r (m + 1)) hm (by omega)
    obtain ⟨a, b⟩ := walkO_ok hr m _ (by omega : m < n) h1
    have e1 : (walkO r (m + 1) o).getD (m + 1) 0 = o.getD (r (m + 1)) 0 := by
      show (walkO r m (swapL o (m + 1) (r (m + 1)))).getD (m + 1) 0 = _
      rw [b (m + 1) (by omega), swap_getD (by rw [h.len]; omega) (by rw [h.len]; omega)]
      by_cases z : m + 1 = r (m + 1)
      · rw [if_pos z, ← z]
      · rw [if_neg z, if_pos rfl]
    have e2 : o.idxOf ((walkO r (m + 1) o).getD (m + 1) 0) = r (m + 1) := by
      rw [e1]; exact idx_of_nodup h.nd (by rw [h.len]; omega)
    obtain ⟨c, d⟩ := walkR_of hr m (swapL o (m + 1) (r (m + 1))) (row.set (m + 1) (r (m + 1))) (by omega) h1 (by simpa using hl)
    have e3 : walkR (fun i => (walkO r (m + 1) o).getD i 0) (m + 1) o row = walkR (fun i => (walkO r m (swapL o (m + 1) (r (m + 1)))).getD i 0) m (swapL o (m + 1) (r (m + 1))) (row.set (m + 1) (r (m + 1))) := by
      show walkR (fun i => (walkO r (m + 1) o).getD i 0) m (swapL o (m + 1) (o.idxOf ((walkO r (m + 1) o).getD (m + 1) 0))) (row.set (m + 1) (o.idxOf ((walkO r (m + 1) o).getD (m + 1) 0))) = _
      rw [e2]; rfl
    rw [e3]
    refine ⟨c, fun j hj => ?_⟩
    rw [d j hj, getD_set (by omega)]
    by_cases z : j = m + 1
    · rw [if_neg (by omega), if_pos z, if_pos (by omega), z]
    · by_cases y : 1 ≤ j ∧ j ≤ m
      · rw [if_pos y, if_pos (by omega)]
      · rw [if_neg y, if_neg z, if_neg (by omega)]
theorem row_order {l : List Nat} (h : RowOk l) : rowOf (orderOf l) = l := by
  by_cases e : l.length = 0
  · have : l = [] := List.length_eq_zero_iff.mp e
    subst this; rfl
  have hr := rowok_getD h
  obtain ⟨a, b⟩ := walkR_of hr (l.length - 1) (List.range l.length) (List.replicate l.length 0) (by omega) (ord_range _) List.length_replicate
  have e1 : rowOf (orderOf l) = walkR (fun i => (walkO (fun i => l.getD i 0) (l.length - 1) (List.range l.length)).getD i 0) (l.length - 1) (List.range l.length) (List.replicate l.length 0) := by
    unfold rowOf
    rw [order_len h]; rfl
  rw [e1]
  refine ext_getD a fun i hi => ?_
  rw [a] at hi
  rw [b i hi]
  by_cases z : 1 ≤ i ∧ i ≤ l.length - 1
  · rw [if_pos z]
  · rw [if_neg z]
    have hi0 : i = 0 := by omega
    have := hr 0 (by omega)
    subst hi0
    rw [getD_lt (by simp; omega)]
    simp
    simp at this
    omega
/-- the order of the row of an order -/
theorem left_idx {n m : Nat} {o left : List Nat} (ho : OrdOk n o) (hl : OrdOk n left) (hm : m < n) (hj : ∀ j, m < j → j < n → left.getD j 0 = o.getD j 0) : left.idxOf (o.getD m 0) ≤ m ∧ left.getD (left.idxOf (o.getD m 0)) 0 = o.getD m 0 := by
  have hin : o.getD m 0 ∈ left := ord_has hl _ (ho.lt _ (mem_getD.mpr ⟨m, by rw [ho.len]; exact hm, rfl⟩))
  obtain ⟨a, b⟩ := getD_idx hin
  refine ⟨Nat.not_lt.mp fun z => ?_, b⟩
  rw [hl.len] at a
  have e := hj _ z a
  rw [b] at e
  have := nodup_getD.mp ho.nd m _ (by rw [ho.len]; exact hm) (by rw [ho.len]; exact a) e
  omega
theorem walkR_row {n : Nat} {o : List Nat} (ho : OrdOk n o) : ∀ (m : Nat) (left row : List Nat), m < n → OrdOk n left → row.length = n → (∀ j, m < j → j < n → left.getD j 0 = o.getD j 0) →
    (walkR (fun i => o.getD i 0) m left row).length = n ∧ (∀ j, m < j → (walkR (fun i => o.getD i 0) m left row).getD j 0 = row.getD j 0) ∧ ((∀ j, j < n → row.getD j 0 ≤ j) → ∀ j, j < n → (walkR (fun i => o.getD i 0) m left row).getD j 0 ≤ j) ∧
    ∀ r : Nat → Nat, (∀ j, j < n → r j = (walkR (fun i => o.getD i 0) m left row).getD j 0) → OrdOk n (walkO r m left) ∧ ∀ j, 1 ≤ j → j < n → (walkO r m left).getD j 0 = o.getD j 0
  | 0, left, row, hm, hl, hr, hj => ⟨hr, fun _ _ => rfl, fun h => h, fun r _ => ⟨hl, fun j h1 h2 => hj j h1 h2⟩⟩
  | m + 1, left, row, hm, hl, hr, hj => by
    obtain ⟨i1, i2⟩ := left_idx ho hl hm hj
    have hs := hl.swap (i := m + 1) (j := left.idxOf (o.getD (m + 1) 0)) hm (by omega)
    obtain ⟨a, b, c, d⟩ := walkR_row ho m (swapL left (m + 1) (left.idxOf (o.getD (m + 1) 0))) (row.set (m + 1) (left.idxOf (o.getD (m + 1) 0))) (by omega) hs (by simpa using hr) (fun j h1 h2 => by
      rw [swap_getD (by rw [hl.len]; omega) (by rw [hl.len]; omega)]
      by_cases z : j = left.idxOf (o.getD (m + 1) 0)
      · have : j = m + 1 := by omega
        rw [if_pos z]
        rw [← z] at i2
        subst this; exact i2
      · rw [if_neg z]
        by_cases y : j = m + 1
        · rw [if_pos y, i2, y]
        · rw [if_neg y]; exact hj j (by omega) h2)
    refine ⟨a, fun j h1 => ?_, fun h => c fun j h2 => ?_, fun r hr2 => ?_⟩
    · show (walkR (fun i => o.getD i 0) m _ _).getD j 0 = _
      rw [b j (by omega), getD_set (by omega), if_neg (by omega)]
    · rw [getD_set (by omega)]
      by_cases y : j = m + 1
      · rw [if_pos y, y]; exact i1
      · rw [if_neg y]; exact h j h2
    · have e : r (m + 1) = left.idxOf (o.getD (m + 1) 0) := by
        rw [hr2 (m + 1) hm]
        show (walkR (fun i => o.getD i 0) m _ _).getD (m + 1) 0 = _
        rw [b (m + 1) (by omega), getD_set (by omega), if_pos rfl]
      show OrdOk n (walkO r m (swapL left (m + 1) (r (m + 1)))) ∧ ∀ j, 1 ≤ j → j < n → (walkO r m (swapL left (m + 1) (r (m + 1)))).getD j 0 = _
      rw [e]
      exact d r hr2
theorem row_ok {o : List Nat} (h : OrdOk o.length o) : (rowOf o).length = o.length ∧ RowOk (rowOf o) := by
  by_cases e : o.length = 0
  · have : o = [] := List.length_eq_zero_iff.mp e
    subst this
    exact ⟨rfl, fun i v q => by simp [rowOf, walkR] at q⟩
  obtain ⟨a, b, c, d⟩ := walkR_row h (o.length - 1) (List.range o.length) (List.replicate o.length 0) (by omega) (ord_range _) List.length_replicate (fun j h1 h2 => by omega)
  refine ⟨a, fun i v q => ?_⟩
  obtain ⟨hi, ev⟩ := List.getElem?_eq_some_iff.mp q
  have hi2 : i < o.length := by rw [← a]; exact hi
  have := c (fun j hj => by rw [getD_lt (by simpa using hj)]; simp) i hi2
  rw [← ev, ← getD_lt hi]; exact this
theorem order_row {o : List Nat} (h : OrdOk o.length o) : orderOf (rowOf o) = o := by
  by_cases e : o.length = 0
  · have : o = [] := List.length_eq_zero_iff.mp e
    subst this; rfl
  obtain ⟨a, b, c, d⟩ := walkR_row h (o.length - 1) (List.range o.length) (List.replicate o.length 0) (by omega) (ord_range _) List.length_replicate (fun j h1 h2 => by omega)
  obtain ⟨x, y⟩ := d (fun i => (rowOf o).getD i 0) (fun _ _ => rfl)
  have e1 : orderOf (rowOf o) = walkO (fun i => (rowOf o).getD i 0) (o.length - 1) (List.range o.length) := by
    unfold orderOf
    rw [(row_ok h).1]
  rw [e1]
  refine ext_getD x.len fun i hi => ?_
  rw [x.len] at hi
  by_cases z : 1 ≤ i
  · exact y i z hi
  have hi0 : i = 0 := by omega
  subst hi0
  -- the number that is left
  have hm := ord_has x _ (h.lt _ (mem_getD.mpr ⟨0, hi, rfl⟩))
  obtain ⟨j, hj, ej⟩ := mem_getD.mp hm
  by_cases z : j = 0
  · subst z; exact ej
  · rw [x.len] at hj
    rw [y j (by omega) hj] at ej
    have := nodup_getD.mp h.nd j 0 hj hi ej
    omega
end

section
variable {K : PySem.W.Frag} {vs : List V} {G : Hp} {M : Mem} {R : KR} {Z : KX}
theorem asg_C {lo c v : Int} {n i : Nat} {g : KG} {σ : St} {R : St → Hp → Mem → Prop} (e : lo + (i : Nat) * c = v) (q : g.val (.int v) σ G M R) : asg g ((srcC lo c n).get i) σ G M R := by subst e; exact q
theorem asg_R {lo v : Int} {n i : Nat} {g : KG} {σ : St} {R : St → Hp → Mem → Prop} (e : lo + (i : Nat) = v) (q : g.val (.int v) σ G M R) : asg g ((srcR lo n).get i) σ G M R := by subst e; exact q
theorem rgV_nats (n : Nat) : rgV 0 (n : Int) = natsV (List.range n) := by
  unfold rgV natsV
  rw [show ((n : Int) - 0).toNat = n by omega]
  refine List.map_congr_left fun i _ => ?_
  rw [Int.zero_add]
theorem atI_natD {l : List Nat} {i : Nat} (h : i < l.length) : atI (natsV l) (i : Int) = some (.int (l.getD i 0 : Nat)) := atI_nats (by rw [getD_lt h, List.getElem?_eq_getElem h])
theorem ixN_nat {n i : Nat} (h : i < n) : ixN n (i : Int) = some i := by rw [ixN_int (by omega) (by omega)]; rfl
theorem natsV_set {l : List Nat} {i v : Nat} : (natsV l).set i (.int (v : Int)) = natsV (l.set i v) := by unfold natsV; rw [List.map_set]
theorem tyk_cons {x : V} {T : PT} {y : Addr × HO} (h : TyK K G M x T) : TyK K G (y :: M) x T := fun H hv => h H (Wk.drop0 H hv)
theorem all_snoc (bs : List Bool) (b : Bool) : (bs ++ [b]).all id = (bs.all id && b) := by simp
theorem within_int {x : V} {lo hi : Int} (h : withinV x lo hi = true) : ∃ i, x = .int i ∧ lo ≤ i ∧ i ≤ hi := by
  cases x with
  | int i =>
    have h : (decide (lo ≤ i) && decide (i ≤ hi)) = true := h
    rw [Bool.and_eq_true] at h
    exact ⟨i, rfl, of_decide_eq_true h.1, of_decide_eq_true h.2⟩
  | _ => cases h
theorem map_intOf {xs : List V} {hi : Int} (h : xs.all (fun x => withinV x 0 hi) = true) : xs = (xs.map intOf).map V.int := by
  rw [List.map_map]
  have : ∀ x, x ∈ xs → x = (V.int ∘ intOf) x := fun x hx => by
    obtain ⟨i, rfl, _⟩ := within_int (List.all_eq_true.mp h x hx)
    rfl
  exact (List.map_id xs).symm.trans (List.map_congr_left this)
theorem ints_ty {l : List Nat} : ItemsTy K G M (natsV l) := fun x hx => by
  obtain ⟨n, _, rfl⟩ := List.mem_map.mp hx
  exact ⟨.int, ty_int, rfl⟩
theorem nodup_natsV {l : List Nat} : ((natsV l).map intOf).Nodup ↔ l.Nodup := by
  unfold natsV
  rw [List.map_map]
  constructor
  · intro h
    exact (List.pairwise_map.mp h).imp fun {a b} (z : ((a : Nat) : Int) ≠ (b : Nat)) (e : a = b) => z (by rw [e])
  · intro h
    exact List.pairwise_map.mpr (h.imp fun {a b} z (e : ((a : Nat) : Int) = (b : Nat)) => z (by omega))
theorem orderB_nats {o : List Nat} (h : OrdOk o.length o) (h1 : 1 ≤ o.length) (h2 : o.length ≤ 64) : orderB (natsV o) = true := by
  unfold orderB
  rw [natsV_len, decide_eq_true h1, decide_eq_true h2, decide_eq_true (nodup_natsV.mpr h.nd), List.all_eq_true.mpr]
  · rfl
  · intro x hx
    obtain ⟨n, hn, rfl⟩ := List.mem_map.mp hx
    have := h.lt n hn
    exact wi_in (by omega) (by omega)
theorem ordV_nats {a : Addr} {o : List Nat} (ha : LstAt K G M a (natsV o)) (h : OrdOk o.length o) (h1 : 1 ≤ o.length) (h2 : o.length ≤ 64) : ordV K G M (.ref a) true :=
  .inr ⟨a, _, rfl, ha, by rw [natsV_len]; omega, ints_ty, (orderB_nats h h1 h2).symm⟩
theorem natsV_flat (l : List Nat) : (natsV l).all flatV = true := List.all_eq_true.mpr fun x hx => by
  obtain ⟨n, _, rfl⟩ := List.mem_map.mp hx
  rfl
theorem idx_before {l : List Nat} {x m : Nat} (h : m < l.idxOf x) (hl : m < l.length) : l.getD m 0 ≠ x := fun e => by
  have := List.not_of_lt_findIdx (p := fun y => y == x) (xs := l) (i := m) h
  rw [getD_lt hl] at e
  rw [e] at this
  simp at this
theorem rep_zeros (n : Nat) : (List.replicate n [V.int 0]).flatten = natsV (List.replicate n 0) := by
  induction n with
  | zero => rfl
  | succ n ih => rw [List.replicate_succ, List.flatten_cons, ih]; rfl
end

section
variable {K : PySem.W.Frag} {vs : List V} {G : Hp} {M : Mem} {R : KR} {Z : KX}
theorem Fr.keys {M M' : Mem} {p : Addr} (h : Fr G M p) (e : M'.map (·.1) = M.map (·.1) := by rfl) : Fr G M' p := ⟨h.1, fun x hx z => by
  have : x.1 ∈ M'.map (·.1) := List.mem_map.mpr ⟨x, hx, rfl⟩
  rw [e] at this
  obtain ⟨y, hy, ey⟩ := List.mem_map.mp this
  exact h.2 y hy (ey.trans z)⟩
/-! ### cells that were just laid, frozen together -/
inductive Frs (G : Hp) (M : Mem) : Mem → Prop
  | nil : Frs G M []
  | cons {p : Addr} {o : HO} {Mx : Mem} : Fr G (Mx ++ M) p → Frs G M Mx → Frs G M ((p, o) :: Mx)
theorem Frs.key {Mx : Mem} (h : Frs G M Mx) : ∀ x, x ∈ Mx → G x.1 = none ∧ ∀ y, y ∈ M → y.1 ≠ x.1 := by
  induction h with
  | nil => intro x hx; cases hx
  | cons f _ ih =>
    intro x hx
    rcases List.mem_cons.mp hx with rfl | hx
    · exact ⟨f.1, fun y hy => f.2 y (List.mem_append.mpr (.inr hy))⟩
    · exact ih x hx
theorem Frs.upd {Mx : Mem} {p : Addr} {o : HO} (h : Frs G M Mx) (f : ∀ x, x ∈ Mx → x.1 ≠ p) : Frs (upd G p o) M Mx := by
  induction h with
  | nil => exact .nil
  | cons f1 _ ih => exact .cons ⟨by rw [upd_ne (f _ List.mem_cons_self)]; exact f1.1, f1.2⟩ (ih fun x hx => f x (List.mem_cons_of_mem _ hx))
theorem frz_pre {M : Mem} : ∀ {Mx : Mem} {G : Hp}, Frs G M Mx → ∃ G', Ex G G' ∧ (∀ x, x ∈ Mx → G' x.1 = some x.2) ∧ Wk G (Mx ++ M) G' M ∧ ∀ q, G q = none → (∀ x, x ∈ Mx → x.1 ≠ q) → G' q = none
  | [], G, _ => ⟨G, Ex.refl, fun _ h => (nomatch h), Wk.refl, fun _ h _ => h⟩
  | (p, o) :: Mx, G, h => by
    cases h with
    | cons f h =>
      have hp : ∀ x, x ∈ Mx → x.1 ≠ p := fun x hx => f.2 x (List.mem_append.mpr (.inl hx))
      obtain ⟨G', e, a, w, n⟩ := frz_pre (h.upd (o := o) hp)
      refine ⟨G', (Ex.new f).trans e, fun x hx => ?_, Wk.frz0.trans w, fun q hq hx => ?_⟩
      · rcases List.mem_cons.mp hx with rfl | hx
        · exact e p o upd_same
        · exact a x hx
      · exact n q (by rw [upd_ne (Ne.symm (hx (p, o) List.mem_cons_self))]; exact hq) fun x h2 => hx x (List.mem_cons_of_mem _ h2)
theorem Frs.more {Mx : Mem} {x : Addr × HO} (h : Frs G M Mx) (f : ∀ y, y ∈ Mx → x.1 ≠ y.1) : Frs G (x :: M) Mx := by
  induction h with
  | nil => exact .nil
  | @cons p o Mx f1 _ ih =>
    refine .cons ⟨f1.1, fun y hy => ?_⟩ (ih fun y hy => f y (List.mem_cons_of_mem _ hy))
    rcases List.mem_append.mp hy with hy | hy
    · exact f1.2 y (List.mem_append.mpr (.inl hy))
    · rcases List.mem_cons.mp hy with rfl | hy
      · exact f _ List.mem_cons_self
      · exact f1.2 y (List.mem_append.mpr (.inr hy))
/-- the same beneath one cell -/
theorem frz_pre1 {Mx : Mem} {s : Addr} {o : HO} (h : Frs G M Mx) (f : Fr G (Mx ++ M) s) : ∃ G', Ex G G' ∧ (∀ x, x ∈ Mx → G' x.1 = some x.2) ∧ Wk G ((s, o) :: (Mx ++ M)) G' ((s, o) :: M) ∧ Fr G' M s := by
  obtain ⟨G', a, b, c, d⟩ := frz_pre (h.more (x := (s, o)) fun y hy => Ne.symm (f.2 y (List.mem_append.mpr (.inl hy))))
  exact ⟨G', a, b, (Wk.perm List.perm_middle).trans c, d s f.1 fun x hx => f.2 x (List.mem_append.mpr (.inl hx)), fun x hx => f.2 x (List.mem_append.mpr (.inr hx))⟩
theorem kseq_wk {t u : KS} {D : Kd} {σ : St} {G G' : Hp} {M M' : Mem} (w : Wk G M G' M') (h : kSeq t u D σ G' M') : kSeq t u D σ G M := by
  obtain ⟨a, b, c, d⟩ := h
  exact ⟨a, b, w.trans c, d⟩
/-! ### things whose type is known -/
theorem ty_ex {G' : Hp} {x : V} {T : PT} (e : Ex G G') (h : ∀ M, TyK K G M x T) : ∀ M, TyK K G' M x T := fun M H hv => h M H (Wk.less e H hv)
theorem WOk.ex {G' : Hp} {w : V} (e : Ex G G') (h : WOk K G w) : WOk K G' w := by
  obtain ⟨S, h1, h2⟩ := h
  exact ⟨S, ty_ex e h1, h2⟩
theorem IOk.ex {G' : Hp} {w : V} (e : Ex G G') (h : IOk K G w) : IOk K G' w := by
  obtain ⟨S, h1, h2⟩ := h
  exact ⟨S, ty_ex e h1, h2⟩
theorem iok_int {i : Int} : IOk K G (.int i) := ⟨.int, fun _ => ty_int, rfl⟩
theorem iok_non : IOk K G .non := ⟨.non, fun _ => ty_non, rfl⟩
theorem iok_bl {b : Bool} : IOk K G (.bl b) := ⟨.bool, fun _ => ty_bl, rfl⟩
theorem iok_str {b : Str} : IOk K G (.str b) := ⟨.str, fun _ => ty_str, rfl⟩
theorem iok_tup {a : Addr} {xs : List V} (h : SqT K G a xs) : IOk K G (.ref a) := ⟨.tuple, fun _ => ty_tup h, rfl⟩
theorem iok_lst {a : Addr} {xs : List V} (h : SqL K G a xs) : IOk K G (.ref a) := ⟨.list, fun _ => ty_lst (.inr h), rfl⟩
theorem iok_dict {a : Addr} {xs : List (Key × V)} (h : G a = some (.dK xs)) : IOk K G (.ref a) := ⟨.dict, fun _ => ty_dict (.inr h), rfl⟩
theorem wok_str {b : Str} : WOk K G (.str b) := ⟨.str, fun _ => ty_str, rfl⟩
def boolsD (l : List Bool) : PyData := .list (l.map .bool)
theorem dp_bools : ∀ l : List Bool, DpAll K G (l.map V.bl) (l.map PyData.bool)
  | [] => .nil
  | b :: l => .cons (.bl b) (dp_bools l)
theorem shp_bools (l : List Bool) : Shp 1 (boolsD l) := .list fun d hd => by
  obtain ⟨b, _, rfl⟩ := List.mem_map.mp hd
  exact .bl
/-! ### slices of numbers -/
theorem cut_take {xs : List V} {k : Nat} : cutV xs none (some (k : Int)) = xs.take k := by
  unfold cutV
  rw [HT.sIx_none, HT.sIx_nat, List.drop_zero, Nat.sub_zero]
  rw [Nat.min_def]; split
  · rfl
  · rw [List.take_length, List.take_of_length_le (by omega)]
theorem cut_drop {xs : List V} {k : Nat} : cutV xs (some (k : Int)) none = xs.drop k := by
  unfold cutV
  rw [HT.sIx_none, HT.sIx_nat, Nat.min_def]; split
  · rw [List.take_of_length_le (by rw [List.length_drop]; exact Nat.le_refl _)]
  · rw [List.drop_length, List.take_nil, List.drop_of_length_le (by omega)]
theorem cut_init {xs : List V} : cutV xs none (some (-1)) = xs.dropLast := by
  unfold cutV
  rw [HT.sIx_none, List.drop_zero, Nat.sub_zero, List.dropLast_eq_take]
  have e : HT.sIx xs.length xs.length (some (-1)) = xs.length - 1 := by
    show (if (-1 : Int) < 0 then (-1 + (xs.length : Int)).toNat else min (-1 : Int).toNat xs.length) = _
    rw [if_pos (by decide)]; omega
  rw [e]
theorem natsV_take {l : List Nat} {k : Nat} : (natsV l).take k = natsV (l.take k) := by unfold natsV; rw [List.map_take]
theorem natsV_drop {l : List Nat} {k : Nat} : (natsV l).drop k = natsV (l.drop k) := by unfold natsV; rw [List.map_drop]
theorem natsV_app {l m : List Nat} : natsV l ++ natsV m = natsV (l ++ m) := by unfold natsV; rw [List.map_append]
/-- numbers as data -/
def natsD (l : List Nat) : List PyData := l.map fun (n : Nat) => PyData.int (n : Int)
theorem dp_nats : ∀ (l : List Nat), DpAll K G (natsV l) (natsD l)
  | [] => .nil
  | n :: l => .cons (.int _) (dp_nats l)
theorem shp_nats {n : Nat} (l : List Nat) : Shp (n + 1) (.list (natsD l)) := .list fun d hd => by
  obtain ⟨i, _, rfl⟩ := List.mem_map.mp hd
  exact .int
theorem dat_nats {a : Addr} {l : List Nat} (h : LstAt K G M a (natsV l)) : DatAt K G M (.ref a) (.list (natsD l)) := dat_list h (dats_g (dp_nats l))
theorem natsD_inj : ∀ {l m : List Nat}, natsD l = natsD m → l = m
  | [], [], _ => rfl
  | [], _ :: _, h => by cases h
  | _ :: _, [], h => by cases h
  | a :: l, b :: m, h => by
    have h1 := List.cons.inj h
    have := PyData.int.inj h1.1
    rw [natsD_inj h1.2]
    congr 1; omega
/-- something drawn from a written list -/
theorem pick {l : List V} {p : Addr} {n : Nat} {c s : Int} (hn : M[n]? = some (p, pool c s)) (hs : PoolOk s) (h0 : 0 < l.length) (h1 : l.length ≤ 1000)
    (q : ∀ y c' s' d, y ∈ l → PoolOk s' → Fr G M d → R y G ((d, .lst l) :: M.set n (p, pool c' s'))) :
    l.length ≤ sizeLine ∧ ∀ d, Fr G M d → S_law_take K [.ref p, .int (l.length : Int)] G ((d, .lst l) :: M) (fun y G M => kIx K (.ref d) y G M R) E0 := by
  refine ⟨sz (by omega), fun d fd => ⟨p, l.length, n + 1, c, s, rfl, rfl, hn, hs, by omega, ?_, fun r c' s' r0 r1 hs' => ?_⟩⟩
  · have : (l.length : Int) ≤ 1000 := by omega
    have : (1000 : Int) < 2 ^ 200 := by decide
    omega
  · obtain ⟨y, hy, hm⟩ := at_mem (l := l) r0 r1
    exact ⟨l, y, lst_n (n := 0) rfl, hy, q y c' s' d hm hs' fd⟩
end

section
variable {K : PySem.W.Frag} {vs : List V} {G : Hp} {M : Mem} {R : KR} {Z : KX}
theorem pf_law_whole (h : S_law_whole K vs G M R Z) : rd_law_whole K (ends R Z) (sta 1 vs) G M := by
  obtain ⟨x, rfl, T, hT, q⟩ := sp1_of h
  refine ⟨G, M, Wk.refl, .type T.name, .type "int", _, .ty "int", hT, kit_pt T .int, ite2' (fun e => ?_) (fun e => ?_)⟩
  · refine ⟨.type T.name, .type "bool", _, .ty "bool", hT, kit_pt T .bool, ret0 ?_⟩
    have e2 : (!isaB T .bool) = (T == .int) := by revert e; cases T <;> decide
    rw [e2]; exact q
  · have e2 : false = (T == .int) := by revert e; cases T <;> decide
    refine ret0 ?_
    rw [e2]; exact q
end

section
theorem eqvA_ints : ∀ xs ys : List Int, PyData.eqvAll (xs.map .int) (ys.map .int) = decide (xs = ys)
  | [], [] => by simp [PyData.eqvAll]
  | [], _ :: _ => by simp [PyData.eqvAll]
  | _ :: _, [] => by simp [PyData.eqvAll]
  | x :: xs, y :: ys => by
    show (PyData.eqv (.int x) (.int y) && PyData.eqvAll (xs.map .int) (ys.map .int)) = _
    rw [eqvA_ints xs ys]
    have : PyData.eqv (.int x) (.int y) = decide (x = y) := by
      show (x == y) = _
      by_cases e : x = y <;> simp [e]
    rw [this]
    by_cases e1 : x = y <;> by_cases e2 : xs = ys <;> simp [e1, e2]
theorem eqvL_ints (xs ys : List Int) : PyData.eqv (.list (xs.map .int)) (.list (ys.map .int)) = decide (xs = ys) := eqvA_ints xs ys
theorem natsD_ints (l : List Nat) : natsD l = (l.map fun (n : Nat) => (n : Int)).map PyData.int := by unfold natsD; rw [List.map_map]; rfl
theorem eqvL_nats (l m : List Nat) : PyData.eqv (.list (natsD l)) (.list (natsD m)) = decide (l = m) := by
  rw [natsD_ints, natsD_ints, eqvL_ints]
  by_cases e : l = m
  · subst e; simp
  · rw [decide_eq_false e, decide_eq_false]
    intro z
    exact e (natsD_inj (by rw [natsD_ints, natsD_ints, z]))
theorem eqvL_nil (ds : List PyData) : PyData.eqv (.list ds) (.list []) = ds.isEmpty := by
  cases ds <;> rfl
end

section
variable {K : PySem.W.Frag} {vs : List V} {G : Hp} {M : Mem} {R : KR} {Z : KX}
theorem p2 (n : Nat) (a : Int) : a * 2 ^ (n : Int).toNat = a * ((2 ^ n : Nat) : Int) := by simp
theorem high_uniq : ∀ m, m < 33 → ∀ h, h < 7 → (∀ j, j < h → 2 ^ j < m) → ¬ 2 ^ h < m → highN m = h := by decide +kernel
theorem pow_lt6 : ∀ m, m < 33 → ∀ h, h < 7 → 2 ^ h < m → h < 6 := by decide +kernel
theorem high_le : ∀ m, m < 33 → highN m ≤ 5 := by decide +kernel
theorem side_uniq : ∀ m, m < 33 → ∀ h, h < 8 → (1 ≤ h ∧ ∀ j, j < h → j * j < m) → ¬ h * h < m → 1 ≤ m → sideN m = h := by decide +kernel
theorem sq_lt7 : ∀ m, m < 33 → ∀ h, h < 8 → h * h < m → h < 6 := by decide +kernel
theorem side_ok : ∀ m, m < 33 → 1 ≤ m → 1 ≤ sideN m ∧ sideN m ≤ 6 := by decide +kernel
theorem stair_all : ((List.range 33).all fun m => (List.range 31).all fun p => (List.range 6).all fun h => !(decide (h ≤ lastN m) && (List.range h).all (fun j => decide (j < lastN m) && decide (p % (2 * 2 ^ j) = 0)) && !(decide (h < lastN m) && decide (p % (2 * 2 ^ h) = 0))) || decide (stairN m p = h)) = true := by decide +kernel
theorem stair_uniq (m : Nat) (hm : m < 33) (p : Nat) (hp : p < 31) (h : Nat) (hh : h < 6) (h1 : h ≤ lastN m) (h2 : ∀ j, j < h → j < lastN m ∧ p % (2 * 2 ^ j) = 0) (h3 : ¬ (h < lastN m ∧ p % (2 * 2 ^ h) = 0)) : stairN m p = h := by
  have a := List.all_eq_true.mp (List.all_eq_true.mp (List.all_eq_true.mp stair_all m (List.mem_range.mpr hm)) p (List.mem_range.mpr hp)) h (List.mem_range.mpr hh)
  have b : (List.range h).all (fun j => decide (j < lastN m) && decide (p % (2 * 2 ^ j) = 0)) = true := List.all_eq_true.mpr fun j hj => by
    obtain ⟨x, y⟩ := h2 j (List.mem_range.mp hj)
    rw [decide_eq_true x, decide_eq_true y]; rfl
  have c : (decide (h < lastN m) && decide (p % (2 * 2 ^ h) = 0)) = false := by
    rw [← Bool.decide_and]; exact decide_eq_false h3
  rw [decide_eq_true h1, b, c] at a
  exact of_decide_eq_true a
theorem last_le : ∀ m, m < 33 → lastN m ≤ 4 := by decide +kernel
theorem sq0 {m j : Nat} (h : 1 ≤ m) (z : j < 1) : j * j < m := by
  have e : j = 0 := by omega
  rw [e]; omega
theorem pf_high_of (h : S_high_of K vs G M R Z) : rd_high_of K (ends R Z) (sta 2 vs) G M := by
  obtain ⟨_, rfl, m, ⟨rfl, m0, m1⟩, q⟩ := sp1_of h
  refine ⟨G, M, Wk.refl, G, M, Wk.refl, fun k σ G' M' => ∃ h : Nat, k = 7 - h ∧ h ≤ 6 ∧ σ = [some (.int m), some (.int (h : Nat))] ∧ G' = G ∧ M' = M ∧ ∀ j, j < h → 2 ^ j < m, ⟨7, 0, rfl, by decide, rfl, rfl, rfl, fun _ z => absurd z (Nat.not_lt_zero _)⟩, ?_⟩
  clear h
  rintro k σ G' M' ⟨h, rfl, h6, rfl, rfl, rfl, hj⟩
  refine ⟨⟨by omega, by omega, by decide⟩, ?_⟩
  refine ite2' (c := decide ((1 : Int) * 2 ^ (h : Int).toNat < (m : Int))) (fun e => ?_) (fun e => ?_)
  · have e := of_decide_eq_true e
    rw [p2, Int.one_mul] at e
    have e : 2 ^ h < m := by omega
    have := pow_lt6 m (by omega) h (by omega) e
    refine ⟨_, _, Wk.refl, 7 - (h + 1), by omega, _, _, Wk.refl, h + 1, rfl, by omega, rfl, rfl, rfl, fun j hj2 => ?_⟩
    by_cases z : j = h
    · rw [z]; exact e
    · exact hj j (by omega)
  · have e := of_decide_eq_false e
    rw [p2, Int.one_mul] at e
    have e : ¬ 2 ^ h < m := by omega
    refine ⟨_, _, Wk.refl, ret0 ?_⟩
    rw [high_uniq m (by omega) h (by omega) hj e] at q
    exact q
theorem pf_look_at_many (h : S_look_at_many K vs G M R Z) : rd_look_at_many K (ends R Z) (sta 1 vs) G M := by
  obtain ⟨x, rfl, T, hT, hi, q, z⟩ := sp1_of h
  refine ⟨G, M, Wk.refl, T, 1, 32, rfl, rfl, hT, hi, ?_⟩
  refine ite2' (c := !withinV x 1 32) (fun e => ?_) (fun e => ?_)
  · exact ⟨G, M, Wk.refl, G, M, Wk.refl, z (by simpa using e)⟩
  · exact ret0 (q (by simpa using e))
end

section
variable {K : PySem.W.Frag} {vs : List V} {G : Hp} {M : Mem} {R : KR} {Z : KX}
theorem in_ways (s : Str) : inV (.str s) con_WAYS = waysL.contains s := by
  unfold inV con_WAYS waysL
  simp only [List.any_cons, List.any_nil, Bool.or_false, List.contains_cons, List.contains_nil, eqV]
  have c : ∀ a : Str, (a == s) = (s == a) := fun a => by rw [BEq.comm]
  simp [c]
theorem pf_look_at_way (h : S_look_at_way K vs G M R Z) : rd_look_at_way K (ends R Z) (sta 1 vs) G M := by
  obtain ⟨x, rfl, T, hT, hs, q, z⟩ := sp1_of h
  refine ⟨G, M, Wk.refl, .type T.name, .type "str", _, .ty "str", hT, kit_pt T .str, ite2' (c := !isaB T .str) (fun e => ?_) (fun e => ?_)⟩
  · refine ⟨G, M, Wk.refl, G, M, Wk.refl, z ?_⟩
    have e2 : (T == .str) = false := by revert e; cases T <;> decide
    rw [e2] at hs
    cases x <;> first | rfl | cases hs
  · have e2 : (T == .str) = true := by revert e; cases T <;> decide
    rw [e2] at hs
    cases x with
    | str s =>
      intro hW
      refine ⟨con_WAYS, .inr (hW G), rfl, rfl, ite2' (c := !inV (.str s) con_WAYS) (fun e => ?_) (fun e => ?_)⟩
      · rw [in_ways] at e
        exact ⟨G, M, Wk.refl, G, M, Wk.refl, z (by show waysL.contains s = false; simpa using e)⟩
      · rw [in_ways] at e
        exact ret0 (q (by show waysL.contains s = true; simpa using e))
    | _ => cases hs
theorem rep_snoc {α : Type} (n : Nat) (a : α) : List.replicate (n + 1) a = List.replicate n a ++ [a] := List.replicate_succ'
theorem map_rep {α β : Type} (f : α → β) (n : Nat) (a : α) : (List.replicate n a).map f = List.replicate n (f a) := List.map_replicate
theorem stairN_le : ((List.range 33).all fun m => (List.range 31).all fun p => decide (stairN m p ≤ 5)) = true := by decide +kernel
theorem stair_le {m p : Nat} (hm : m < 33) (hp : p < 31) : stairN m p ≤ 5 := of_decide_eq_true (List.all_eq_true.mp (List.all_eq_true.mp stairN_le m (List.mem_range.mpr hm)) p (List.mem_range.mpr hp))
theorem range_map_snoc {α : Type} (f : Nat → α) (i : Nat) : (List.range (i + 1)).map f = (List.range i).map f ++ [f i] := by rw [List.range_succ, List.map_append]; rfl
theorem trees_each : ((List.range 33).all fun m => decide (m = 0) || ((treesN m).all fun t => decide (1 ≤ t) && decide (t ≤ 32)) && decide ((treesN m).length ≤ 3)) = true := by decide +kernel
theorem trees_ok {m : Nat} (h0 : 1 ≤ m) (h1 : m ≤ 32) : (∀ t, t ∈ treesN m → 1 ≤ t ∧ t ≤ 32) ∧ (treesN m).length ≤ 3 := by
  have a := List.all_eq_true.mp trees_each m (List.mem_range.mpr (by omega))
  rw [decide_eq_false (show ¬ m = 0 by omega), Bool.false_or, Bool.and_eq_true] at a
  refine ⟨fun t ht => ?_, of_decide_eq_true a.2⟩
  have b := List.all_eq_true.mp a.1 t ht
  rw [Bool.and_eq_true] at b
  exact ⟨of_decide_eq_true b.1, of_decide_eq_true b.2⟩
theorem atI_last {l : List Nat} {v : Nat} : atI (natsV (l ++ [v])) (-1) = some (.int (v : Int)) := by
  have e : natsV (l ++ [v]) = natsV l ++ [V.int (v : Int)] := by unfold natsV; rw [List.map_append]; rfl
  rw [e]
  unfold atI ixN
  rw [List.length_append, if_neg (by decide), if_pos (by simp; omega)]
  have e2 : ((-1 : Int) + ((natsV l).length + [V.int (v : Int)].length : Nat)).toNat = (natsV l).length := by simp; omega
  rw [e2]
  simp
theorem trN_more : ∀ (f m : Nat), (trN f m).length ≤ f + 1
  | 0, m => by simp [trN]
  | f + 1, m => by
    unfold trN; split
    · have := trN_more f ((m + 3) / 4)
      rw [List.length_cons]; omega
    · simp
theorem pf_trees_of (h : S_trees_of K vs G M R Z) : rd_trees_of K (ends R Z) (sta 2 vs) G M := by
  obtain ⟨_, rfl, m, ⟨rfl, m0, m1⟩, q⟩ := sp1_of h
  refine ⟨G, M, Wk.refl, sz1, fun t ft => ?_⟩
  refine ⟨G, _, Wk.refl, fun k σ G' M' => ∃ (l : List Nat) (v : Nat), σ = [some (.int m), some (.ref t)] ∧ G' = G ∧ M' = (t, .lst (natsV (l ++ [v]))) :: M ∧ treesN m = l ++ trN k v ∧ v ≤ 4 * 4 ^ k ∧ l.length + k ≤ 3, ⟨3, [], m, rfl, rfl, rfl, rfl, by omega, by simp⟩, ?_⟩
  rintro k σ G' M' ⟨l, v, rfl, rfl, rfl, e, hv, hlk⟩
  refine ⟨natsV (l ++ [v]), _, seq_0, atI_last, ?_⟩
  refine ite2' (c := decide ((4 : Int) < (v : Int))) (fun e1 => ?_) (fun e1 => ?_)
  · have e1 := of_decide_eq_true e1
    cases k with
    | zero => exfalso; rw [Nat.pow_zero] at hv; omega
    | succ k =>
      have et : trN (k + 1) v = v :: trN k ((v + 3) / 4) := by rw [trN, if_pos (by omega)]
      refine ⟨_, _, Wk.refl, tyl_n (n := 0) rfl, natsV (l ++ [v]), _, seq_0, atI_last, divW (by decide) (by decide) _, 0, _, rfl, sz (by rw [natsV_len]; simp; omega), k, by omega, _, _, Wk.refl, l ++ [v], (v + 3) / 4, rfl, rfl, ?_, ?_, ?_, by simp; omega⟩
      · have ev : ((v : Int) + 4 - 1) / 4 = (((v + 3) / 4 : Nat) : Int) := by omega
        show (t, HO.lst (natsV (l ++ [v]) ++ [.int (((v : Int) + 4 - 1) / 4)])) :: M = _
        rw [ev]; unfold natsV; simp only [List.map_append]; rfl
      · rw [e, et, List.append_assoc]; rfl
      · rw [Nat.pow_succ] at hv; omega
  · have e1 := of_decide_eq_false e1
    refine ⟨_, _, Wk.refl, ret0 ?_⟩
    have et : trN k v = [v] := by
      cases k with
      | zero => rfl
      | succ k => rw [trN, if_neg (by omega)]
    rw [← et, ← e]
    exact q t ft
theorem nat_of_within {x : V} {lo hi : Nat} (h : withinV x lo hi = true) : ∃ m, natOk x m lo hi := by
  cases x with
  | int i =>
    have h : (decide ((lo : Int) ≤ i) && decide (i ≤ (hi : Int))) = true := h
    rw [Bool.and_eq_true] at h
    have h1 := of_decide_eq_true h.1
    have h2 := of_decide_eq_true h.2
    obtain ⟨m, rfl⟩ := Int.eq_ofNat_of_zero_le (show 0 ≤ i by omega)
    exact ⟨m, rfl, by omega, by omega⟩
  | _ => cases h
end

section
variable {K : PySem.W.Frag} {vs : List V} {G : Hp} {M : Mem} {R : KR} {Z : KX}
theorem head_eq {x : V} {s : Str} (hs : PyData.strOk s = true) (h : HeadOk K G M x) (q : R (.bl (decide (x = .str s))) G M) : kEqD K x (.str s) G M R := by
  cases x with
  | ref a =>
    rcases h with ⟨d, h1, h2, h3⟩ | ⟨kvs, h⟩
    · refine .inl ⟨d, .str s, h1, dat_str, h2, (Shp.str (n := 0) hs).shaped (by decide), ?_⟩
      show R (.bl (PyData.eqv d (.str s))) G M
      rw [h3 s]
      rw [decide_eq_false (fun z => by cases z)] at q
      exact q
    · rw [decide_eq_false (fun z => by cases z)] at q
      exact .inr ⟨a, s, kvs, rfl, rfl, .inr h, q⟩
  | non => exact .inl q
  | int i => exact .inl q
  | bl i => exact .inl q
  | str i => exact .inl q
  | _ => exact h.elim
theorem strOk_read : PyData.strOk ("read" : Str) = true := by decide +kernel
theorem strOk_write : PyData.strOk ("write" : Str) = true := by decide +kernel
theorem pf_is_ask (h : S_is_ask K vs G M R Z) : rd_is_ask K (ends R Z) (sta 2 vs) G M := by
  obtain ⟨_, y, rfl, m, b, rfl, hy, q⟩ := sp2_of h
  clear h
  rcases hy with ⟨T, hT, hne, rfl⟩ | ⟨t, xs, rfl, ht, hl, hi, h0, rfl⟩
  · refine ⟨G, M, Wk.refl, .type T.name, .type "tuple", _, .ty "tuple", hT, kit_pt T .tuple, ite2' (c := !isaB T .tuple) (fun _ => ⟨G, M, Wk.refl, ret0 q⟩) (fun e => ?_)⟩
    exfalso; revert e hne; cases T <;> decide
  have hS : SeqAt' K G M t xs := .inr ht
  refine ⟨G, M, Wk.refl, .type PT.tuple.name, .type "tuple", _, .ty "tuple", ty_tup ht, kit_pt .tuple .tuple, ?_⟩
  refine ⟨xs, hS, ite2' (c := decide ((xs.length : Int) < 2)) (fun e => ?_) (fun e => ?_)⟩
  · have e := of_decide_eq_true e
    have e2 : askB m xs = false := by
      match xs, e with
      | [], _ => rfl
      | [_], _ => rfl
      | _ :: _ :: r, e => simp at e; omega
    rw [e2] at q
    exact ⟨G, M, Wk.refl, ret0 q⟩
  have e := of_decide_eq_false e
  obtain ⟨x0, x1, r, hx⟩ : ∃ x0 x1 r, xs = x0 :: x1 :: r := by
    match xs, e with
    | x0 :: x1 :: r, _ => exact ⟨x0, x1, r, rfl⟩
    | [], e => simp at e
    | [_], e => simp at e
  have hh := h0 x0 (by rw [hx]; rfl)
  obtain ⟨T1, hT1, ht1⟩ := hi x1 (by rw [hx]; exact List.mem_cons_of_mem _ List.mem_cons_self)
  refine ⟨xs, x1, hS, atI_nat (j := 1) (by rw [hx]; rfl), T1, 0, m - 1, rfl, rfl, hT1, ht1, ite2' (c := !withinV x1 0 (m - 1)) (fun f => ?_) (fun f => ?_)⟩
  · have f : withinV x1 0 (m - 1) = false := by simpa using f
    have e2 : askB m xs = false := by rw [hx]; show (withinV x1 0 (m - 1) && _) = false; rw [f, Bool.false_and]
    rw [e2] at q
    exact ⟨G, M, Wk.refl, ret0 q⟩
  have f : withinV x1 0 (m - 1) = true := by simpa using f
  refine ⟨G, M, Wk.refl, xs, hS, ite2' (c := decide (V.int (xs.length : Int) = .int 2)) (fun g => ?_) (fun g => ?_)⟩
  · have g := V.int.inj (of_decide_eq_true g)
    have hr : r = [] := List.length_eq_zero_iff.mp (by rw [hx] at g; simp at g; omega)
    have e2 : askB m xs = decide (x0 = .str "read") := by rw [hx, hr]; show (withinV x1 0 (m - 1) && _) = _; rw [f, Bool.true_and]
    rw [e2] at q
    exact ⟨G, M, Wk.refl, xs, x0, hS, atI_nat (j := 0) (by rw [hx]; rfl), head_eq strOk_read hh (ret0 q)⟩
  have g := of_decide_eq_false g
  have hr : r ≠ [] := fun z => g (by rw [hx, z]; rfl)
  refine ⟨G, M, Wk.refl, xs, hS, ite2' (c := decide (V.int (xs.length : Int) = .int 3)) (fun g3 => ?_) (fun g3 => ?_)⟩
  · have g3 := V.int.inj (of_decide_eq_true g3)
    obtain ⟨x2, hr2⟩ : ∃ x2, r = [x2] := by
      rw [hx] at g3
      match r, hr, g3 with
      | [x2], _, _ => exact ⟨x2, rfl⟩
      | [], h, _ => exact absurd rfl h
      | _ :: _ :: _, _, g => simp at g; omega
    have e2 : askB m xs = (decide (x0 = .str "write") && withinV x2 0 999999999999999999) := by rw [hx, hr2]; show (withinV x1 0 (m - 1) && _) = _; rw [f, Bool.true_and]
    rw [e2] at q
    refine ⟨xs, x0, hS, atI_nat (j := 0) (by rw [hx]; rfl), head_eq strOk_write hh ?_⟩
    refine ite2' (c := decide (x0 = .str "write")) (fun c => ?_) (fun c => ?_)
    · rw [c, Bool.true_and] at q
      obtain ⟨T2, hT2, ht2⟩ := hi x2 (by rw [hx, hr2]; simp)
      exact ⟨xs, x2, hS, atI_nat (j := 2) (by rw [hx, hr2]; rfl), T2, 0, 999999999999999999, rfl, rfl, hT2, ht2, ret0 q⟩
    · rw [c, Bool.false_and] at q
      exact ret0 q
  · have g3 := of_decide_eq_false g3
    have e2 : askB m xs = false := by
      rw [hx]
      show (withinV x1 0 (m - 1) && _) = false
      match r, hr with
      | [_], _ => exact absurd (by rw [hx]; rfl) g3
      | _ :: _ :: _, _ => exact Bool.and_false _
    rw [e2] at q
    exact ret0 q
theorem deed_len (d : Deed) : d.vs.length = 2 ∨ d.vs.length = 3 := by cases d; exact .inl rfl; exact .inr rfl
theorem deed_ask {m : Nat} {d : Deed} (h : DeedOk m d) : askB (m : Int) d.vs = true := by
  cases d with
  | read c =>
    have h1 : c < m := h.1
    show (withinV (.int (c : Int)) 0 ((m : Int) - 1) && _) = true
    rw [wi_in (by omega) (by omega)]; rfl
  | write c w =>
    have h1 : c < m := h.1
    have h2 : w ≤ 999999999999999999 := h.2
    show (withinV (.int (c : Int)) 0 ((m : Int) - 1) && (_ && withinV (.int (w : Int)) 0 999999999999999999)) = true
    rw [wi_in (by omega) (by omega), wi_in (by omega) (by omega)]; rfl
theorem deed_askV {m : Nat} {d : Deed} {y : V} (hd : DeedAt K G y d) (h : DeedOk m d) : AskV K G M m y true := by
  obtain ⟨t, rfl, ht⟩ := hd
  refine .inr ⟨t, d.vs, rfl, ht, by rcases deed_len d with e | e <;> omega, fun x hx => ?_, fun x hx => ?_, (deed_ask h).symm⟩
  · cases d with
    | read c =>
      simp only [Deed.vs, List.mem_cons, List.not_mem_nil, or_false] at hx
      rcases hx with rfl | rfl
      · exact ⟨.str, ty_str, rfl⟩
      · exact ⟨.int, ty_int, rfl⟩
    | write c w =>
      simp only [Deed.vs, List.mem_cons, List.not_mem_nil, or_false] at hx
      rcases hx with rfl | rfl | rfl
      · exact ⟨.str, ty_str, rfl⟩
      · exact ⟨.int, ty_int, rfl⟩
      · exact ⟨.int, ty_int, rfl⟩
  · cases d <;> (cases hx; exact trivial)
theorem DeedAt.ex {G' : Hp} {v : V} {d : Deed} (e : Ex G G') (h : DeedAt K G v d) : DeedAt K G' v d := by
  obtain ⟨t, rfl, h⟩ := h
  exact ⟨t, rfl, ex_t e h⟩
/-- the parts of a deed -/
theorem deed_1 {t : Addr} {d : Deed} (h : SqT K G t d.vs) : SeqAt' K G M t d.vs ∧ atI d.vs 1 = some (.int (d.cell : Int)) := ⟨.inr h, by cases d <;> rfl⟩
theorem upd_len {ws : List Nat} {d : Deed} : (d.upd ws).length = ws.length := by cases d <;> simp [Deed.upd]
end

section
variable {K : PySem.W.Frag} {vs : List V} {G : Hp} {M : Mem} {R : KR} {Z : KX}
theorem askB_1 {m : Int} {x0 x1 : V} {r : List V} (h : withinV x1 0 (m - 1) = false) : askB m (x0 :: x1 :: r) = false := by
  unfold askB
  simp only [h, Bool.false_and]
theorem askB_3 {m : Int} {x0 x1 x2 : V} (h : withinV x2 0 999999999999999999 = false) : askB m [x0, x1, x2] = false := by
  unfold askB
  simp only [h, Bool.and_false]
theorem NoAskG.ex {G' : Hp} {m : Int} {v : V} (e : Ex G G') (h : NoAskG K G m v) : NoAskG K G' m v := fun G2 M2 e2 => h G2 M2 (e.trans e2)
theorem flat_ty {x : V} (h : flatV x = true) : ∃ T : PT, (∀ G M, TyK K G M x T) ∧ (T == .int) = isIntV x := by
  cases x with
  | non => exact ⟨.non, fun _ _ => ty_non, rfl⟩
  | bl b => exact ⟨.bool, fun _ _ => ty_bl, rfl⟩
  | int i => exact ⟨.int, fun _ _ => ty_int, rfl⟩
  | str s => exact ⟨.str, fun _ _ => ty_str, rfl⟩
  | _ => cases h
theorem flat_head {x : V} (h : flatV x = true) : HeadOk K G M x := by
  cases x <;> first | exact trivial | cases h
theorem noask_tup {T : Addr} {xs : List V} {m : Int} (h : SqT K G T xs) (hf : xs.all flatV = true) (hl : xs.length ≤ 1000) (hb : askB m xs = false) : NoAskG K G m (.ref T) := fun G2 M2 e => .inr ⟨T, xs, rfl, ex_t e h, hl, fun x hx => by
  obtain ⟨T, h1, h2⟩ := flat_ty (K := K) (List.all_eq_true.mp hf x hx)
  exact ⟨T, h1 _ _, h2⟩, fun x hx => flat_head (List.all_eq_true.mp hf x (List.mem_of_getElem? hx)), hb.symm⟩
theorem noask_ty {v : V} {m : Int} {T : PT} (h : ∀ M, TyK K G M v T) (hT : T ≠ .tuple) : NoAskG K G m v := fun G2 M2 e => .inl ⟨T, ty_ex e h M2, hT, rfl⟩
/-- written things that are asks, or none -/
def withinX (x : XD) (lo hi : Int) : Bool := match x with
  | .int i => withinV (.int i) lo hi
  | _ => false
def strX (x : XD) (s : Str) : Bool := match x with
  | .str t => decide (t = s)
  | _ => false
def askX (m : Int) : XD → Bool
  | .tup (x0 :: x1 :: r) => withinX x1 0 (m - 1) && (match r with
    | [] => strX x0 "read"
    | [x2] => strX x0 "write" && withinX x2 0 999999999999999999
    | _ => false)
  | _ => false
def headX : XD → Bool
  | .tup (x0 :: _) => match x0 with
    | .list l => match XD.toDs l with
      | some es => SeqAt.shaped (.list es)
      | none => false
    | .tup l => match XD.toDs l with
      | some es => SeqAt.shaped (.tuple es)
      | none => false
    | _ => true
  | _ => true
theorem wix_hi {i lo hi : Int} (h : hi < i) : withinX (.int i) lo hi = false := wi_hi h
theorem rp_within {v : V} {d : XD} {lo hi : Int} (h : Rp K G [] v d) : withinV v lo hi = withinX d lo hi := by
  cases h <;> rfl
theorem rp_str {v : V} {d : XD} {s : Str} (h : Rp K G [] v d) : decide (v = .str s) = strX d s := by
  cases h with
  | str t =>
    show decide (V.str t = .str s) = decide (t = s)
    exact decide_eq_decide.mpr ⟨V.str.inj, fun e => by rw [e]⟩
  | _ => exact decide_eq_false (fun z => nomatch z)
theorem rp_ask {vs : List V} {ds : List XD} {m : Int} (h : RpA K G [] vs ds) : askB m vs = askX m (.tup ds) := by
  cases h with
  | nil => rfl
  | cons a b =>
    cases b with
    | nil => rfl
    | cons a1 b =>
      cases b with
      | nil =>
        show (withinV _ 0 (m - 1) && decide (_ = V.str "read")) = (withinX _ 0 (m - 1) && strX _ "read")
        rw [rp_within a1, rp_str a]
      | cons a2 b =>
        cases b with
        | nil =>
          show (withinV _ 0 (m - 1) && (decide (_ = V.str "write") && withinV _ 0 999999999999999999)) = (withinX _ 0 (m - 1) && (strX _ "write" && withinX _ 0 999999999999999999))
          rw [rp_within a1, rp_str a, rp_within a2]
        | cons _ _ =>
          show (withinV _ 0 (m - 1) && false) = (withinX _ 0 (m - 1) && false)
          rw [Bool.and_false, Bool.and_false]
theorem rpa_mem {vs : List V} {ds : List XD} (h : RpA K G [] vs ds) : ∀ x, x ∈ vs → ∃ d, Rp K G [] x d := by
  intro x hx
  obtain ⟨i, hi⟩ := List.getElem?_of_mem hx
  obtain ⟨v, d, h1, h2, h3⟩ := h.get (i := i) (List.getElem?_eq_some_iff.mp hi).1
  rw [hi] at h1; cases h1
  exact ⟨d, h3⟩
theorem rp_int_ty {v : V} {d : XD} (h : Rp K G [] v d) : (d.ty == .int) = isIntV v := by cases h <;> rfl
theorem rp_noask {v : V} {d : XD} {m : Int} (h : Rp K G [] v d) (ha : askX m d = false) (hh : headX d = true) (hlen : ∀ l, d = .tup l → l.length ≤ 1000) : NoAskG K G m v := fun G2 M2 e => by
  have h := h.ex e
  have ht := rp_ty h M2
  cases h with
  | @tup a vs ds hs hr =>
    have hl : vs.length ≤ 1000 := by rw [hr.len]; exact hlen _ rfl
    · refine .inr ⟨a, vs, rfl, hs, hl, fun x hx => ?_, fun x hx => ?_, by rw [rp_ask hr, ha]⟩
      · obtain ⟨d, hd⟩ := rpa_mem hr x hx
        exact ⟨d.ty, rp_ty hd _, rp_int_ty hd⟩
      · cases hr with
        | nil => cases hx
        | cons h0 h1 =>
          cases hx
          cases h0 with
          | non => exact trivial
          | bl _ => exact trivial
          | int _ => exact trivial
          | str _ => exact trivial
          | @list b ws l hb hw =>
            have hh : (match XD.toDs l with | some es => SeqAt.shaped (.list es) | none => false) = true := hh
            split at hh
            · rename_i es he
              refine .inl ⟨.list es, dat_g (rp_dp (.list hb hw) (by show (XD.toDs l).map PyData.list = _; rw [he]; rfl)), hh, fun s => rfl⟩
            · cases hh
          | @tup b ws l hb hw =>
            have hh : (match XD.toDs l with | some es => SeqAt.shaped (.tuple es) | none => false) = true := hh
            split at hh
            · rename_i es he
              refine .inl ⟨.tuple es, dat_g (rp_dp (.tup hb hw) (by show (XD.toDs l).map PyData.tuple = _; rw [he]; rfl)), hh, fun s => rfl⟩
            · cases hh
          | dict hb =>
            rcases hb with z | z
            · cases z
            · exact .inr ⟨_, z⟩
  | non => exact .inl ⟨_, ht, (fun z => nomatch z), rfl⟩
  | bl _ => exact .inl ⟨_, ht, (fun z => nomatch z), rfl⟩
  | int _ => exact .inl ⟨_, ht, (fun z => nomatch z), rfl⟩
  | str _ => exact .inl ⟨_, ht, (fun z => nomatch z), rfl⟩
  | list _ _ => exact .inl ⟨_, ht, (fun z => nomatch z), rfl⟩
  | dict _ => exact .inl ⟨_, ht, (fun z => nomatch z), rfl⟩
end

section
variable {K : PySem.W.Frag} {vs : List V} {G : Hp} {M : Mem} {R : KR} {Z : KX}
theorem eq_ref {a b : Addr} {d : PyData} {n : Nat} {neg : Bool} (ha : DatAt K G M (.ref a) d) (hb : DatAt K G M (.ref b) d) (sh : Shp n d) (hn : n ≤ 64) (q : R (.bl (!neg)) G M) : kEqv neg K (.ref a) (.ref b) G M R := by
  refine ⟨d, d, ha, hb, sh.shaped hn, sh.shaped hn, ?_⟩
  rw [sh.refl]
  cases neg <;> exact q
theorem eq_bools {a b : Addr} {l : List Bool} {neg : Bool} (ha : LstAt K G M a (l.map V.bl)) (hb : LstAt K G M b (l.map V.bl)) (q : R (.bl (!neg)) G M) : kEqv neg K (.ref a) (.ref b) G M R :=
  eq_ref (d := boolsD l) (dat_list ha (dats_g (dp_bools l))) (dat_list hb (dats_g (dp_bools l))) (shp_bools l) (by decide) q
theorem eq_nats {a b : Addr} {l : List Nat} {neg : Bool} (ha : LstAt K G M a (natsV l)) (hb : LstAt K G M b (natsV l)) (q : R (.bl (!neg)) G M) : kEqv neg K (.ref a) (.ref b) G M R :=
  eq_ref (dat_nats ha) (dat_nats hb) (shp_nats (n := 0) l) (by decide) q
theorem neq_self {x : V} (h : (!decide (x = x)) = true) : False := by rw [decide_eq_true rfl] at h; cases h
end

section
variable {K : PySem.W.Frag} {vs : List V} {G : Hp} {M : Mem} {R : KR} {Z : KX}
theorem Wk.of_eq {N : Mem} (e : M = N) : Wk G M G N := e ▸ Wk.refl
theorem get_app {B N : Mem} {n : Nat} {x : Addr × HO} (h : N[n]? = some x) : (B ++ N)[B.length + n]? = some x := by
  rw [List.getElem?_append_right (by omega), Nat.add_sub_cancel_left]; exact h
theorem set_app {B N : Mem} {n : Nat} {x : Addr × HO} : (B ++ N).set (B.length + n) x = B ++ N.set n x := by
  rw [List.set_append_right _ _ (by omega), Nat.add_sub_cancel_left]
theorem set_keys : ∀ {N : Mem} {n : Nat} {p : Addr} {o o' : HO}, N[n]? = some (p, o) → (N.set n (p, o')).map (·.1) = N.map (·.1)
  | [], _, _, _, _, h => by simp at h
  | _ :: _, 0, _, _, _, h => by cases h; rfl
  | x :: N, n + 1, p, o, o', h => by
    show x.1 :: (N.set n (p, o')).map (·.1) = x.1 :: N.map (·.1)
    rw [set_keys (by simpa using h)]
theorem natsV_app2 (a b : List Nat) : natsV (a ++ b) = natsV a ++ natsV b := by unfold natsV; rw [List.map_append]
theorem in_nats {c : Nat} {l : List Nat} : inV (.int (c : Int)) (natsV l) = decide (c ∈ l) := by
  induction l with
  | nil => rfl
  | cons x l ih =>
    show (((x : Int) == (c : Int)) || inV (.int (c : Int)) (natsV l)) = _
    rw [ih]
    by_cases e : x = c
    · subst e; simp
    · have : ¬ ((x : Int) = (c : Int)) := by omega
      have e2 : ¬ (c = x) := fun z => e z.symm
      simp [this, e2]
theorem flat_nats (l : List Nat) : (natsV l).all flatV = true := List.all_eq_true.mpr fun v hv => by
  obtain ⟨n, _, rfl⟩ := List.mem_map.mp hv; rfl
theorem ints_nats : ∀ {ys : List Int}, (∀ y, y ∈ ys → 0 ≤ y) → ∃ l : List Nat, ys = l.map fun (i : Nat) => (i : Int)
  | [], _ => ⟨[], rfl⟩
  | y :: ys, h => by
    obtain ⟨l, rfl⟩ := ints_nats fun z hz => h z (List.mem_cons_of_mem _ hz)
    obtain ⟨n, rfl⟩ := Int.eq_ofNat_of_zero_le (h y List.mem_cons_self)
    exact ⟨n :: l, rfl⟩
theorem natsV_ints (l : List Nat) : (l.map fun (i : Nat) => (i : Int)).map V.int = natsV l := by unfold natsV; rw [List.map_map]; rfl
theorem perm_nats {l m : List Nat} (h : (l.map fun (i : Nat) => (i : Int)).Perm (m.map fun (i : Nat) => (i : Int))) : l.Perm m := by
  have := h.map Int.toNat
  rw [List.map_map, List.map_map, List.map_congr_left (g := id) (fun _ _ => by simp), List.map_congr_left (l := m) (g := id) (fun _ _ => by simp), List.map_id, List.map_id] at this
  exact this
theorem nat_sorted_eq {a b : List Nat} (h : a.Perm b) (ha : a.Pairwise (· ≤ ·)) (hb : b.Pairwise (· ≤ ·)) : a = b := List.Perm.eq_of_pairwise (fun x y _ _ h1 h2 => by omega) ha hb h
end

theorem snoc_ind {α : Type} {P : List α → Prop} (h0 : P []) (h1 : ∀ l x, P l → P (l ++ [x])) : ∀ l, P l := fun l => by
  have : ∀ l : List α, P l.reverse := fun l => by
    induction l with
    | nil => exact h0
    | cons x l ih => rw [List.reverse_cons]; exact h1 _ _ ih
  have := this l.reverse
  rw [List.reverse_reverse] at this
  exact this

section
variable {K : PySem.W.Frag} {vs : List V} {G : Hp} {M : Mem} {R : KR} {Z : KX}
theorem pf_law_many (h : S_law_many K vs G M R Z) : rd_law_many K (ends R Z) (sta 1 vs) G M := by
  obtain ⟨_, rfl, p, n, c, s, rfl, hn, hs, q⟩ := sp1_of h
  refine ⟨G, M, Wk.refl, pick (l := [V.int 4, .int 9, .int 32]) hn hs (by decide) (by decide) fun y c1 s1 d hy hs1 fd => ?_⟩
  obtain ⟨z, rfl, z0, z1⟩ : ∃ z : Int, y = .int z ∧ 1 ≤ z ∧ z ≤ 32 := by
    simp only [List.mem_cons, List.not_mem_nil, or_false] at hy
    rcases hy with rfl | rfl | rfl <;> exact ⟨_, rfl, by decide, by decide⟩
  refine ⟨p, z, n + 1, c1, s1, rfl, rfl, set_n hn, hs1, by omega, by omega, fun r c2 s2 r0 r1 hs2 => ?_⟩
  refine retW (G' := G) (M' := M.set n (p, pool c2 s2)) (by simp only [List.set_cons_succ, List.set_set]; exact Wk.drop0) ?_
  obtain ⟨k, hk⟩ := Int.eq_ofNat_of_zero_le (show 0 ≤ 1 + r by omega)
  rw [hk]
  exact q k c2 s2 (by omega) (by omega) hs2
theorem pf_law_word (h : S_law_word K vs G M R Z) : rd_law_word K (ends R Z) (sta 1 vs) G M := by
  obtain ⟨_, rfl, p, n, c, s, rfl, hn, hs, q⟩ := sp1_of h
  have p9 : CPow 10 9 := ⟨by decide, by decide, by decide⟩
  have e9 : (10 : Int) ^ (9 : Int).toNat = 1000000000 := by decide
  have e18 : (10 : Int) ^ (18 : Int).toNat - 1 = 999999999999999999 := by decide
  refine ⟨G, M, Wk.refl, pow10_18, p9, p, _, n, c, s, rfl, rfl, hn, hs, by decide, by decide, fun r c1 s1 r0 r1 hs1 => ⟨p9, mul_r (by decide) (by decide), p9, p, _, n, c1, s1, rfl, rfl, set_n hn, hs1, by decide, by decide, fun r2 c2 s2 r20 r21 hs2 => ⟨sz4, fun d fd => ⟨p, 8, n + 1, c2, s2, rfl, rfl, ?_, hs2, by decide, by decide, fun r3 c3 s3 r30 r31 hs3 => ⟨(by show (0 : Int) < _; decide), ?_⟩⟩⟩⟩⟩
  · show ((M.set n _).set n _)[n]? = _
    exact set_n (set_n hn)
  obtain ⟨y, hy, hym⟩ := at_mem (l := [V.int 0, .int 1, .int (10 ^ (18 : Int).toNat - 1), .int (r * 10 ^ (9 : Int).toNat + r2)]) (r := r3 % 4) (Int.emod_nonneg _ (by decide)) (by have := Int.emod_lt_of_pos r3 (show (0 : Int) < 4 by decide); exact this)
  refine ⟨_, y, lst_n (n := 0) rfl, hy, ?_⟩
  refine retW (G' := G) (M' := M.set n (p, pool c3 s3)) (by simp only [List.set_cons_succ, List.set_set]; exact Wk.drop0) ?_
  rw [e9] at hym r1 r21
  rw [e18] at hym
  obtain ⟨w, rfl, hw⟩ : ∃ w : Nat, y = .int w ∧ w ≤ 999999999999999999 := by
    simp only [List.mem_cons, List.not_mem_nil, or_false] at hym
    rcases hym with rfl | rfl | rfl | rfl
    · exact ⟨0, rfl, by decide⟩
    · exact ⟨1, rfl, by decide⟩
    · exact ⟨999999999999999999, rfl, by decide⟩
    · obtain ⟨w, hw⟩ := Int.eq_ofNat_of_zero_le (show 0 ≤ r * 1000000000 + r2 by omega)
      exact ⟨w, by rw [hw], by omega⟩
  exact q w c3 s3 hw hs3
theorem pf_law_ask (h : S_law_ask K vs G M R Z) : rd_law_ask K (ends R Z) (sta 3 vs) G M := by
  obtain ⟨_, _, rfl, p, n, c, s, m, rfl, rfl, hn, hs, m0, m1, q⟩ := sp2_of h
  refine ⟨G, M, Wk.refl, sz2, fun d fd => ⟨p, 4, n + 1, c, s, rfl, rfl, hn, hs, by decide, by decide, fun r c1 s1 r0 r1 hs1 => ⟨divW (by decide) (by decide) _, ?_⟩⟩⟩
  obtain ⟨y, hy, hym⟩ := at_mem (l := [V.int (m : Int), .int (min (m : Int) 2)]) (r := r / 3) (Int.ediv_nonneg r0 (by decide)) (by show r / 3 < 2; omega)
  obtain ⟨z, rfl, z0, z1⟩ : ∃ z : Int, y = .int z ∧ 1 ≤ z ∧ z ≤ m := by
    simp only [List.mem_cons, List.not_mem_nil, or_false] at hym
    rcases hym with rfl | rfl
    · exact ⟨_, rfl, by omega, by omega⟩
    · exact ⟨_, rfl, by omega, by omega⟩
  refine ⟨_, .int z, lst_n (n := 0) rfl, hy, p, z, n + 1, c1, s1, rfl, rfl, set_n hn, hs1, by omega, by omega, fun r2 c2 s2 r20 r21 hs2 => ?_⟩
  obtain ⟨e, rfl⟩ := Int.eq_ofNat_of_zero_le r20
  have he : e < m := by omega
  refine ⟨G, M.set n (p, pool c2 s2), by simp only [List.set_cons_succ, List.set_set]; exact Wk.drop0, p, 2, n, c2, s2, rfl, rfl, set_n hn, hs2, by decide, by decide, fun r3 c3 s3 r30 r31 hs3 => ?_⟩
  rw [List.set_set]
  refine ite2' (c := decide (V.int r3 = .int 0)) (fun _ => ?_) (fun _ => ?_)
  · exact ⟨G, _, Wk.refl, sz2, fun t ft => ret0 (q t (.read e) c3 s3 _ (Ex.new ft) sqt_new ⟨he, trivial⟩ hs3)⟩
  · refine ⟨G, _, Wk.refl, p, n, c3, s3, rfl, set_n hn, hs3, fun w c4 s4 hw hs4 => ⟨sz3, fun t ft => ?_⟩⟩
    rw [List.set_set]
    exact ret0 (q t (.write e w) c4 s4 _ (Ex.new ft) sqt_new ⟨he, hw⟩ hs4)
end

section
variable {K : PySem.W.Frag} {vs : List V} {G : Hp} {M : Mem} {R : KR} {Z : KX}
theorem pf_law_pool (h : S_law_pool K vs G M R Z) : rd_law_pool K (ends R Z) (sta 4 vs) G M := by
  obtain ⟨_, _, rfl, a, ns, k, rfl, rfl, hS, k0, k1, hl, q⟩ := sp2_of h
  have rest : ∀ cell : Int, rd_law_pool_2 K (ends R Z) [some (.ref a), some (.int k), some (.int cell), none] G M := fun cell => by
    refine ⟨G, M, Wk.refl, (by show (0 : Int) < _; decide), mul_l (by decide) (by decide), mul_r (by omega) (by omega), mul_r (by decide) (by decide), (by show (0 : Int) < _; decide), ?_⟩
    refine ⟨G, M, Wk.refl, pow10_18, ite2' (fun e => ?_) (fun e => ?_)⟩
    · exact ⟨G, M, Wk.refl, G, M, Wk.refl, sz2, fun p fp => ret0 (q p _ _ fp ⟨Int.emod_nonneg _ (by decide), Int.emod_lt_of_pos _ (by decide)⟩)⟩
    · exact ⟨G, M, Wk.refl, sz2, fun p fp => ret0 (q p _ _ fp ⟨Int.emod_nonneg _ (by decide), Int.emod_lt_of_pos _ (by decide)⟩)⟩
  refine ⟨G, M, Wk.refl, ?_⟩
  refine ⟨G, M, Wk.refl, _, lst_g hS, ite2' (fun e => ?_) (fun e => rest _)⟩
  have e1 : k < ((ns.map V.int).length : Int) := of_decide_eq_true e
  rw [List.length_map] at e1
  exact ⟨G, M, Wk.refl, _, _, lst_g hS, atI_int k0 e1, rest _⟩
end

section
variable {K : PySem.W.Frag} {vs : List V} {G : Hp} {M : Mem} {R : KR} {Z : KX}
theorem AsksAt.ex {G' : Hp} {M' : Mem} {a : Addr} {ds : List Deed} (e : Ex G G') (hm : ∀ x, x ∈ M → x ∈ M') (h : AsksAt K G M a ds) : AsksAt K G' M' a ds := by
  obtain ⟨us, h1, h2⟩ := h
  exact ⟨us, ex_lat e hm h1, A2.mono (fun _ _ q => q.ex e) h2⟩
theorem dp_sg {T : Addr} {s : Sg} (h : SqT K G T s.vs) : Dp K G (.ref T) (sgD s) := by
  cases s with
  | room b s r => exact .tup h (.cons (.str _) (.cons (.str _) (.cons (.int _) (.cons (.int _) .nil))))
  | item b s d i => exact .tup h (.cons (.str _) (.cons (.str _) (.cons (.int _) (.cons (.int _) (.cons (.int _) .nil)))))
  | way b s d p e => exact .tup h (.cons (.str _) (.cons (.str _) (.cons (.int _) (.cons (.int _) (.cons (.int _) (.cons (.int _) .nil))))))
theorem sg_inv {v : V} {s : Sg} (h : Dp K G v (sgD s)) : ∃ T, v = .ref T ∧ SqT K G T s.vs := by
  cases s with
  | room b s r =>
    obtain ⟨T, xs, rfl, q, a⟩ := dp_tup_inv h
    cases a with | cons a1 a => cases a1; cases a with | cons a2 a => cases a2; cases a with | cons a3 a => cases a3; cases a with | cons a4 a => cases a4; cases a; exact ⟨T, rfl, q⟩
  | item b s d i =>
    obtain ⟨T, xs, rfl, q, a⟩ := dp_tup_inv h
    cases a with | cons a1 a => cases a1; cases a with | cons a2 a => cases a2; cases a with | cons a3 a => cases a3; cases a with | cons a4 a => cases a4; cases a with | cons a5 a => cases a5; cases a; exact ⟨T, rfl, q⟩
  | way b s d p e =>
    obtain ⟨T, xs, rfl, q, a⟩ := dp_tup_inv h
    cases a with | cons a1 a => cases a1; cases a with | cons a2 a => cases a2; cases a with | cons a3 a => cases a3; cases a with | cons a4 a => cases a4; cases a with | cons a5 a => cases a5; cases a with | cons a6 a => cases a6; cases a; exact ⟨T, rfl, q⟩
theorem deedS_ok (b : Bool) : PyData.strOk (deedS b) = true := by
  cases b
  · exact (by decide +kernel : PyData.strOk ("look" : Str) = true)
  · exact (by decide +kernel : PyData.strOk ("lay" : Str) = true)
theorem shp_sg (s : Sg) : Shp 1 (sgD s) := by
  cases s with
  | room b s r =>
    refine .tuple fun d hd => ?_
    simp only [List.mem_cons, List.not_mem_nil, or_false] at hd
    rcases hd with rfl | rfl | rfl | rfl
    · exact .str (by decide +kernel : PyData.strOk ("room" : Str) = true)
    · exact .str (deedS_ok b)
    · exact .int
    · exact .int
  | item b s d i =>
    refine .tuple fun d hd => ?_
    simp only [List.mem_cons, List.not_mem_nil, or_false] at hd
    rcases hd with rfl | rfl | rfl | rfl | rfl
    · exact .str (by decide +kernel : PyData.strOk ("item" : Str) = true)
    · exact .str (deedS_ok b)
    · exact .int
    · exact .int
    · exact .int
  | way b s d p e =>
    refine .tuple fun d hd => ?_
    simp only [List.mem_cons, List.not_mem_nil, or_false] at hd
    rcases hd with rfl | rfl | rfl | rfl | rfl | rfl
    · exact .str (by decide +kernel : PyData.strOk ("way" : Str) = true)
    · exact .str (deedS_ok b)
    · exact .int
    · exact .int
    · exact .int
    · exact .int
theorem shp_sgs (l : List Sg) : Shp 2 (.list (l.map sgD)) := .list fun d hd => by
  obtain ⟨s, _, rfl⟩ := List.mem_map.mp hd
  exact shp_sg s
theorem wayS_len (b : Bool) (sh dr : Nat) (l : List Nat) : (wayS b sh dr l).length = 2 * l.length := by
  unfold wayS
  induction l with
  | nil => rfl
  | cons x l ih => rw [List.flatMap_cons, List.length_append, ih]; show 2 + _ = 2 * (l.length + 1); omega
theorem waySg_len (sh dr high : Nat) : (waySg sh dr high).length = 4 * (high + 1) := by
  unfold waySg
  rw [List.length_append, wayS_len, wayS_len, List.length_reverse, List.length_range]; omega
theorem wayS_snoc (b : Bool) (sh dr : Nat) (l : List Nat) (d : Nat) : wayS b sh dr (l ++ [d]) = wayS b sh dr l ++ [.way b sh dr d 0, .way b sh dr d 1] := by
  unfold wayS
  rw [List.flatMap_append, List.flatMap_cons, List.flatMap_nil, List.append_nil]
theorem sides_at {i : Nat} (hi : i < 2) : con_SIDES[i]? = some (.int (i : Int)) := by
  have e : i = 0 ∨ i = 1 := by omega
  rcases e with rfl | rfl <;> rfl
/-- one depth of a way -/
theorem way_step {b : Bool} {f : Addr} {sh dr high d : Nat} {ws : List V} {sg : List Sg} {y5 : Option V} {txt : Str} {D : Kd} (ht : txt = deedS b) (hw : DpAll K G ws (sg.map sgD)) (hl : ws.length ≤ 1000)
    (q : ∀ (G' : Hp) (ws' : List V) (M' : Mem) (y5 : Option V), Ex G G' → DpAll K G' ws' ((sg ++ [Sg.way b sh dr d 0, Sg.way b sh dr d 1]).map sgD) → Wk G' M' G' ((f, .lst ws') :: M) → D.nx [some (.int sh), some (.int dr), some (.int high), some (.ref f), some (.int d), y5] G' M') :
    kSeq (kExpr (kBM K "list" (kExtend) (kVar 3) (kCons (kComp (kiTup K (kConT K "SIDES" con_SIDES)) (kgName 5) (kYes) (kTup (kCons (kC (.str "way")) (kCons (kC (.str txt)) (kCons (kVar 0) (kCons (kVar 1) (kCons (kVar 4) (kCons (kVar 5) (kNil)))))))) [5]) (kNil)))) (kNext) D
      [some (.int sh), some (.int dr), some (.int high), some (.ref f), some (.int d), y5] G ((f, .lst ws) :: M) := by
  subst ht
  refine ⟨G, _, Wk.refl, tyl_n (n := 0) rfl, fun hc => ⟨con_SIDES, hc G, sz2, fun j acc G' M' => Ex G G' ∧ M' = (f, .lst ws) :: M ∧ DpAll K G' acc (([Sg.way b sh dr d 0, .way b sh dr d 1].take j).map sgD), ⟨Ex.refl, rfl, .nil⟩, ?_, ?_, ?_⟩⟩
  · rintro j acc G' M' _ ⟨ex, rfl, _⟩; exact hc G'
  · rintro j acc G' M' D0 hj _ ⟨ex, rfl, ha⟩ fD
    have hj : j < 2 := hj
    refine asg_T (sides_at hj) ⟨rfl, sz6, fun T fT => ?_⟩
    have e := Ex.new (o := .tup [.str "way", .str (deedS b), .int (sh : Int), .int (dr : Int), .int (d : Int), .int (j : Int)]) fT
    refine ⟨_, _, Wk.refl, ex.trans e, rfl, ?_⟩
    have ej : j = 0 ∨ j = 1 := by omega
    rcases ej with rfl | rfl
    · exact dpall_app2 (ex_ds e _ ha) (.cons (dp_sg (s := .way b sh dr d 0) sqt_new) .nil)
    · exact dpall_app2 (ex_ds e _ ha) (.cons (dp_sg (s := .way b sh dr d 1) sqt_new) .nil)
  · rintro acc G' M' p ⟨ex, rfl, ha⟩ hal fp
    have ha : DpAll K G' acc ([Sg.way b sh dr d 0, .way b sh dr d 1].map sgD) := ha
    have hal : acc.length ≤ 2 := hal
    refine ⟨1, ws, acc, rfl, at_n (n := 0) rfl, sz (by omega), ?_⟩
    refine q G' (ws ++ acc) _ _ ex ?_ Wk.drop0
    rw [List.map_append]
    exact dpall_app2 (ex_ds ex _ hw) ha
theorem pf_way_there (h : S_way_there K vs G M R Z) : rd_way_there K (ends R Z) (sta 6 vs) G M := by
  obtain ⟨_, _, _, rfl, sh, dr, high, rfl, rfl, rfl, hh, q⟩ := sp3_of h
  refine ⟨G, M, Wk.refl, sz0, fun f ff => ?_⟩
  refine ⟨G, _, Wk.refl, ⟨by omega, by omega⟩, fun i σ G' M' => ∃ (ws : List V) (y4 y5 : Option V), σ = [some (.int sh), some (.int dr), some (.int high), some (.ref f), y4, y5] ∧ Ex G G' ∧ M' = (f, .lst ws) :: M ∧ DpAll K G' ws ((wayS false sh dr (List.range i)).map sgD), ⟨[], none, none, rfl, Ex.refl, rfl, .nil⟩, fun _ _ _ _ _ _ => trivial, ?_, ?_⟩
  · rintro i σ G' M' hi ⟨ws, y4, y5, rfl, ex, rfl, hw⟩
    have hi : i < ((high : Int) + 1).toNat := hi
    have hwl : ws.length = 2 * i := by rw [dpall_len hw, List.length_map, wayS_len, List.length_range]
    refine asg_R (v := (i : Int)) (by omega) (way_step (d := i) (sg := wayS false sh dr (List.range i)) (b := false) rfl hw (by omega) fun G2 ws2 M2 y5 ex2 hw2 wk => ?_)
    exact ⟨G2, _, wk, ws2, _, _, rfl, ex.trans ex2, rfl, by rw [List.range_succ, wayS_snoc]; exact hw2⟩
  rintro σ G1 M' ⟨ws, y4, y5, rfl, ex, rfl, hw⟩
  have en : (srcR 0 ((high : Int) + 1).toNat).n = high + 1 := by show ((high : Int) + 1).toNat = _; omega
  rw [en] at hw
  have hwl : ws.length = 2 * (high + 1) := by rw [dpall_len hw, List.length_map, wayS_len, List.length_range]
  have e1 : ((high : Int) - (-1)).toNat = high + 1 := by omega
  have rg := rg_down (i := (high : Int)) (j := -1) (by omega) (by omega) (by omega) (by omega)
  rw [e1] at rg
  have rev : ∀ i, (List.range (high + 1)).reverse.take i = (List.range i).map (high - ·) ∨ high + 1 < i := fun i => by
    by_cases z : high + 1 < i
    · exact .inr z
    · left
      apply List.ext_getElem
      · rw [List.length_take, List.length_reverse, List.length_range, List.length_map, List.length_range]; omega
      · intro j h1 h2
        rw [List.getElem_take, List.getElem_reverse, List.getElem_range, List.getElem_map, List.getElem_range, List.length_range]; omega
  refine ⟨G1, _, Wk.refl, high + 1, rg, fun i σ G' M' => ∃ (ws : List V) (y4 y5 : Option V), σ = [some (.int sh), some (.int dr), some (.int high), some (.ref f), y4, y5] ∧ Ex G G' ∧ M' = (f, .lst ws) :: M ∧ ws.length = 2 * (high + 1) + 2 * i ∧ DpAll K G' ws ((wayS false sh dr (List.range (high + 1)) ++ wayS true sh dr ((List.range (high + 1)).reverse.take i)).map sgD), ⟨ws, y4, y5, rfl, ex, rfl, by omega, by rw [List.take_zero]; show DpAll K G1 ws ((_ ++ []).map sgD); rw [List.append_nil]; exact hw⟩, fun _ _ _ _ _ _ => trivial, ?_, ?_⟩
  · rintro i σ G' M' hi ⟨ws, y4, y5, rfl, ex, rfl, hwl, hw⟩
    have hi : i < high + 1 := hi
    have ei : (high : Int) + (i : Nat) * (-1) = ((high - i : Nat) : Int) := by omega
    have eg : (List.range (high + 1)).reverse[i]? = some (high - i) := by
      rw [rev_get (by rw [List.length_range]; exact hi), List.length_range, List.getElem?_range (by omega)]; congr 1
    show asg _ (.inl (.int ((high : Int) + (i : Nat) * (-1)))) _ _ _ _
    rw [ei]
    refine way_step (d := high - i) (sg := wayS false sh dr (List.range (high + 1)) ++ wayS true sh dr ((List.range (high + 1)).reverse.take i)) (b := true) rfl hw (by omega) fun G2 ws2 M2 y5 ex2 hw2 wk => ?_
    refine ⟨G2, _, wk, ws2, _, _, rfl, ex.trans ex2, rfl, ?_, by rw [take_succ' eg, wayS_snoc, ← List.append_assoc]; exact hw2⟩
    rw [dpall_len hw2, List.length_map, List.length_append]
    have := dpall_len hw
    rw [List.length_map] at this
    show _ + 2 = _; omega
  · rintro σ G' M' ⟨ws, y4, y5, rfl, ex, rfl, hwl, hw⟩
    have en : (srcC (high : Int) (-1) (high + 1)).n = high + 1 := rfl
    rw [en, List.take_of_length_le (by rw [List.length_reverse, List.length_range]; exact Nat.le_refl _)] at hw
    exact ⟨G', _, Wk.refl, ret0 (q f ws G' ex hw)⟩
theorem scanRow_succ (m : Nat) : scanRow (m + 1) = scanRow m ++ [.room false 0 m, .room true 0 m] := by
  unfold scanRow
  rw [List.range_succ, List.flatMap_append, List.flatMap_cons, List.flatMap_nil, List.append_nil]
theorem scanRow_len (m : Nat) : (scanRow m).length = 2 * m := by
  induction m with
  | zero => rfl
  | succ m ih => rw [scanRow_succ, List.length_append, ih]; show _ + 2 = _; omega
theorem scanS_len (m : Nat) (ds : List Deed) : (scanS m ds).length = 2 * m * ds.length := by
  unfold scanS
  induction ds with
  | nil => rfl
  | cons d ds ih => rw [List.flatMap_cons, List.length_append, ih, scanRow_len, List.length_cons, Nat.mul_succ]; omega
theorem pf_scan_signs (h : S_scan_signs K vs G M R Z) : rd_scan_signs K (ends R Z) (sta 5 vs) G M := by
  obtain ⟨_, _, rfl, m, a, ds, ⟨rfl, m0, m1⟩, rfl, hask, ⟨hok, hl⟩, q⟩ := sp2_of h
  obtain ⟨us, hu, hd⟩ := id hask
  have hul : us.length = ds.length := hd.len
  refine ⟨G, M, Wk.refl, sz0, fun f ff => ?_⟩
  refine ⟨G, _, Wk.refl, us, lat_cons hu, fun i σ G' M' => ∃ (ws : List V) (y3 y4 : Option V), σ = [some (.int m), some (.ref a), some (.ref f), y3, y4] ∧ Ex G G' ∧ M' = (f, .lst ws) :: M ∧ DpAll K G' ws ((scanS m (ds.take i)).map sgD), ⟨[], none, none, rfl, Ex.refl, rfl, .nil⟩, ?_, ?_, ?_⟩
  · rintro i σ G' M' _ ⟨ws, y3, y4, rfl, ex, rfl, _⟩; exact lat_cons (lat_ex ex hu)
  · rintro i σ G' M' hi ⟨ws, y3, y4, rfl, ex, rfl, hw⟩
    have hi : i < us.length := hi
    obtain ⟨dd, hdd⟩ : ∃ dd, ds[i]? = some dd := ⟨_, List.getElem?_eq_getElem (by omega)⟩
    have hwl : ws.length ≤ 3840 := by
      rw [dpall_len hw, List.length_map, scanS_len, List.length_take]
      have h1 : 2 * m * min i ds.length ≤ 64 * 60 := Nat.mul_le_mul (by omega) (by omega)
      omega
    refine asg_L (get_lt hi) ?_
    refine ⟨G', _, Wk.refl, ⟨by omega, by omega⟩, fun j σ G2 M2 => ∃ (ws2 : List V) (y3 y4 : Option V), σ = [some (.int m), some (.ref a), some (.ref f), y3, y4] ∧ Ex G G2 ∧ M2 = (f, .lst ws2) :: M ∧ ws2.length = ws.length + 2 * j ∧ DpAll K G2 ws2 ((scanS m (ds.take i) ++ scanRow j).map sgD), ⟨ws, _, _, rfl, ex, rfl, rfl, by show DpAll K G' ws ((_ ++ []).map sgD); rw [List.append_nil]; exact hw⟩, fun _ _ _ _ _ _ => trivial, ?_, ?_⟩
    · rintro j σ G2 M2 hj ⟨ws2, y3, y4, rfl, ex2, rfl, hl2, hw2⟩
      have hj : j < (m : Int).toNat := hj
      refine asg_R (v := (j : Int)) (by omega) ?_
      refine ⟨G2, _, Wk.refl, tyl_n (n := 0) rfl, sz4, fun T1 f1 => ⟨sz4, fun T2 f2 => ⟨sz2, fun l fl => ?_⟩⟩⟩
      have x1 := Ex.new (o := .tup [.str "room", .str "look", .int 0, .int (j : Int)]) f1
      have x2 := Ex.new (o := .tup [.str "room", .str "lay", .int 0, .int (j : Int)]) f2
      refine ⟨1, ws2, [.ref T1, .ref T2], rfl, at_n (n := 0) rfl, sz (by show ws2.length + 2 ≤ _; omega), ?_⟩
      refine ⟨_, (f, .lst (ws2 ++ [.ref T1, .ref T2])) :: M, Wk.drop0, ws2 ++ [.ref T1, .ref T2], _, _, rfl, (ex2.trans x1).trans x2, rfl, by rw [List.length_append]; show ws2.length + 2 = _; omega, ?_⟩
      rw [scanRow_succ, ← List.append_assoc, List.map_append]
      exact dpall_app2 (ex_ds (x1.trans x2) _ hw2) (.cons (dp_sg (s := .room false 0 j) (ex_t x2 sqt_new)) (.cons (dp_sg (s := .room true 0 j) sqt_new) .nil))
    · rintro σ G2 M2 ⟨ws2, y3, y4, rfl, ex2, rfl, hl2, hw2⟩
      have en : (srcR 0 (m : Int).toNat).n = m := by show (m : Int).toNat = m; omega
      rw [en] at hw2
      refine ⟨G2, _, Wk.refl, ws2, _, _, rfl, ex2, rfl, ?_⟩
      have : scanS m (ds.take (i + 1)) = scanS m (ds.take i) ++ scanRow m := by
        rw [take_succ' hdd]; unfold scanS; rw [List.flatMap_append, List.flatMap_cons, List.flatMap_nil, List.append_nil]
      rw [this]; exact hw2
  · rintro σ G' M' ⟨ws, y3, y4, rfl, ex, rfl, hw⟩
    have en : (srcL K a us).n = ds.length := hul
    rw [en, List.take_length] at hw
    exact ⟨G', _, Wk.refl, ret0 (q f ws G' ex hw)⟩
theorem startT_succ {ts : List Nat} {i c : Nat} (h : ts[i]? = some c) : startT ts (i + 1) = startT ts i + c := by
  unfold startT
  rw [take_succ' h, List.sum_append]; simp
theorem pf_starts_of (h : S_starts_of K vs G M R Z) : rd_starts_of K (ends R Z) (sta 4 vs) G M := by
  obtain ⟨_, rfl, a, ts, rfl, hu, hl, q⟩ := sp1_of h
  refine ⟨G, M, Wk.refl, sz0, fun f ff => ?_⟩
  refine ⟨G, _, Wk.refl, ?_⟩
  refine ⟨G, _, Wk.refl, natsV ts, lat_cons hu, fun i σ G' M' => ∃ (y3 : Option V), σ = [some (.ref a), some (.ref f), some (.int (startT ts i)), y3] ∧ G' = G ∧ M' = (f, .lst (natsV ((List.range i).map (startT ts)))) :: M, ⟨none, rfl, rfl, rfl⟩, ?_, ?_, ?_⟩
  · rintro i σ G' M' _ ⟨y3, rfl, rfl, rfl⟩; exact lat_cons hu
  · rintro i σ G' M' hi ⟨y3, rfl, rfl, rfl⟩
    have hi : i < (natsV ts).length := hi
    rw [natsV_len] at hi
    obtain ⟨c, hc⟩ : ∃ c, ts[i]? = some c := ⟨_, List.getElem?_eq_getElem hi⟩
    refine asg_L (natsV_get hc) ?_
    refine ⟨G', _, Wk.refl, tyl_n (n := 0) rfl, 0, _, rfl, ?_, ?_⟩
    · rw [natsV_len, List.length_map, List.length_range]; exact Nat.lt_of_lt_of_le (m := 4) (by omega) (by decide)
    refine ⟨G', _, Wk.refl, G', _, Wk.refl, some (.int (c : Int)), ?_, rfl, ?_⟩
    · rw [startT_succ hc, Int.natCast_add]; rfl
    · rw [List.range_succ, List.map_append, natsV_app2]; rfl
  · rintro σ G' M' ⟨y3, rfl, rfl, rfl⟩
    have en : (srcL K a (natsV ts)).n = ts.length := natsV_len ts
    rw [en]
    refine ⟨G', _, Wk.refl, sz2, fun T fT => ret0 (q f T _ ff (Ex.new fT) ?_)⟩
    have : startT ts ts.length = ts.sum := by unfold startT; rw [List.take_length]
    rw [this]; exact sqt_new
theorem rgV_from (s n : Nat) : rgV (s : Int) ((s : Int) + (n : Int)) = natsV ((List.range n).map (s + ·)) := by
  unfold rgV natsV
  rw [show ((s : Int) + (n : Int) - (s : Int)).toNat = n by omega, List.map_map]
  refine List.map_congr_left fun i _ => ?_
  show V.int _ = V.int _
  congr 1
theorem drawOf_0 (ts cells : List Nat) (t c : Nat) : drawOf ts cells t 0 c = startT ts t + c := rfl
def tabN (ts cells : List Nat) (n t : Nat) : List Nat := (List.range (ts.getD t 0)).map (drawOf ts cells t n)
theorem tabN_len (ts cells : List Nat) (n t : Nat) : (tabN ts cells n t).length = ts.getD t 0 := by unfold tabN; rw [List.length_map, List.length_range]
theorem tabN_get {ts cells : List Nat} {n t c : Nat} (h : c < ts.getD t 0) : (tabN ts cells n t).getD c 0 = drawOf ts cells t n c := by
  rw [getD_lt (by rw [tabN_len]; exact h)]
  unfold tabN
  rw [List.getElem_map, List.getElem_range]
theorem tabN_set {ts cells : List Nat} {n t : Nat} (h : cells.getD n 0 / 2 ^ (2 * t) < ts.getD t 0) : (tabN ts cells n t).set (cells.getD n 0 / 2 ^ (2 * t)) (ts.sum + n * ts.length + t) = tabN ts cells (n + 1) t := by
  refine ext_getD (by rw [List.length_set, tabN_len, tabN_len]) fun i hi => ?_
  rw [List.length_set, tabN_len] at hi
  rw [getD_set (by rw [tabN_len]; exact h), tabN_get hi, tabN_get hi]
  show _ = if cells.getD n 0 / 2 ^ (2 * t) = i then _ else _
  by_cases e : i = cells.getD n 0 / 2 ^ (2 * t)
  · rw [if_pos e, if_pos e.symm]
  · rw [if_neg e, if_neg (fun z => e z.symm)]
/-- the tables of all trees as cells; those from a tree on are a step ahead -/
def tabsC (ts cells : List Nat) (sa : Nat → Addr) (n k : Nat) : Mem := (List.range ts.length).map fun t => rcell (sa t, if k ≤ t then tabN ts cells (n + 1) t else tabN ts cells n t)
theorem tabsC_len {ts cells : List Nat} {sa : Nat → Addr} {n k : Nat} : (tabsC ts cells sa n k).length = ts.length := by unfold tabsC; rw [List.length_map, List.length_range]
theorem tabsC_get {ts cells : List Nat} {sa : Nat → Addr} {n k t : Nat} (h : t < ts.length) : (tabsC ts cells sa n k)[t]? = some (sa t, .lst (natsV (if k ≤ t then tabN ts cells (n + 1) t else tabN ts cells n t))) := by
  unfold tabsC
  rw [List.getElem?_map, List.getElem?_range h]; rfl
theorem tabsC_set {ts cells : List Nat} {sa : Nat → Addr} {n t : Nat} (h : t < ts.length) : (tabsC ts cells sa n (t + 1)).set t (sa t, .lst (natsV (tabN ts cells (n + 1) t))) = tabsC ts cells sa n t := by
  apply List.ext_getElem?
  intro i
  by_cases hi : i < ts.length
  · rw [List.getElem?_set, tabsC_get hi, tabsC_get hi, tabsC_len]
    by_cases e : t = i
    · subst e; rw [if_pos rfl, if_pos h, if_pos (Nat.le_refl _)]
    · rw [if_neg e]
      by_cases z : t ≤ i
      · rw [if_pos (by omega), if_pos z]
      · rw [if_neg (by omega), if_neg z]
  · rw [List.getElem?_eq_none (by rw [List.length_set, tabsC_len]; omega), List.getElem?_eq_none (by rw [tabsC_len]; omega)]
theorem tabsC_next {ts cells : List Nat} {sa : Nat → Addr} {n k : Nat} (hk : ts.length ≤ k) : tabsC ts cells sa n 0 = tabsC ts cells sa (n + 1) k := by
  unfold tabsC
  refine List.map_congr_left fun t ht => ?_
  rw [if_pos (Nat.zero_le _), if_neg (by have := List.mem_range.mp ht; omega)]
theorem askSg_part {ts cells : List Nat} {n j t : Nat} (h : (List.range ts.length).reverse[j]? = some t) : (((List.range ts.length).reverse.take (j + 1)).flatMap fun t => waySg t (drawOf ts cells t n (cells.getD n 0 / 2 ^ (2 * t))) (highN (ts.getD t 0))) = (((List.range ts.length).reverse.take j).flatMap fun t => waySg t (drawOf ts cells t n (cells.getD n 0 / 2 ^ (2 * t))) (highN (ts.getD t 0))) ++ waySg t (drawOf ts cells t n (cells.getD n 0 / 2 ^ (2 * t))) (highN (ts.getD t 0)) := by
  rw [take_succ' h, List.flatMap_append, List.flatMap_cons, List.flatMap_nil, List.append_nil]
theorem pf_grove_signs (h : S_grove_signs K vs G M R Z) : rd_grove_signs K (ends R Z) (sta 12 vs) G M := by
  obtain ⟨_, _, rfl, m, a, b, ts, ds, rfl, rfl, hb, ht, hask, ⟨hok, hl60⟩, q⟩ := sp2_of h
  clear h
  obtain ⟨us, hu, hd⟩ := id hask
  have hul : us.length = ds.length := hd.len
  have h3 := ht.len
  have hget : ∀ t, t < ts.length → ts[t]? = some (ts.getD t 0) := fun t h => by rw [getD_lt h, List.getElem?_eq_getElem h]
  have htok : ∀ t, t < ts.length → 1 ≤ ts.getD t 0 ∧ ts.getD t 0 ≤ 32 := fun t h => ht.ok _ (List.mem_of_getElem? (hget t h))
  refine ⟨G, M, Wk.refl, b, ts, rfl, hb, h3, fun l T G1 fl ex1 hT => ⟨_, hT, ?_⟩⟩
  -- the tables
  refine ⟨G1, _, Wk.refl, natsV ((List.range ts.length).map (startT ts)), natsV ts, lat_0, lat_cons (lat_ex ex1 hb), sz (by show min _ _ ≤ _; rw [natsV_len, natsV_len, List.length_map, List.length_range]; omega),
    fun i acc G' M' => ∃ rs : List (Addr × List Nat), G' = G1 ∧ M' = rs.reverse.map rcell ++ ((l, .lst (natsV ((List.range ts.length).map (startT ts)))) :: M) ∧ acc = rs.map (fun x => .ref x.1) ∧ rs.length = i ∧ ∀ t, t < i → (rs.getD t (0, [])).2 = tabN ts (cellsD ds) 0 t, ⟨[], rfl, rfl, rfl, rfl, fun _ z => (nomatch z)⟩, ?_, ?_, ?_⟩
  · rintro i acc G' M' _ ⟨rs, rfl, rfl, rfl, _⟩
    exact ⟨lat_app lat_0, lat_app (lat_cons (lat_ex ex1 hb))⟩
  · rintro i acc G' M' D hi hal ⟨rs, rfl, rfl, rfl, hrl, hrs⟩ fD
    have hi : i < min (natsV ((List.range ts.length).map (startT ts))).length (natsV ts).length := hi
    rw [natsV_len, natsV_len, List.length_map, List.length_range, Nat.min_self] at hi
    have e1 : ((List.range ts.length).map (startT ts))[i]? = some (startT ts i) := by rw [List.getElem?_map, List.getElem?_range hi]; rfl
    refine asg_Z (natsV_get e1) (natsV_get (hget i hi)) ⟨rfl, ?_⟩
    obtain ⟨t0, t1⟩ := htok i hi
    have hs : startT ts i ≤ 96 := by
      unfold startT
      have : ∀ l : List Nat, (∀ t, t ∈ l → t ≤ 32) → l.sum ≤ 32 * l.length := fun l => by
        induction l with
        | nil => intro _; exact Nat.le_refl _
        | cons x l ih =>
          intro h
          have := ih fun t ht => h t (List.mem_cons_of_mem _ ht)
          have := h x List.mem_cons_self
          rw [List.sum_cons, List.length_cons]; omega
      have := this (ts.take i) fun t h => (ht.ok t (List.mem_of_mem_take h)).2
      rw [List.length_take] at this
      omega
    refine ⟨RgOk.of_le (by omega) (by omega) (by omega) (by omega), fun p fp => ?_⟩
    rw [rgV_from]
    refine ⟨G', (p, .lst (natsV ((List.range (ts.getD i 0)).map (startT ts i + ·)))) :: (rs.reverse.map rcell ++ ((l, .lst (natsV ((List.range ts.length).map (startT ts)))) :: M)), Wk.swap, rs ++ [(p, tabN ts (cellsD ds) 0 i)], rfl, ?_, ?_, ?_, fun t htt => ?_⟩
    · rw [List.reverse_append]; rfl
    · rw [List.map_append]; rfl
    · rw [List.length_append, hrl]; rfl
    · rw [List.getD_eq_getElem?_getD]
      by_cases z : t < i
      · rw [List.getElem?_append_left (by omega), ← List.getD_eq_getElem?_getD]; exact hrs t z
      · have : t = i := by omega
        subst this
        rw [List.getElem?_append_right (by omega), hrl, Nat.sub_self]; rfl
  rintro acc G' M' sh ⟨rs, rfl, rfl, rfl, hrl, hrs⟩ _ fsh
  have hrl : rs.length = min (natsV ((List.range ts.length).map (startT ts))).length (natsV ts).length := hrl
  rw [natsV_len, natsV_len, List.length_map, List.length_range, Nat.min_self] at hrl
  have hrs : ∀ t, t < ts.length → (rs.getD t (0, [])).2 = tabN ts (cellsD ds) 0 t := fun t z => hrs t (by show t < min _ _; rw [natsV_len, natsV_len, List.length_map, List.length_range, Nat.min_self]; exact z)
  obtain ⟨sa, hsa⟩ : ∃ sa : Nat → Addr, sa = fun t => (rs.getD t (0, [])).1 := ⟨_, rfl⟩
  have ers : rs.map rcell = tabsC ts (cellsD ds) sa 0 ts.length := by
    apply List.ext_getElem?
    intro t
    by_cases z : t < ts.length
    · rw [tabsC_get z, if_neg (by omega), ← hrs t z, hsa]
      dsimp only
      rw [List.getElem?_map, List.getD_eq_getElem?_getD, List.getElem?_eq_getElem (by omega)]; rfl
    · rw [List.getElem?_eq_none (by rw [List.length_map]; omega), List.getElem?_eq_none (by rw [tabsC_len]; omega)]
  have eac : rs.map (fun x => V.ref x.1) = (List.range ts.length).map fun t => .ref (sa t) := by
    apply List.ext_getElem?
    intro t
    by_cases z : t < ts.length
    · rw [List.getElem?_map, List.getElem?_map, List.getElem?_range z, hsa, List.getElem?_eq_getElem (by omega)]
      show some (V.ref _) = some (V.ref (rs.getD t (0, [])).1)
      rw [List.getD_eq_getElem?_getD, List.getElem?_eq_getElem (by omega)]; rfl
    · rw [List.getElem?_eq_none (by rw [List.length_map]; omega), List.getElem?_eq_none (by rw [List.length_map, List.length_range]; omega)]
  rw [eac]
  obtain ⟨G2, hG2⟩ : ∃ G2, G2 = upd G' sh (.lst ((List.range ts.length).map fun t => .ref (sa t))) := ⟨_, rfl⟩
  have ex2 : Ex G' G2 := by rw [hG2]; exact Ex.new fsh
  have hsh : SqL K G2 sh ((List.range ts.length).map fun t => .ref (sa t)) := by rw [hG2]; exact sql_new
  have ex12 := ex1.trans ex2
  refine ⟨G2, tabsC ts (cellsD ds) sa 0 ts.length ++ M, ?_, sz0, fun f ff => ?_⟩
  · rw [hG2, ← ers]
    exact Wk.frz0.trans (Wk.trans (Wk.perm (M' := (l, .lst (natsV ((List.range ts.length).map (startT ts)))) :: (rs.map rcell ++ M)) ((List.perm_middle.symm).trans ((((List.reverse_perm rs).map rcell).append_right _).symm))) Wk.drop0)
  -- ask by ask
  have hcl : (cellsD ds).length = ds.length := by unfold cellsD; rw [List.length_map]
  refine ⟨G2, _, Wk.refl, us, lat_cons (lat_app (lat_ex ex12 hu)), fun n σ G' M' => ∃ (ws : List V) (y8 y9 y10 y11 : Option V), σ = [some (.ref b), some (.ref a), some (.ref l), some (.int ts.sum), some (.ref sh), none, none, some (.ref f), y8, y9, y10, y11] ∧ Ex G2 G' ∧ M' = (f, .lst ws) :: (tabsC ts (cellsD ds) sa n ts.length ++ M) ∧ ws.length ≤ 100 * n ∧ DpAll K G' ws (((List.range n).flatMap (askSg ts (cellsD ds))).map sgD),
    ⟨[], none, none, none, none, rfl, Ex.refl, rfl, Nat.le_refl _, .nil⟩, ?_, ?_, ?_⟩
  · rintro n σ G' M' _ ⟨ws, y8, y9, y10, y11, rfl, ex, rfl, _⟩
    exact lat_cons (lat_app (lat_ex (ex12.trans ex) hu))
  · rintro n σ G3 M' hn ⟨ws, y8, y9, y10, y11, rfl, ex, rfl, hwl, hw⟩
    have hn : n < us.length := hn
    obtain ⟨dd, hdd⟩ : ∃ dd, ds[n]? = some dd := ⟨_, List.getElem?_eq_getElem (by omega)⟩
    obtain ⟨v, hv, hdv⟩ := hd.get hdd
    obtain ⟨T, rfl, hT⟩ := hdv
    have hdok := hok dd (List.mem_of_getElem? hdd)
    have ec : (cellsD ds).getD n 0 = dd.cell := by
      unfold cellsD
      rw [List.getD_eq_getElem?_getD, List.getElem?_map, hdd]; rfl
    refine asg_E hv ?_
    have ek : ((ts.length : Int) - 1 - (-1)).toNat = ts.length := by omega
    have rg := rg_down (i := (ts.length : Int) - 1) (j := -1) (by omega) (by omega) (by omega) (by omega)
    rw [ek] at rg
    refine ⟨G3, _, Wk.refl, _, (.inl (lat_cons (lat_app (lat_ex (ex12.trans ex) hb)))), ?_⟩
    rw [natsV_len]
    refine ⟨ts.length, rg, fun j σ G' M' => ∃ (ws : List V) (y10 y11 : Option V), σ = [some (.ref b), some (.ref a), some (.ref l), some (.int ts.sum), some (.ref sh), none, none, some (.ref f), some (.int n), some (.ref T), y10, y11] ∧ Ex G2 G' ∧ M' = (f, .lst ws) :: (tabsC ts (cellsD ds) sa n (ts.length - j) ++ M) ∧ ws.length ≤ 100 * n + 28 * j ∧ DpAll K G' ws (((List.range n).flatMap (askSg ts (cellsD ds)) ++ ((List.range ts.length).reverse.take j).flatMap fun t => waySg t (drawOf ts (cellsD ds) t n ((cellsD ds).getD n 0 / 2 ^ (2 * t))) (highN (ts.getD t 0))).map sgD),
      ⟨ws, _, _, rfl, ex, rfl, by omega, by rw [List.take_zero]; show DpAll K G3 ws ((_ ++ []).map sgD); rw [List.append_nil]; exact hw⟩, fun _ _ _ _ _ _ => trivial, ?_, ?_⟩
    · rintro j σ G4 M' hj ⟨ws, y10, y11, rfl, ex4, rfl, hwl, hw⟩
      have hj : j < ts.length := hj
      obtain ⟨t, htj⟩ : ∃ t, t = ts.length - 1 - j := ⟨_, rfl⟩
      have htl : t < ts.length := by omega
      have et : (ts.length : Int) - 1 + (j : Nat) * (-1) = (t : Int) := by omega
      have eg : (List.range ts.length).reverse[j]? = some t := by
        rw [rev_get (by rw [List.length_range]; exact hj), List.length_range, List.getElem?_range (by omega), htj]
      obtain ⟨t0, t1⟩ := htok t htl
      have hc := ht.le t htl dd.cell hdok.1
      have h5 := high_le (ts.getD t 0) (by omega)
      have ekj : ts.length - j = t + 1 := by omega
      rw [ekj]
      show asg _ (.inl (.int ((ts.length : Int) - 1 + (j : Nat) * (-1)))) _ _ _ _
      rw [et]
      have ecc : (dd.cell : Int) / 2 ^ ((2 : Int) * (t : Int)).toNat = ((dd.cell / 2 ^ (2 * t) : Nat) : Int) := by
        rw [show ((2 : Int) * (t : Int)).toNat = 2 * t by omega]; norm_cast
      obtain ⟨s1, a1⟩ := deed_1 (M := (f, .lst ws) :: (tabsC ts (cellsD ds) sa n (t + 1) ++ M)) (ex_t ((ex12.trans ex4)) hT)
      refine ⟨G4, _, Wk.refl, _, _, s1, a1, mul_l (by decide) (by decide), by show (0 : Int) ≤ 2 * (t : Int); omega, ?_⟩
      show rd_grove_signs_b1_1 K _ [some (.ref b), some (.ref a), some (.ref l), some (.int ts.sum), some (.ref sh), none, none, some (.ref f), some (.int n), some (.ref T), some (.int (t : Int)), some (.int ((dd.cell : Int) / 2 ^ ((2 : Int) * (t : Int)).toNat))] G4 _
      rw [ecc]
      have hcell : ((f, HO.lst ws) :: (tabsC ts (cellsD ds) sa n (t + 1) ++ M))[t + 1]? = some (sa t, .lst (natsV (tabN ts (cellsD ds) n t))) := by
        rw [List.getElem?_cons_succ, List.getElem?_append_left (by rw [tabsC_len]; exact htl), tabsC_get htl, if_neg (by omega)]
      have hgs : atI ((List.range ts.length).map fun t => V.ref (sa t)) (t : Int) = some (.ref (sa t)) := atI_nat (by rw [List.getElem?_map, List.getElem?_range htl]; rfl)
      refine ⟨G4, _, Wk.refl, tyl_n (n := 0) rfl, _, _, lst_g (ex_l ex4 hsh), hgs, _, _, lst_n hcell, atI_natD (by rw [tabN_len]; exact hc), _, _, .inl (lat_cons (lat_app (lat_ex (ex12.trans ex4) hb))), atI_natD htl, ts.getD t 0, ⟨rfl, t0, t1⟩, t, (tabN ts (cellsD ds) n t).getD (dd.cell / 2 ^ (2 * t)) 0, highN (ts.getD t 0), rfl, rfl, rfl, by omega, fun w wv G5 ex5 hwv => ?_⟩
      have hwl2 : wv.length ≤ 24 := by rw [dpall_len hwv, List.length_map, waySg_len]; omega
      refine ⟨1, ws, wv, rfl, at_n (n := 0) rfl, sz (by omega), ?_⟩
      refine ⟨G5, (f, .lst (ws ++ wv)) :: (tabsC ts (cellsD ds) sa n (t + 1) ++ M), Wk.drop0, _, .inl (lat_cons (lat_app (lat_ex ((ex12.trans ex4).trans ex5) hb))), ?_⟩
      rw [natsV_len]
      refine ⟨mul_l (by omega) (by omega), _, _, lst_g (ex_l (ex4.trans ex5) hsh), hgs, t + 1, natsV (tabN ts (cellsD ds) n t), dd.cell / 2 ^ (2 * t), ?_, ixN_nat (by rw [natsV_len, tabN_len]; exact hc), ?_⟩
      · rw [List.getElem?_cons_succ, List.getElem?_append_left (by rw [tabsC_len]; exact htl), tabsC_get htl, if_neg (by omega)]
      have ev : (ts.sum : Int) + (n : Int) * (ts.length : Int) + (t : Int) = ((ts.sum + n * ts.length + t : Nat) : Int) := by push_cast; rfl
      refine ⟨G5, (f, .lst (ws ++ wv)) :: (tabsC ts (cellsD ds) sa n t ++ M), ?_, ws ++ wv, _, _, rfl, ex4.trans ex5, ?_, ?_, ?_⟩
      · refine Wk.of_eq ?_
        show (f, HO.lst (ws ++ wv)) :: ((tabsC ts (cellsD ds) sa n (t + 1) ++ M).set t (sa t, .lst ((natsV (tabN ts (cellsD ds) n t)).set (dd.cell / 2 ^ (2 * t)) (.int ((ts.sum : Int) + (n : Int) * (ts.length : Int) + (t : Int)))))) = _
        have := tabN_set (ts := ts) (cells := cellsD ds) (n := n) (t := t) (by rw [ec]; exact hc)
        rw [ec] at this
        rw [ev, natsV_set, this, List.set_append_left _ _ (by rw [tabsC_len]; exact htl), tabsC_set htl]
      · rw [show ts.length - (j + 1) = t by omega]
      · rw [List.length_append]; omega
      · rw [askSg_part eg, ← List.append_assoc, List.map_append]
        refine dpall_app2 (ex_ds ex5 _ hw) ?_
        rw [ec, ← tabN_get hc]; exact hwv
    · rintro σ G4 M' ⟨ws, y10, y11, rfl, ex4, rfl, hwl, hw⟩
      have en : (srcC ((ts.length : Int) - 1) (-1) ts.length).n = ts.length := rfl
      rw [en] at hwl hw ⊢
      rw [List.take_of_length_le (by rw [List.length_reverse, List.length_range]; exact Nat.le_refl _)] at hw
      refine ⟨G4, _, Wk.refl, ws, _, _, _, _, rfl, ex4, ?_, by omega, ?_⟩
      · rw [Nat.sub_self, tabsC_next (Nat.le_refl _)]
      · rw [List.range_succ, List.flatMap_append, List.flatMap_cons, List.flatMap_nil, List.append_nil]; exact hw
  · rintro σ G3 M' ⟨ws, y8, y9, y10, y11, rfl, ex, rfl, hwl, hw⟩
    have en : (srcE K a us).n = (cellsD ds).length := by rw [hcl]; exact hul
    rw [en] at hw
    exact ⟨G3, _, Wk.refl, retW (G' := G3) (M' := (f, .lst ws) :: M) (Wk.trans (Wk.perm (M' := tabsC ts (cellsD ds) sa _ ts.length ++ ((f, .lst ws) :: M)) List.perm_middle) (Wk.dropP _)) (q f ws G3 (ex12.trans ex) hw)⟩
theorem pf_look_at_asks (h : S_look_at_asks K vs G M R Z) : rd_look_at_asks K (ends R Z) (sta 3 vs) G M := by
  obtain ⟨_, y, rfl, m, b, rfl, hy, q1, q2⟩ := sp2_of h
  rcases hy with ⟨T, hT, hne, rfl⟩ | ⟨a, xs, rfl, ha, hl, hy⟩
  · refine ⟨G, M, Wk.refl, .type T.name, .type "list", _, .ty "list", hT, kit_pt T .list, ite2' (c := !isaB T .list) (fun _ => ⟨G, M, Wk.refl, G, M, Wk.refl, q2 rfl⟩) (fun e => ?_)⟩
    exfalso; revert e hne; cases T <;> decide
  refine ⟨G, M, Wk.refl, .type PT.list.name, .type "list", _, .ty "list", ty_lst ha, kit_pt .list .list, ?_⟩
  refine ⟨xs, .inl ha, ite2' (c := decide ((60 : Int) < (xs.length : Int))) (fun e => ?_) (fun e => ?_)⟩
  · have e := of_decide_eq_true e
    rcases hy with ⟨_, rfl⟩ | ⟨hy, _⟩
    · exact ⟨G, M, Wk.refl, G, M, Wk.refl, q2 rfl⟩
    · omega
  have e := of_decide_eq_false e
  rcases hy with ⟨hy, _⟩ | ⟨hy, bs, hb, rfl⟩
  · omega
  have hbl := hb.len
  refine ⟨G, M, Wk.refl, xs, ha, fun i σ G' M' => ∃ y2 : Option V, σ = [some (.int m), some (.ref a), y2] ∧ G' = G ∧ M' = M ∧ (bs.take i).all id = true, ⟨none, rfl, rfl, rfl, rfl⟩, ?_, ?_, ?_⟩
  · rintro i σ G' M' _ ⟨y2, rfl, rfl, rfl, _⟩; exact ha
  · rintro i σ G' M' hi ⟨y2, rfl, rfl, rfl, hall⟩
    have hi : i < xs.length := hi
    obtain ⟨bi, hbi⟩ : ∃ bi, bs[i]? = some bi := ⟨_, List.getElem?_eq_getElem (by omega)⟩
    obtain ⟨v, hv, hav⟩ := hb.get hbi
    refine asg_L hv ⟨G', M', Wk.refl, m, bi, rfl, hav, ?_⟩
    cases bi with
    | true => exact ⟨G', M', Wk.refl, _, rfl, rfl, rfl, by rw [take_succ' hbi, List.all_append, hall]; rfl⟩
    | false =>
      refine ⟨G', M', Wk.refl, G', M', Wk.refl, q2 ?_⟩
      rw [← Bool.not_eq_true, List.all_eq_true]
      intro z
      exact Bool.false_ne_true (z false (List.mem_of_getElem? hbi))
  · rintro σ G' M' ⟨y2, rfl, rfl, rfl, hall⟩
    have en : (srcL K a xs).n = bs.length := hbl
    rw [en, List.take_length] at hall
    exact ret0 (q1 hall)
theorem asks_askV {m : Nat} {a : Addr} {ds : List Deed} (h : AsksAt K G M a ds) (hd : DsOk m ds) : AsksV K G M m (.ref a) true := by
  obtain ⟨us, hu, ha⟩ := h
  have hl := ha.len
  obtain ⟨hok, hl60⟩ := hd
  refine .inr ⟨a, us, rfl, hu, by omega, .inr ⟨by omega, ds.map fun _ => true, ?_, ?_⟩⟩
  · clear hl hl60 hu
    induction ha with
    | nil => exact .nil
    | cons q _ ih => exact .cons (deed_askV q (hok _ List.mem_cons_self)) (ih fun d hd => hok d (List.mem_cons_of_mem _ hd))
  · rw [List.all_map]; symm; rw [List.all_eq_true]; intro _ _; rfl
theorem treesOk_1 {m : Nat} (m0 : 1 ≤ m) (m1 : m ≤ 32) : TreesOk [m] m := by
  refine ⟨by show 1 ≤ 3; decide, fun t ht => ?_, fun t ht c hc => ?_⟩
  · have : t = m := by simpa using ht
    subst this; exact ⟨m0, m1⟩
  · have : t = 0 := by have : t < 1 := ht; omega
    subst this
    show c / 2 ^ 0 < m
    rw [Nat.pow_zero, Nat.div_one]; exact hc
theorem treesOk_N : ∀ m, m < 33 → 1 ≤ m → TreesOk (treesN m) m := by
  have k1 : ∀ m, m < 33 → (treesN m).length ≤ 3 := by decide +kernel
  have k2 : ∀ m, m < 33 → 1 ≤ m → ((treesN m).all fun t => decide (1 ≤ t) && decide (t ≤ 32)) = true := by decide +kernel
  have k3 : ∀ m, m < 33 → ∀ t, t < 3 → t < (treesN m).length → ∀ c, c < 32 → c < m → c / 2 ^ (2 * t) < (treesN m).getD t 0 := by decide +kernel
  intro m h0 h1
  refine ⟨k1 m h0, fun t ht => ?_, fun t ht x hx => k3 m h0 t (by have := k1 m h0; omega) ht x (by omega) hx⟩
  have := List.all_eq_true.mp (k2 m h0 h1) t ht
  simpa using this
end

section
variable {K : PySem.W.Frag} {vs : List V} {G : Hp} {M : Mem} {R : KR} {Z : KX}
/-! ### asks as data -/
def deedD : Deed → PyData
  | .read c => .tuple [.str "read", .int c]
  | .write c w => .tuple [.str "write", .int c, .int w]
theorem dp_deed {v : V} {d : Deed} (h : DeedAt K G v d) : Dp K G v (deedD d) := by
  obtain ⟨t, rfl, h⟩ := h
  cases d with
  | read c => exact .tup h (.cons (.str _) (.cons (.int _) .nil))
  | write c w => exact .tup h (.cons (.str _) (.cons (.int _) (.cons (.int _) .nil)))
theorem dp_deeds {us : List V} {ds : List Deed} (h : A2 (fun v d => DeedAt K G v d) us ds) : DpAll K G us (ds.map deedD) := by
  induction h with
  | nil => exact .nil
  | cons a _ ih => exact .cons (dp_deed a) ih
theorem shp_deeds (ds : List Deed) : Shp 2 (.list (ds.map deedD)) := .list fun d hd => by
  obtain ⟨x, _, rfl⟩ := List.mem_map.mp hd
  cases x with
  | read c =>
    refine .tuple fun d hd => ?_
    simp only [List.mem_cons, List.not_mem_nil, or_false] at hd
    rcases hd with rfl | rfl
    · exact .str (by decide +kernel : PyData.strOk ("read" : Str) = true)
    · exact .int
  | write c w =>
    refine .tuple fun d hd => ?_
    simp only [List.mem_cons, List.not_mem_nil, or_false] at hd
    rcases hd with rfl | rfl | rfl
    · exact .str (by decide +kernel : PyData.strOk ("write" : Str) = true)
    · exact .int
    · exact .int
end

section
variable {K : PySem.W.Frag} {vs : List V} {G : Hp} {M : Mem} {R : KR} {Z : KX}
theorem pf_signs_by (h : S_signs_by K vs G M R Z) : rd_signs_by K (ends R Z) (sta 3 vs) G M := by
  obtain ⟨_, _, _, rfl, s, m, a, ds, rfl, hs, ⟨rfl, m0, m1⟩, rfl, hask, hds, q⟩ := sp3_of h
  rcases hs with rfl | rfl | rfl
  · exact ⟨G, M, Wk.refl, G, M, Wk.refl, m, a, ds, ⟨rfl, m0, m1⟩, rfl, hask, hds, fun t us G' ex hu => ret0 (q t us G' ex hu)⟩
  · refine ⟨G, M, Wk.refl, G, M, Wk.refl, G, M, Wk.refl, G, M, Wk.refl, G, M, Wk.refl, sz1, fun p fp => ⟨m, a, p, [m], ds, rfl, rfl, lat_0, treesOk_1 m0 m1, hask.ex Ex.refl (fun x hx => List.mem_cons_of_mem _ hx), hds, fun t us G' ex hu => retW Wk.drop1 (q t us G' ex hu)⟩⟩
  · refine ⟨G, M, Wk.refl, G, M, Wk.refl, G, M, Wk.refl, G, M, Wk.refl, G, M, Wk.refl, m, ⟨rfl, m0, m1⟩, fun p fp => ⟨m, a, p, treesN m, ds, rfl, rfl, lat_0, treesOk_N m (by omega) m0, hask.ex Ex.refl (fun x hx => List.mem_cons_of_mem _ hx), hds, fun t us G' ex hu => retW Wk.drop1 (q t us G' ex hu)⟩⟩
theorem pf_signs_of (h : S_signs_of K vs G M R Z) : rd_signs_of K (ends R Z) (sta 3 vs) G M := by
  obtain ⟨_, _, _, rfl, s, m, a, ds, rfl, hs, ⟨rfl, m0, m1⟩, rfl, hask, hds, q⟩ := sp3_of h
  have hw : wayV (.str s) = true := by rcases hs with rfl | rfl | rfl <;> decide +kernel
  have hm : withinV (.int (m : Int)) 1 32 = true := wi_in (by omega) (by omega)
  refine ⟨G, M, Wk.refl, .str, ty_str, rfl, fun _ => ?_, fun z => by rw [hw] at z; cases z⟩
  refine ⟨G, M, Wk.refl, .int, ty_int, rfl, fun _ => ?_, fun z => by rw [hm] at z; cases z⟩
  refine ⟨G, M, Wk.refl, m, true, rfl, asks_askV hask hds, fun _ => ?_, fun z => nomatch z⟩
  exact ⟨G, M, Wk.refl, s, m, a, ds, rfl, hs, ⟨rfl, m0, m1⟩, rfl, hask, hds, fun t us G' ex hu => ret0 (q t us G' ex hu)⟩
theorem pf_law_trees (h : S_law_trees K vs G M R Z) : rd_law_trees K (ends R Z) (sta 3 vs) G M := by
  obtain ⟨_, _, rfl, s, m, rfl, ⟨rfl, m0, m1⟩, q⟩ := sp2_of h
  refine ⟨G, M, Wk.refl, sz1, fun t ft => ?_⟩
  by_cases hs : s = "grove"
  · subst hs
    rw [if_pos rfl] at q
    refine ⟨upd G t (.lst [.int m]), M, Wk.frz0, fun k σ G' M' => ∃ (t : Addr) (l : List Nat) (v : Nat), σ = [some (.str "grove"), some (.int m), some (.ref t)] ∧ Ex G G' ∧ M' = M ∧ G' t = some (.lst (natsV (l ++ [v]))) ∧ treesN m = l ++ trN k v ∧ v ≤ 4 * 4 ^ k ∧ l.length + k ≤ 3, ⟨3, t, [], m, rfl, Ex.new ft, rfl, upd_same, rfl, by omega, by simp⟩, ?_⟩
    rintro k σ G' M' ⟨t, l, v, rfl, ex, rfl, hg, e, hv, hlk⟩
    refine ⟨natsV (l ++ [v]), _, lst_g (sql_of hg), atI_last, ?_⟩
    refine ite2' (c := decide ((4 : Int) < (v : Int))) (fun e1 => ?_) (fun e1 => ?_)
    · have e1 := of_decide_eq_true e1
      cases k with
      | zero => exfalso; rw [Nat.pow_zero] at hv; omega
      | succ k =>
        have et : trN (k + 1) v = v :: trN k ((v + 3) / 4) := by rw [trN, if_pos (by omega)]
        refine ⟨G', M', Wk.refl, natsV (l ++ [v]), _, lst_g (sql_of hg), atI_last, divW (by decide) (by decide) _, sz1, fun p fp => ⟨natsV (l ++ [v]), [.int (((v : Int) + 3) / 4)], .inr hg, .inl List.mem_cons_self, sz (by rw [natsV_len]; simp; omega), fun p2 fp2 => ?_⟩⟩
        have ev : ((v : Int) + 3) / 4 = (((v + 3) / 4 : Nat) : Int) := by omega
        refine ⟨k, by omega, upd G' p2 (.lst (natsV (l ++ [v]) ++ [.int (((v : Int) + 3) / 4)])), M', Wk.frz0.trans Wk.drop0, p2, l ++ [v], (v + 3) / 4, rfl, ex.trans (Ex.new fp2), rfl, ?_, ?_, ?_, by simp; omega⟩
        · rw [upd_same, ev]; unfold natsV; simp only [List.map_append]; rfl
        · rw [e, et, List.append_assoc]; rfl
        · rw [Nat.pow_succ] at hv; omega
    · have e1 := of_decide_eq_false e1
      refine ⟨_, _, Wk.refl, ret0 ?_⟩
      have et : trN k v = [v] := by
        cases k with
        | zero => rfl
        | succ k => rw [trN, if_neg (by omega)]
      refine q t G' ex ?_
      rw [hg, e, et]
  · rw [if_neg hs] at q
    refine ⟨upd G t (.lst [.int m]), M, Wk.frz0, fun k σ G' M' => σ = [some (.str s), some (.int m), some (.ref t)] ∧ G' = upd G t (.lst [.int m]) ∧ M' = M, ⟨0, rfl, rfl, rfl⟩, ?_⟩
    rintro k σ G' M' ⟨rfl, rfl, rfl⟩
    refine ite2' (c := decide (V.str s = .str "grove")) (fun e => absurd (V.str.inj (of_decide_eq_true e)) hs) (fun _ => ?_)
    exact ⟨_, _, Wk.refl, ret0 (q t _ (Ex.new ft) upd_same)⟩
/-- two signs of one depth -/
theorem law_way_step {b : Bool} {f : Addr} {sh dr high d : Nat} {ws : List V} {sg : List Sg} {txt : Str} {D : Kd} (ht : txt = deedS b) (hw : DpAll K G ws (sg.map sgD)) (hl : ws.length ≤ 1000)
    (q : ∀ (G' : Hp) (ws' : List V) (M' : Mem), Ex G G' → DpAll K G' ws' ((sg ++ [Sg.way b sh dr d 0, Sg.way b sh dr d 1]).map sgD) → Wk G' M' G' ((f, .lst ws') :: M) → D.nx [some (.int sh), some (.int dr), some (.int high), some (.ref f), some (.int d)] G' M') :
    kSeq (kExpr (kBM K "list" (kExtend) (kVar 3) (kCons (kLst (kCons (kTup (kCons (kC (.str "way")) (kCons (kC (.str txt)) (kCons (kVar 0) (kCons (kVar 1) (kCons (kVar 4) (kCons (kC (.int 0)) (kNil)))))))) (kCons (kTup (kCons (kC (.str "way")) (kCons (kC (.str txt)) (kCons (kVar 0) (kCons (kVar 1) (kCons (kVar 4) (kCons (kC (.int 1)) (kNil)))))))) (kNil)))) (kNil)))) (kNext) D
      [some (.int sh), some (.int dr), some (.int high), some (.ref f), some (.int d)] G ((f, .lst ws) :: M) := by
  subst ht
  refine ⟨G, _, Wk.refl, tyl_n (n := 0) rfl, sz6, fun T1 f1 => ⟨sz6, fun T2 f2 => ⟨sz2, fun l fl => ?_⟩⟩⟩
  have x1 := Ex.new (o := .tup [.str "way", .str (deedS b), .int (sh : Int), .int (dr : Int), .int (d : Int), .int 0]) f1
  have x2 := Ex.new (o := .tup [.str "way", .str (deedS b), .int (sh : Int), .int (dr : Int), .int (d : Int), .int 1]) f2
  refine ⟨1, ws, [.ref T1, .ref T2], rfl, at_n (n := 0) rfl, sz (by show ws.length + 2 ≤ _; omega), ?_⟩
  refine q _ (ws ++ [.ref T1, .ref T2]) _ (x1.trans x2) ?_ Wk.drop0
  rw [List.map_append]
  exact dpall_app2 (ex_ds (x1.trans x2) _ hw) (.cons (dp_sg (s := .way b sh dr d 0) (ex_t x2 sqt_new)) (.cons (dp_sg (s := .way b sh dr d 1) sqt_new) .nil))
theorem pf_law_way_signs (h : S_law_way_signs K vs G M R Z) : rd_law_way_signs K (ends R Z) (sta 5 vs) G M := by
  obtain ⟨_, _, _, rfl, sh, dr, high, rfl, rfl, rfl, hh, q⟩ := sp3_of h
  refine ⟨G, M, Wk.refl, sz0, fun f ff => ?_⟩
  refine ⟨G, _, Wk.refl, ⟨by omega, by omega⟩, fun i σ G' M' => ∃ (ws : List V) (y4 : Option V), σ = [some (.int sh), some (.int dr), some (.int high), some (.ref f), y4] ∧ Ex G G' ∧ M' = (f, .lst ws) :: M ∧ DpAll K G' ws ((wayS false sh dr (List.range i)).map sgD), ⟨[], none, rfl, Ex.refl, rfl, .nil⟩, fun _ _ _ _ _ _ => trivial, ?_, ?_⟩
  · rintro i σ G' M' hi ⟨ws, y4, rfl, ex, rfl, hw⟩
    have hi : i < ((high : Int) + 1).toNat := hi
    have hwl : ws.length = 2 * i := by rw [dpall_len hw, List.length_map, wayS_len, List.length_range]
    refine asg_R (v := (i : Int)) (by omega) (law_way_step (d := i) (sg := wayS false sh dr (List.range i)) (b := false) rfl hw (by omega) fun G2 ws2 M2 ex2 hw2 wk => ?_)
    exact ⟨G2, _, wk, ws2, _, rfl, ex.trans ex2, rfl, by rw [List.range_succ, wayS_snoc]; exact hw2⟩
  rintro σ G1 M' ⟨ws, y4, rfl, ex, rfl, hw⟩
  have en : (srcR 0 ((high : Int) + 1).toNat).n = high + 1 := by show ((high : Int) + 1).toNat = _; omega
  rw [en] at hw
  have hwl : ws.length = 2 * (high + 1) := by rw [dpall_len hw, List.length_map, wayS_len, List.length_range]
  have e1 : ((high : Int) + 1 - 0).toNat = high + 1 := by omega
  refine ⟨G1, _, Wk.refl, ⟨by omega, by omega, by omega, by omega⟩, ?_⟩
  rw [e1]
  refine ⟨fun i σ G' M' => ∃ (ws : List V) (y4 : Option V), σ = [some (.int sh), some (.int dr), some (.int high), some (.ref f), y4] ∧ Ex G G' ∧ M' = (f, .lst ws) :: M ∧ ws.length = 2 * (high + 1) + 2 * i ∧ DpAll K G' ws ((wayS false sh dr (List.range (high + 1)) ++ wayS true sh dr ((List.range (high + 1)).reverse.take i)).map sgD), ⟨ws, y4, rfl, ex, rfl, by omega, by rw [List.take_zero]; show DpAll K G1 ws ((_ ++ []).map sgD); rw [List.append_nil]; exact hw⟩, fun _ _ _ _ _ _ => trivial, ?_, ?_⟩
  · rintro i σ G' M' hi ⟨ws, y4, rfl, ex, rfl, hwl, hw⟩
    have hi : i < high + 1 := hi
    have ei : (0 : Int) + ((high + 1 : Nat) : Int) - 1 + (i : Nat) * (-1) = ((high - i : Nat) : Int) := by omega
    have eg : (List.range (high + 1)).reverse[i]? = some (high - i) := by
      rw [rev_get (by rw [List.length_range]; exact hi), List.length_range, List.getElem?_range (by omega)]; congr 1
    show asg _ (.inl (.int ((0 : Int) + ((high + 1 : Nat) : Int) - 1 + (i : Nat) * (-1)))) _ _ _ _
    rw [ei]
    refine law_way_step (d := high - i) (sg := wayS false sh dr (List.range (high + 1)) ++ wayS true sh dr ((List.range (high + 1)).reverse.take i)) (b := true) rfl hw (by omega) fun G2 ws2 M2 ex2 hw2 wk => ?_
    refine ⟨G2, _, wk, ws2, _, rfl, ex.trans ex2, rfl, ?_, by rw [take_succ' eg, wayS_snoc, ← List.append_assoc]; exact hw2⟩
    rw [dpall_len hw2, List.length_map, List.length_append]
    have := dpall_len hw
    rw [List.length_map] at this
    show _ + 2 = _; omega
  · rintro σ G' M' ⟨ws, y4, rfl, ex, rfl, hwl, hw⟩
    have en : ∀ x, (srcC x (-1) (high + 1)).n = high + 1 := fun _ => rfl
    rw [en, List.take_of_length_le (by rw [List.length_reverse, List.length_range]; exact Nat.le_refl _)] at hw
    exact ⟨G', _, Wk.refl, ret0 (q f ws G' ex hw)⟩
def lastL (cells : List Nat) (t n c : Nat) : List Nat := (List.range n).filter fun k => decide (cells.getD k 0 / 2 ^ (2 * t) = c)
theorem drawOf_last (ts cells : List Nat) (t c : Nat) : ∀ n, drawOf ts cells t n c = if lastL cells t n c = [] then startT ts t + c else ts.sum + (lastL cells t n c).getLastD 0 * ts.length + t
  | 0 => rfl
  | n + 1 => by
    show (if cells.getD n 0 / 2 ^ (2 * t) = c then _ else drawOf ts cells t n c) = _
    have e : lastL cells t (n + 1) c = lastL cells t n c ++ if cells.getD n 0 / 2 ^ (2 * t) = c then [n] else [] := by
      unfold lastL
      rw [List.range_succ, List.filter_append]
      congr 1
      by_cases z : cells.getD n 0 / 2 ^ (2 * t) = c
      · rw [if_pos z, List.filter_cons_of_pos (p := fun k => decide (cells.getD k 0 / 2 ^ (2 * t) = c)) (decide_eq_true z)]; rfl
      · rw [if_neg z, List.filter_cons_of_neg (p := fun k => decide (cells.getD k 0 / 2 ^ (2 * t) = c)) (by rw [decide_eq_false z]; exact Bool.false_ne_true)]; rfl
    rw [e]
    by_cases z : cells.getD n 0 / 2 ^ (2 * t) = c
    · rw [if_pos z, if_pos z, if_neg (by simp)]; congr 2; simp
    · rw [if_neg z, if_neg z, List.append_nil]; exact drawOf_last ts cells t c n
theorem sum_nats (l : List Nat) : (l.map fun (n : Nat) => (n : Int)).sum = ((l.sum : Nat) : Int) := by
  induction l with
  | nil => rfl
  | cons x l ih => rw [List.map_cons, List.sum_cons, ih, List.sum_cons, Int.natCast_add]
theorem four_at {t : Nat} (h : t < 3) : atI [V.int 1, .int 4, .int 16] (t : Int) = some (.int ((2 ^ (2 * t) : Nat) : Int)) := by
  have e : t = 0 ∨ t = 1 ∨ t = 2 := by omega
  rcases e with rfl | rfl | rfl <;> rfl
theorem ask_cell {us : List V} {ds : List Deed} {a : Addr} {n : Nat} {σ : St} {i j : Nat} {E : KX} (hu : LstAt K G M a us) (hd : A2 (fun v d => DeedAt K G v d) us ds) (hn : n < ds.length) (h1 : σ[i]? = some (some (.ref a))) (h2 : σ[j]? = some (some (.int (n : Int))))
    (q : R (.int ((cellsD ds).getD n 0 : Nat)) G M) : kBin (kIx K) (kBin (kIx K) (kVar i) (kVar j)) (kC (.int 1)) σ G M R E := by
  obtain ⟨dd, hdd⟩ : ∃ dd, ds[n]? = some dd := ⟨_, List.getElem?_eq_getElem hn⟩
  obtain ⟨v, hv, T, rfl, hT⟩ := hd.get hdd
  obtain ⟨s1, a1⟩ := deed_1 (M := M) hT
  simp only [kBin, kVar, kC, h1, h2]
  refine ⟨us, .ref T, .inl hu, atI_nat hv, _, _, s1, a1, ?_⟩
  have ec : (cellsD ds).getD n 0 = dd.cell := by
    unfold cellsD
    rw [List.getD_eq_getElem?_getD, List.getElem?_map, hdd]; rfl
  rw [← ec]; exact q
theorem pf_law_due (h : S_law_due K vs G M R Z) : rd_law_due K (ends R Z) (sta 13 vs) G M := by
  obtain ⟨_, _, _, rfl, s, m, a, ds, rfl, hs, ⟨rfl, m0, m1⟩, rfl, hask, ⟨hok, hl60⟩, q⟩ := sp3_of h
  obtain ⟨us, hu, hd⟩ := id hask
  have hul : us.length = ds.length := hd.len
  refine ⟨G, M, Wk.refl, sz0, fun f ff => ?_⟩
  by_cases hsc : s = "scan"
  · subst hsc
    rw [if_pos rfl] at q
    refine ⟨G, _, Wk.refl, G, _, Wk.refl, us, lat_cons hu, fun i σ G' M' => ∃ (ws : List V) (y3 y4 : Option V), σ = [some (.str "scan"), some (.int m), some (.ref a), some (.ref f), y3, y4, none, none, none, none, none, none, none] ∧ Ex G G' ∧ M' = (f, .lst ws) :: M ∧ DpAll K G' ws ((scanS m (ds.take i)).map sgD), ⟨[], none, none, rfl, Ex.refl, rfl, .nil⟩, ?_, ?_, ?_⟩
    · rintro i σ G' M' _ ⟨ws, y3, y4, rfl, ex, rfl, _⟩; exact lat_cons (lat_ex ex hu)
    · rintro i σ G' M' hi ⟨ws, y3, y4, rfl, ex, rfl, hw⟩
      have hi : i < us.length := hi
      obtain ⟨dd, hdd⟩ : ∃ dd, ds[i]? = some dd := ⟨_, List.getElem?_eq_getElem (by omega)⟩
      have hwl : ws.length ≤ 3840 := by
        rw [dpall_len hw, List.length_map, scanS_len, List.length_take]
        have h1 : 2 * m * min i ds.length ≤ 64 * 60 := Nat.mul_le_mul (by omega) (by omega)
        omega
      refine asg_L (get_lt hi) ?_
      refine ⟨G', _, Wk.refl, ⟨by omega, by omega⟩, fun j σ G2 M2 => ∃ (ws2 : List V) (y3 y4 : Option V), σ = [some (.str "scan"), some (.int m), some (.ref a), some (.ref f), y3, y4, none, none, none, none, none, none, none] ∧ Ex G G2 ∧ M2 = (f, .lst ws2) :: M ∧ ws2.length = ws.length + 2 * j ∧ DpAll K G2 ws2 ((scanS m (ds.take i) ++ scanRow j).map sgD), ⟨ws, _, _, rfl, ex, rfl, rfl, by show DpAll K G' ws ((_ ++ []).map sgD); rw [List.append_nil]; exact hw⟩, fun _ _ _ _ _ _ => trivial, ?_, ?_⟩
      · rintro j σ G2 M2 hj ⟨ws2, y3, y4, rfl, ex2, rfl, hl2, hw2⟩
        have hj : j < (m : Int).toNat := hj
        refine asg_R (v := (j : Int)) (by omega) ?_
        refine ⟨G2, _, Wk.refl, tyl_n (n := 0) rfl, sz4, fun T1 f1 => ⟨sz4, fun T2 f2 => ⟨sz2, fun l fl => ?_⟩⟩⟩
        have x1 := Ex.new (o := .tup [.str "room", .str "look", .int 0, .int (j : Int)]) f1
        have x2 := Ex.new (o := .tup [.str "room", .str "lay", .int 0, .int (j : Int)]) f2
        refine ⟨1, ws2, [.ref T1, .ref T2], rfl, at_n (n := 0) rfl, sz (by show ws2.length + 2 ≤ _; omega), ?_⟩
        refine ⟨_, (f, .lst (ws2 ++ [.ref T1, .ref T2])) :: M, Wk.drop0, ws2 ++ [.ref T1, .ref T2], _, _, rfl, (ex2.trans x1).trans x2, rfl, by rw [List.length_append]; show ws2.length + 2 = _; omega, ?_⟩
        rw [scanRow_succ, ← List.append_assoc, List.map_append]
        exact dpall_app2 (ex_ds (x1.trans x2) _ hw2) (.cons (dp_sg (s := .room false 0 j) (ex_t x2 sqt_new)) (.cons (dp_sg (s := .room true 0 j) sqt_new) .nil))
      · rintro σ G2 M2 ⟨ws2, y3, y4, rfl, ex2, rfl, hl2, hw2⟩
        have en : (srcR 0 (m : Int).toNat).n = m := by show (m : Int).toNat = m; omega
        rw [en] at hw2
        refine ⟨G2, _, Wk.refl, ws2, _, _, rfl, ex2, rfl, ?_⟩
        have : scanS m (ds.take (i + 1)) = scanS m (ds.take i) ++ scanRow m := by
          rw [take_succ' hdd]; unfold scanS; rw [List.flatMap_append, List.flatMap_cons, List.flatMap_nil, List.append_nil]
        rw [this]; exact hw2
    · rintro σ G' M' ⟨ws, y3, y4, rfl, ex, rfl, hw⟩
      have en : (srcL K a us).n = ds.length := hul
      rw [en, List.take_length] at hw
      exact ⟨G', _, Wk.refl, ret0 (q f ws G' ex hw)⟩
  rw [if_neg hsc] at q
  obtain ⟨ts, hts⟩ : ∃ ts, ts = if s = "tree" then [m] else treesN m := ⟨_, rfl⟩
  have ets : (if s = "grove" then treesN m else [m]) = ts := by
    rw [hts]
    rcases hs with h | rfl | rfl
    · exact absurd h hsc
    · rw [if_neg (by decide), if_pos rfl]
    · rw [if_pos rfl, if_neg (by decide)]
  have ht : TreesOk ts m := by
    rw [hts]; split
    · exact treesOk_1 m0 m1
    · exact treesOk_N m (by omega) m0
  rw [← hts] at q
  have h3 := ht.len
  have hcl : (cellsD ds).length = ds.length := by unfold cellsD; rw [List.length_map]
  have hget : ∀ t, t < ts.length → ts[t]? = some (ts.getD t 0) := fun t h => by rw [getD_lt h, List.getElem?_eq_getElem h]
  have htok : ∀ t, t < ts.length → 1 ≤ ts.getD t 0 ∧ ts.getD t 0 ≤ 32 := fun t h => ht.ok _ (List.mem_of_getElem? (hget t h))
  refine ⟨G, _, Wk.refl, ite2' (c := decide (V.str s = .str "scan")) (fun e => absurd (V.str.inj (of_decide_eq_true e)) hsc) (fun _ => ?_)⟩
  refine ⟨G, _, Wk.refl, s, m, rfl, ⟨rfl, m0, m1⟩, fun tr G1 ex1 htr => ?_⟩
  rw [ets] at htr
  have hsum : ts.sum ≤ 96 := by
    have : ∀ l : List Nat, (∀ t, t ∈ l → t ≤ 32) → l.sum ≤ 32 * l.length := fun l => by
      induction l with
      | nil => intro _; exact Nat.le_refl _
      | cons x l ih =>
        intro h
        have := ih fun t ht => h t (List.mem_cons_of_mem _ ht)
        have := h x List.mem_cons_self
        rw [List.sum_cons, List.length_cons]; omega
    have := this ts fun t h => (ht.ok t h).2
    omega
  refine ⟨G1, _, Wk.refl, us, .inl (lat_cons (lat_ex ex1 hu)), ⟨by omega, by omega⟩, ?_⟩
  rw [Int.toNat_natCast]
  refine ⟨fun n σ G' M' => ∃ (ws : List V) (y7 y8 y9 y10 y11 : Option V), σ = [some (.str s), some (.int m), some (.ref a), some (.ref f), none, none, some (.ref tr), y7, y8, y9, y10, y11, none] ∧ Ex G1 G' ∧ M' = (f, .lst ws) :: M ∧ ws.length ≤ 100 * n ∧ DpAll K G' ws (((List.range n).flatMap (askSg ts (cellsD ds))).map sgD),
    ⟨[], none, none, none, none, none, rfl, Ex.refl, rfl, Nat.le_refl _, .nil⟩, fun _ _ _ _ _ _ => trivial, ?_, ?_⟩
  · rintro n σ G3 M' hn ⟨ws, y7, y8, y9, y10, y11, rfl, ex, rfl, hwl, hw⟩
    have hn : n < us.length := hn
    have hnd : n < ds.length := by omega
    refine asg_R (v := (n : Int)) (by omega) ?_
    refine ⟨G3, _, Wk.refl, natsV ts, lst_g (sql_of (ex _ _ htr)), ?_⟩
    have ek : ((ts.length : Int) - 0).toNat = ts.length := by omega
    show revR 0 ((natsV ts).length : Int) _ _ _
    rw [natsV_len]
    refine ⟨⟨by omega, by omega, by omega, by omega⟩, ?_⟩
    rw [ek]
    refine ⟨fun j σ G' M' => ∃ (ws : List V) (y8 y9 y10 y11 : Option V), σ = [some (.str s), some (.int m), some (.ref a), some (.ref f), none, none, some (.ref tr), some (.int n), y8, y9, y10, y11, none] ∧ Ex G1 G' ∧ M' = (f, .lst ws) :: M ∧ ws.length ≤ 100 * n + 28 * j ∧ DpAll K G' ws (((List.range n).flatMap (askSg ts (cellsD ds)) ++ ((List.range ts.length).reverse.take j).flatMap fun t => waySg t (drawOf ts (cellsD ds) t n ((cellsD ds).getD n 0 / 2 ^ (2 * t))) (highN (ts.getD t 0))).map sgD),
      ⟨ws, _, _, _, _, rfl, ex, rfl, by omega, by rw [List.take_zero]; show DpAll K G3 ws ((_ ++ []).map sgD); rw [List.append_nil]; exact hw⟩, fun _ _ _ _ _ _ => trivial, ?_, ?_⟩
    · rintro j σ G4 M' hj ⟨ws, y8, y9, y10, y11, rfl, ex4, rfl, hwl, hw⟩
      have hj : j < ts.length := hj
      obtain ⟨t, htj⟩ : ∃ t, t = ts.length - 1 - j := ⟨_, rfl⟩
      have htl : t < ts.length := by omega
      have et : (0 : Int) + ((ts.length : Nat) : Int) - 1 + (j : Nat) * (-1) = (t : Int) := by omega
      have eg : (List.range ts.length).reverse[j]? = some t := by
        rw [rev_get (by rw [List.length_range]; exact hj), List.length_range, List.getElem?_range (by omega), htj]
      obtain ⟨t0, t1⟩ := htok t htl
      show asg _ (.inl (.int ((0 : Int) + ((ts.length : Nat) : Int) - 1 + (j : Nat) * (-1)))) _ _ _ _
      rw [et]
      show rd_law_due_b3 K _ [some (.str s), some (.int m), some (.ref a), some (.ref f), none, none, some (.ref tr), some (.int n), some (.int (t : Int)), y9, y10, y11, none] G4 _
      obtain ⟨c, hc⟩ : ∃ c, c = (cellsD ds).getD n 0 / 2 ^ (2 * t) := ⟨_, rfl⟩
      have hu4 : ∀ {X : Mem}, LstAt K G4 (X ++ M) a us := lat_app (lat_ex (ex1.trans ex4) hu)
      have hd4 : A2 (fun v d => DeedAt K G4 v d) us ds := A2.mono (fun _ _ q => q.ex (ex1.trans ex4)) hd
      have p0 : 0 < 2 ^ (2 * t) := Nat.pos_of_ne_zero (by simp)
      have pt : 2 ^ (2 * t) ≤ 16 := by
        have : 2 ^ (2 * t) ≤ 2 ^ 4 := Nat.pow_le_pow_right (by decide) (by omega)
        exact this
      have ediv : ∀ x : Nat, (x : Int) / ((2 ^ (2 * t) : Nat) : Int) = ((x / 2 ^ (2 * t) : Nat) : Int) := fun x => by rw [Int.natCast_ediv]
      refine ⟨G4, _, Wk.refl, ask_cell (i := 2) (j := 7) (hu4 (X := [_])) hd4 hnd rfl rfl ?_⟩
      refine ⟨sz3, fun l1 fl1 => ⟨_, _, lst_n (n := 0) rfl, four_at (by omega), divW (by omega) (by omega) _, ?_⟩⟩
      show rd_law_due_b3_1 K _ [some (.str s), some (.int m), some (.ref a), some (.ref f), none, none, some (.ref tr), some (.int n), some (.int (t : Int)), some (.int (((cellsD ds).getD n 0 : Nat) / ((2 ^ (2 * t) : Nat) : Int))), y10, y11, none] G4 _
      rw [ediv, ← hc]
      -- the asks ahead for the same cell
      refine ⟨G4, (f, .lst ws) :: M, Wk.drop0, ⟨by omega, by omega⟩, ?_⟩
      rw [Int.toNat_natCast]
      refine ⟨sz (by show n ≤ _; omega), fun i acc G' M' => G' = G4 ∧ M' = (f, .lst ws) :: M ∧ acc = natsV (lastL (cellsD ds) t i c), ⟨rfl, rfl, rfl⟩, fun _ _ _ _ _ _ => trivial, ?_, ?_⟩
      · rintro i acc G' M' D hi _ ⟨rfl, rfl, rfl⟩ fD
        have hi : i < n := hi
        refine asg_R (v := (i : Int)) (by omega) ⟨rfl, ?_⟩
        refine ask_cell (σ := [some (.str s), some (.int m), some (.ref a), some (.ref f), none, none, some (.ref tr), some (.int n), some (.int (t : Int)), some (.int (c : Int)), y10, y11, some (.int (i : Int))]) (n := i) (i := 2) (j := 12) (hu4 (X := [_, _])) hd4 (by omega) rfl rfl ?_
        refine ⟨sz3, fun l2 fl2 => ⟨_, _, lst_n (n := 0) rfl, four_at (by omega), divW (by omega) (by omega) _, ?_⟩⟩
        have el : lastL (cellsD ds) t (i + 1) c = lastL (cellsD ds) t i c ++ if (cellsD ds).getD i 0 / 2 ^ (2 * t) = c then [i] else [] := by
          unfold lastL
          rw [List.range_succ, List.filter_append]
          congr 1
          by_cases z : (cellsD ds).getD i 0 / 2 ^ (2 * t) = c
          · rw [if_pos z, List.filter_cons_of_pos (p := fun k => decide ((cellsD ds).getD k 0 / 2 ^ (2 * t) = c)) (decide_eq_true z)]; rfl
          · rw [if_neg z, List.filter_cons_of_neg (p := fun k => decide ((cellsD ds).getD k 0 / 2 ^ (2 * t) = c)) (by rw [decide_eq_false z]; exact Bool.false_ne_true)]; rfl
        refine ite2' (c := decide (V.int ((((cellsD ds).getD i 0 : Nat) : Int) / ((2 ^ (2 * t) : Nat) : Int)) = .int (c : Int))) (fun e => ?_) (fun e => ?_)
        · have e := V.int.inj (of_decide_eq_true e)
          rw [ediv] at e
          have e : (cellsD ds).getD i 0 / 2 ^ (2 * t) = c := by omega
          refine ⟨_, _, Wk.drop0, rfl, rfl, ?_⟩
          rw [el, if_pos e, natsV_app2]; rfl
        · have e : ¬ (cellsD ds).getD i 0 / 2 ^ (2 * t) = c := fun z => (of_decide_eq_false e) (by rw [ediv, z])
          refine ⟨_, _, Wk.drop0, rfl, rfl, ?_⟩
          rw [el, if_neg e, List.append_nil]
      rintro acc G' M' la ⟨rfl, rfl, rfl⟩ _ fla
      have eln : ∀ lo, (srcR lo n).n = n := fun _ => rfl
      rw [eln]
      have hts4 : G' tr = some (.lst (natsV ts)) := ex4 _ _ htr
      refine ⟨G', _, Wk.refl, natsV ts, .inr (sql_of hts4), fun p2 fp2 => ⟨(ts.take t).map fun (x : Nat) => (x : Int), ?_, ?_⟩⟩
      · rw [cut_take, natsV_take, natsV_ints]; exact lat_0
      rw [sum_nats]
      show rd_law_due_b3_3 K _ [some (.str s), some (.int m), some (.ref a), some (.ref f), none, none, some (.ref tr), some (.int n), some (.int (t : Int)), some (.int (c : Int)), some (.ref la), some (.int (((ts.take t).sum : Nat) + (c : Int))), none] G' _
      have edr := drawOf_last ts (cellsD ds) t c n
      -- the signs of the way
      have fin : ∀ (D : Kd) (dr : Nat), dr = drawOf ts (cellsD ds) t n c → D.nx = wk1 (fun σ G' M' => ∃ (ws : List V) (y8 y9 y10 y11 : Option V), σ = [some (.str s), some (.int m), some (.ref a), some (.ref f), none, none, some (.ref tr), some (.int n), y8, y9, y10, y11, none] ∧ Ex G1 G' ∧ M' = (f, .lst ws) :: M ∧ ws.length ≤ 100 * n + 28 * (j + 1) ∧ DpAll K G' ws (((List.range n).flatMap (askSg ts (cellsD ds)) ++ ((List.range ts.length).reverse.take (j + 1)).flatMap fun t => waySg t (drawOf ts (cellsD ds) t n ((cellsD ds).getD n 0 / 2 ^ (2 * t))) (highN (ts.getD t 0))).map sgD)) →
          rd_law_due_b3_4 K D [some (.str s), some (.int m), some (.ref a), some (.ref f), none, none, some (.ref tr), some (.int n), some (.int (t : Int)), some (.int (c : Int)), some (.ref la), some (.int (dr : Int)), none] G' ((f, .lst ws) :: M) := by
        intro D dr hdr hD
        refine ⟨G', _, Wk.refl, tyl_n (n := 0) rfl, by decide, sz (by show 6 ≤ _; decide), fun i acc G2 M2 => G2 = G' ∧ M2 = (f, .lst ws) :: M ∧ acc = natsV ((List.range i).filter fun k => decide (2 ^ k < ts.getD t 0)), ⟨rfl, rfl, rfl⟩, fun _ _ _ _ _ _ => trivial, ?_, ?_⟩
        · rintro i acc G2 M2 D2 hi _ ⟨rfl, rfl, rfl⟩ fD
          have hi : i < 6 := hi
          refine asg_R (v := (i : Int)) (by omega) ⟨rfl, ⟨by omega, by omega, by decide⟩, _, _, lst_g (sql_of hts4), atI_natD htl, ?_⟩
          have e2 : (1 : Int) * 2 ^ (i : Int).toNat = ((2 ^ i : Nat) : Int) := by rw [Int.toNat_natCast, Int.one_mul]; norm_cast
          have el : ((List.range (i + 1)).filter fun k => decide (2 ^ k < ts.getD t 0)) = ((List.range i).filter fun k => decide (2 ^ k < ts.getD t 0)) ++ if 2 ^ i < ts.getD t 0 then [i] else [] := by
            rw [List.range_succ, List.filter_append]
            congr 1
            by_cases z : 2 ^ i < ts.getD t 0
            · rw [if_pos z, List.filter_cons_of_pos (p := fun k => decide (2 ^ k < ts.getD t 0)) (decide_eq_true z)]; rfl
            · rw [if_neg z, List.filter_cons_of_neg (p := fun k => decide (2 ^ k < ts.getD t 0)) (by rw [decide_eq_false z]; exact Bool.false_ne_true)]; rfl
          refine ite2' (c := decide ((1 : Int) * 2 ^ (i : Int).toNat < ((ts.getD t 0 : Nat) : Int))) (fun e => ?_) (fun e => ?_)
          · have e := of_decide_eq_true e
            rw [e2] at e
            have e : 2 ^ i < ts.getD t 0 := by omega
            exact ⟨_, _, Wk.refl, rfl, rfl, by rw [el, if_pos e, natsV_app2]; rfl⟩
          · have e := of_decide_eq_false e
            rw [e2] at e
            have e : ¬ 2 ^ i < ts.getD t 0 := by omega
            exact ⟨_, _, Wk.refl, rfl, rfl, by rw [el, if_neg e, List.append_nil]⟩
        · rintro acc G2 M2 pp ⟨rfl, rfl, rfl⟩ _ fpp
          have e6 : ∀ lo, (srcR lo (6 : Int).toNat).n = 6 := fun _ => rfl
          refine ⟨_, lst_n (n := 0) rfl, ?_⟩
          rw [natsV_len, e6]
          have eh : ((List.range 6).filter fun k => decide (2 ^ k < ts.getD t 0)).length = highN (ts.getD t 0) := rfl
          rw [eh]
          have h5 := high_le (ts.getD t 0) (by omega)
          refine ⟨t, dr, highN (ts.getD t 0), rfl, rfl, rfl, by omega, fun w wv G5 ex5 hwv => ?_⟩
          have hwl2 : wv.length ≤ 24 := by rw [dpall_len hwv, List.length_map, waySg_len]; omega
          refine ⟨2, ws, wv, rfl, at_n (n := 0) rfl, sz (by omega), ?_⟩
          show D.nx _ _ _
          rw [hD]
          refine ⟨G5, (f, .lst (ws ++ wv)) :: M, Wk.dropP [_, _], ws ++ wv, _, _, _, _, rfl, ex4.trans ex5, rfl, by rw [List.length_append]; omega, ?_⟩
          rw [askSg_part eg, ← List.append_assoc, List.map_append]
          refine dpall_app2 (ex_ds ex5 _ hw) ?_
          rw [← hc, ← hdr]; exact hwv
      have hll : (lastL (cellsD ds) t n c).length ≤ 60 := by
        unfold lastL
        have := List.length_filter_le (fun k => decide ((cellsD ds).getD k 0 / 2 ^ (2 * t) = c)) (List.range n)
        rw [List.length_range] at this
        omega
      refine ⟨G', (la, .lst (natsV (lastL (cellsD ds) t n c))) :: (f, .lst ws) :: M, Wk.drop0, sz0, fun e0 fe0 => ?_⟩
      refine ⟨_, _, dat_nats (lat_cons lat_0), dat_list lat_0 dats_nil, (shp_nats (n := 0) _).shaped (by decide), (Shp.list (n := 0) (ds := []) fun _ z => (nomatch z)).shaped (by decide), ?_⟩
      rw [if_pos rfl, eqvL_nil]
      by_cases hlast : lastL (cellsD ds) t n c = []
      · rw [if_pos hlast] at edr
        rw [hlast]
        have ed : (((ts.take t).sum : Nat) : Int) + (c : Int) = ((startT ts t + c : Nat) : Int) := by rw [Int.natCast_add]; rfl
        show rd_law_due_b3_4 K _ [some (.str s), some (.int m), some (.ref a), some (.ref f), none, none, some (.ref tr), some (.int n), some (.int (t : Int)), some (.int (c : Int)), some (.ref la), some (.int (((ts.take t).sum : Nat) + (c : Int))), none] G' _
        rw [ed]
        exact kseq_wk (Wk.dropP [_, _]) (fin _ _ edr.symm rfl)
      · rw [if_neg hlast] at edr
        have hne : (natsD (lastL (cellsD ds) t n c)).isEmpty = false := by
          cases h : lastL (cellsD ds) t n c with
          | nil => exact absurd h hlast
          | cons x l => rfl
        rw [hne]
        refine ⟨G', (la, .lst (natsV (lastL (cellsD ds) t n c))) :: (f, .lst ws) :: M, Wk.drop0, ts.map fun (x : Nat) => (x : Int), by rw [natsV_ints]; exact .inr (sql_of hts4), ?_⟩
        rw [sum_nats]
        obtain ⟨l0, k0, el0⟩ : ∃ l0 k0, lastL (cellsD ds) t n c = l0 ++ [k0] := ⟨_, _, (List.dropLast_concat_getLast hlast).symm⟩
        have ek0 : (lastL (cellsD ds) t n c).getLastD 0 = k0 := by rw [el0]; simp
        have hk0 : k0 < n := by
          have : k0 ∈ lastL (cellsD ds) t n c := by rw [el0]; simp
          exact List.mem_range.mp (List.mem_filter.mp this).1
        refine ⟨_, .int (k0 : Int), lst_n (n := 0) rfl, by rw [el0]; exact atI_last, natsV ts, lst_g (sql_of hts4), ?_⟩
        rw [natsV_len]
        refine ⟨mul_l (by omega) (by omega), ?_⟩
        rw [ek0] at edr
        have ed : ((ts.sum : Nat) : Int) + (k0 : Int) * (ts.length : Int) + (t : Int) = ((ts.sum + k0 * ts.length + t : Nat) : Int) := by push_cast; rfl
        show rd_law_due_b3_4 K _ [some (.str s), some (.int m), some (.ref a), some (.ref f), none, none, some (.ref tr), some (.int n), some (.int (t : Int)), some (.int (c : Int)), some (.ref la), some (.int (((ts.sum : Nat) : Int) + (k0 : Int) * (ts.length : Int) + (t : Int))), none] G' _
        rw [ed]
        exact kseq_wk Wk.drop0 (fin _ _ edr.symm rfl)
    · rintro σ G4 M' ⟨ws, y8, y9, y10, y11, rfl, ex4, rfl, hwl, hw⟩
      have en : ∀ x, (srcC x (-1) ts.length).n = ts.length := fun _ => rfl
      rw [en] at hwl hw
      rw [List.take_of_length_le (by rw [List.length_reverse, List.length_range]; exact Nat.le_refl _)] at hw
      refine ⟨G4, _, Wk.refl, ws, _, _, _, _, _, rfl, ex4, rfl, by omega, ?_⟩
      rw [List.range_succ, List.flatMap_append, List.flatMap_cons, List.flatMap_nil, List.append_nil]; exact hw
  · rintro σ G3 M' ⟨ws, y7, y8, y9, y10, y11, rfl, ex, rfl, hwl, hw⟩
    have en : ∀ lo, (srcR lo us.length).n = (cellsD ds).length := fun _ => by rw [hcl]; exact hul
    rw [en] at hw
    exact ⟨G3, _, Wk.refl, ret0 (q f ws G3 (ex1.trans ex) hw)⟩
theorem sg_ints (s : Sg) : ∀ x, x ∈ s.vs.drop 2 → ∃ i, x = .int i := by
  cases s with
  | room b s r =>
    intro x hx
    have hx : x ∈ [V.int (s : Int), .int (r : Int)] := hx
    simp only [List.mem_cons, List.not_mem_nil, or_false] at hx
    rcases hx with rfl | rfl <;> exact ⟨_, rfl⟩
  | item b s d i =>
    intro x hx
    have hx : x ∈ [V.int (s : Int), .int (d : Int), .int (i : Int)] := hx
    simp only [List.mem_cons, List.not_mem_nil, or_false] at hx
    rcases hx with rfl | rfl | rfl <;> exact ⟨_, rfl⟩
  | way b s d p e =>
    intro x hx
    have hx : x ∈ [V.int (s : Int), .int (d : Int), .int (p : Int), .int (e : Int)] := hx
    simp only [List.mem_cons, List.not_mem_nil, or_false] at hx
    rcases hx with rfl | rfl | rfl | rfl <;> exact ⟨_, rfl⟩
theorem sg_len (s : Sg) : 4 ≤ s.vs.length ∧ s.vs.length ≤ 6 := by cases s <;> exact ⟨Nat.le_of_ble_eq_true rfl, Nat.le_of_ble_eq_true rfl⟩
theorem pf_law_is (h : S_law_is K vs G M R Z) : rd_law_is K (ends R Z) (sta 4 vs) G M := by
  obtain ⟨_, _, rfl, a, b, us, ws, sg, rfl, rfl, ha, hb, hu, hw, hl, q⟩ := sp2_of h
  have hul : us.length = sg.length := by rw [dpall_len hu, List.length_map]
  refine ⟨G, M, Wk.refl, .type PT.list.name, .type "list", _, .ty "list", ty_lst ha, kit_pt .list .list, ?_⟩
  refine eq_ref (neg := true) (dat_list ha (dats_g hu)) (dat_list hb (dats_g hw)) (shp_sgs sg) (by decide) ?_
  refine ⟨G, M, Wk.refl, us, ha, fun i σ G' M' => ∃ y2 : Option V, σ = [some (.ref a), some (.ref b), y2, none] ∧ Ex G G' ∧ M' = M, ⟨none, rfl, Ex.refl, rfl⟩, ?_, ?_, ?_⟩
  · rintro i σ G' M' _ ⟨y2, rfl, ex, rfl⟩; exact lat_ex ex ha
  · rintro i σ G' M' hi ⟨y2, rfl, ex, rfl⟩
    have hi : i < us.length := hi
    obtain ⟨s, hs⟩ : ∃ s, sg[i]? = some s := ⟨_, List.getElem?_eq_getElem (by omega)⟩
    obtain ⟨v, hv, hdv⟩ := dpall_get (d := sgD s) hu (by rw [List.getElem?_map, hs]; rfl)
    obtain ⟨T, rfl, hT⟩ := sg_inv hdv
    have hT := ex_t ex hT
    obtain ⟨l4, l6⟩ := sg_len s
    refine asg_L hv ⟨G', M', Wk.refl, .type PT.tuple.name, .type "tuple", _, .ty "tuple", ty_tup hT, kit_pt .tuple .tuple, ?_⟩
    refine ⟨s.vs, hT, fun z => ?_, fun _ p fp => ?_⟩
    · have e := HT.sIx_nat s.vs.length 0 2
      have z := z.1
      rw [show (some (2 : Int)) = some ((2 : Nat) : Int) from rfl] at z
      rw [HT.sIx_nat] at z
      omega
    have x1 := Ex.new (o := .tup (cutV s.vs (some 2) none)) fp
    have ecut : cutV s.vs (some 2) none = s.vs.drop 2 := cut_drop
    refine ⟨cutV s.vs (some 2) none, sqt_new, sz (by show (cutV s.vs (some 2) none).length ≤ _; rw [ecut, List.length_drop]; omega), fun j acc G2 M2 => G2 = upd G' p (.tup (cutV s.vs (some 2) none)) ∧ M2 = M' ∧ acc = (List.replicate j true).map V.bl, ⟨rfl, rfl, rfl⟩, ?_, ?_, ?_⟩
    · rintro j acc G2 M2 _ ⟨rfl, rfl, rfl⟩; exact sqt_new
    · rintro j acc G2 M2 D hj _ ⟨rfl, rfl, rfl⟩ fD
      have hj : j < (cutV s.vs (some 2) none).length := hj
      obtain ⟨v, hv⟩ : ∃ v, (cutV s.vs (some 2) none)[j]? = some v := ⟨_, List.getElem?_eq_getElem hj⟩
      obtain ⟨n, rfl⟩ := sg_ints s v (by rw [← ecut]; exact List.mem_of_getElem? hv)
      refine asg_T hv ⟨rfl, .int, ty_int, _, _, Wk.refl, rfl, rfl, ?_⟩
      rw [List.replicate_succ', List.map_append]; rfl
    · rintro acc G2 M2 p2 ⟨rfl, rfl, rfl⟩ _ fp2
      refine ⟨_, lat_0, ?_⟩
      have et : ∀ n, (List.replicate n true).all id = true := fun n => by
        induction n with
        | zero => rfl
        | succ n ih => rw [List.replicate_succ, List.all_cons, ih]; rfl
      rw [et]
      exact ⟨_, _, Wk.drop0, _, rfl, ex.trans x1, rfl⟩
  · rintro σ G' M' ⟨y2, rfl, ex, rfl⟩
    exact ⟨_, _, Wk.refl, ret0 (q G' ex)⟩
def sigK (s : Str) (m : Nat) (ds : List Deed) : List Sg := if s = "scan" then scanS m ds else groveS (if s = "tree" then [m] else treesN m) (cellsD ds)
theorem flat_le {α β : Type} {g : α → List β} {k : Nat} : ∀ {l : List α}, (∀ x, x ∈ l → (g x).length ≤ k) → (l.flatMap g).length ≤ k * l.length
  | [], _ => Nat.zero_le _
  | x :: l, h => by
    have h1 := h x List.mem_cons_self
    have h2 := flat_le (l := l) fun y hy => h y (List.mem_cons_of_mem _ hy)
    rw [List.flatMap_cons, List.length_append, List.length_cons, Nat.mul_succ]; omega
theorem groveS_len {ts cells : List Nat} {m : Nat} (ht : TreesOk ts m) : (groveS ts cells).length ≤ 84 * cells.length := by
  have h1 : (groveS ts cells).length ≤ 84 * (List.range cells.length).length := flat_le fun n _ => by
    have h2 : (askSg ts cells n).length ≤ 28 * (List.range ts.length).reverse.length := flat_le fun t h => by
      have htl : t < ts.length := List.mem_range.mp (List.mem_reverse.mp h)
      have := (ht.ok _ (List.mem_of_getElem? (i := t) (by rw [List.getElem?_eq_getElem htl, getD_lt htl] : ts[t]? = some (ts.getD t 0)))).2
      have := high_le (ts.getD t 0) (by omega)
      rw [waySg_len]; omega
    rw [List.length_reverse, List.length_range] at h2
    have := ht.len
    omega
  rw [List.length_range] at h1
  exact h1
theorem sigK_len {s : Str} {m : Nat} {ds : List Deed} (m0 : 1 ≤ m) (m1 : m ≤ 32) (h : ds.length ≤ 60) : (sigK s m ds).length ≤ 10000 := by
  unfold sigK
  have hc : (cellsD ds).length = ds.length := by unfold cellsD; rw [List.length_map]
  split
  · rw [scanS_len]
    have : 2 * m * ds.length ≤ 64 * 60 := Nat.mul_le_mul (by omega) h
    omega
  · split
    · have := groveS_len (cells := cellsD ds) (treesOk_1 m0 m1); omega
    · have := groveS_len (cells := cellsD ds) (treesOk_N m (by omega) m0); omega
theorem pf_law (h : S_law K vs G M R Z) : rd_law K (ends R Z) (sta 10 vs) G M := by
  obtain ⟨_, rfl, a, ns, rfl, hS, hl, q⟩ := sp1_of h
  clear h
  refine ⟨G, [], Wk.nil', _, lst_g hS, ⟨by omega, by omega⟩, fun k σ G' M' => ∃ y2 y3 y4 y5 y6 y7 y8 y1 : Option V, σ = [some (.ref a), y1, y2, y3, y4, y5, y6, y7, y8, none] ∧ Ex G G' ∧ M' = [], ⟨_, _, _, _, _, _, _, _, rfl, Ex.refl, rfl⟩, fun _ _ _ _ _ _ => trivial, ?_, ?_⟩
  · rintro k σ G0 M0 hk ⟨y2, y3, y4, y5, y6, y7, y8, y1, rfl, ex0, rfl⟩
    have hk : k < (max (1 : Int) (min ((ns.map V.int).length : Int) 10)).toNat := hk
    have hS0 := ex_l ex0 hS
    refine asg_R (v := (k : Int)) (by omega) ?_
    refine ⟨G0, [], Wk.refl, a, ns, k, rfl, rfl, hS0, by omega, by omega, hl, fun p c s fp hs => ?_⟩
    refine ⟨G0, _, Wk.refl, p, 0, c, s, rfl, rfl, hs, fun m c1 s1 m0 m1 hs1 => ?_⟩
    -- how many asks
    refine ⟨G0, [(p, pool c1 s1)], Wk.refl, sz2, fun d0 fd0 => ?_⟩
    obtain ⟨y, hy, hym⟩ := at_mem (l := [V.int 61, .int 13]) (r := if decide ((1 : Int) < (m : Int)) = true then 1 else 0) (by split <;> decide) (by split <;> decide)
    refine ⟨_, y, lst_n (n := 0) rfl, hy, ?_⟩
    obtain ⟨z, rfl, z0, z1⟩ : ∃ z : Int, y = .int z ∧ 1 ≤ z ∧ z ≤ 61 := by
      simp only [List.mem_cons, List.not_mem_nil, or_false] at hym
      rcases hym with rfl | rfl <;> exact ⟨_, rfl, by decide, by decide⟩
    refine ⟨p, z, 1, c1, s1, rfl, rfl, rfl, hs1, by omega, by omega, fun r c2 s2 r0 r1 hs2 => ⟨⟨by omega, by omega⟩, ?_⟩⟩
    obtain ⟨n, rfl⟩ := Int.eq_ofNat_of_zero_le r0
    rw [Int.toNat_natCast]
    refine ⟨sz (by show n ≤ _; omega), fun i acc G' M' => ∃ (ds : List Deed) (c s : Int), Ex G0 G' ∧ M' = [(d0, .lst [.int 61, .int 13]), (p, pool c s)] ∧ PoolOk s ∧ A2 (fun v d => DeedAt K G' v d) acc ds ∧ ds.length = i ∧ ∀ d, d ∈ ds → DeedOk m d, ⟨[], c2, s2, Ex.refl, rfl, hs2, .nil, rfl, fun _ z => (nomatch z)⟩, fun _ _ _ _ _ _ => trivial, ?_, ?_⟩
    · rintro i acc G' M' D hi _ ⟨ds, c, s, ex, rfl, hs, ha, hdl, hok⟩ fD
      refine asg_R (v := (i : Int)) (by omega) ⟨rfl, p, 2, c, s, m, rfl, rfl, rfl, hs, m0, m1, fun T dd c' s' G5 ex5 hT hdd hs' => ?_⟩
      refine ⟨G5, _, Wk.refl, ds ++ [dd], c', s', ex.trans ex5, rfl, hs', (A2.mono (fun _ _ q => q.ex ex5) ha).app (.cons ⟨T, rfl, hT⟩ .nil), by rw [List.length_append, hdl]; rfl, fun d hd => ?_⟩
      rcases List.mem_append.mp hd with hd | hd
      · exact hok d hd
      · have : d = dd := by simpa using hd
        subst this; exact hdd
    rintro acc G1 M1 aa ⟨ds, c3, s3, ex1, rfl, hs3, ha, hdl, hok⟩ _ faa
    have hdl : ds.length = n := hdl
    have hds : DsOk m ds := ⟨hok, by omega⟩
    obtain ⟨G2, hG2⟩ : ∃ G2, G2 = upd G1 aa (.lst acc) := ⟨_, rfl⟩
    have ex2 : Ex G1 G2 := by rw [hG2]; exact Ex.new faa
    have haa : SqL K G2 aa acc := by rw [hG2]; exact sql_new
    have ha2 := A2.mono (r' := fun v d => DeedAt K G2 v d) (fun _ _ q => q.ex ex2) ha
    have hal : acc.length = ds.length := ha.len
    refine ⟨G2, [], by rw [hG2]; exact Wk.frz0.trans Wk.nil', sz3, fun w fw => ?_⟩
    refine ⟨_, lat_0, upd G2 w (.lst [.str "scan", .str "tree", .str "grove"]), [], Wk.frz0, ?_⟩
    have ex3 := Ex.new (o := .lst [.str "scan", .str "tree", .str "grove"]) fw
    obtain ⟨G3, hG3⟩ : ∃ G3, G3 = upd G2 w (.lst [.str "scan", .str "tree", .str "grove"]) := ⟨_, rfl⟩
    rw [← hG3] at ex3 ⊢
    have hw : SqL K G3 w [.str "scan", .str "tree", .str "grove"] := by rw [hG3]; exact sql_new
    refine ⟨fun j σ G' M' => ∃ y5 y6 y7 y8 : Option V, σ = [some (.ref a), some (.int (k : Int)), some (.ref p), some (.int m), some (.ref aa), y5, y6, y7, y8, none] ∧ Ex G3 G' ∧ M' = [], ⟨_, _, _, _, rfl, Ex.refl, rfl⟩, ?_, ?_, ?_⟩
    · rintro j σ G' M' _ ⟨y5, y6, y7, y8, rfl, ex, rfl⟩; exact .inr (ex_l ex hw)
    · rintro j σ G4 M' hj ⟨y5, y6, y7, y8, rfl, ex4, rfl⟩
      have hj : j < 3 := hj
      obtain ⟨s, hsv, hs⟩ : ∃ s : Str, [V.str "scan", .str "tree", .str "grove"][j]? = some (.str s) ∧ (s = "scan" ∨ s = "tree" ∨ s = "grove") := by
        have e : j = 0 ∨ j = 1 ∨ j = 2 := by omega
        rcases e with rfl | rfl | rfl
        · exact ⟨"scan", rfl, .inl rfl⟩
        · exact ⟨"tree", rfl, .inr (.inl rfl)⟩
        · exact ⟨"grove", rfl, .inr (.inr rfl)⟩
      refine asg_L hsv ?_
      have ex24 := ex3.trans ex4
      have haa4 := ex_l ex24 haa
      have ha4 := A2.mono (r' := fun v d => DeedAt K G4 v d) (fun _ _ q => q.ex ex24) ha2
      have hlen := sigK_len (s := s) (ds := ds) m0 m1 hds.2
      refine ⟨G4, [], Wk.refl, acc, lst_g haa4, fun h fh => ?_⟩
      refine ⟨G4, _, Wk.refl, s, m, aa, ds, rfl, hs, ⟨rfl, m0, m1⟩, rfl, ⟨acc, .inr haa4, ha4⟩, hds, fun du uu G5 ex5 hdu => ?_⟩
      have ha5 := A2.mono (r' := fun v d => DeedAt K G5 v d) (fun _ _ q => q.ex ex5) ha4
      refine ⟨G5, _, Wk.refl, s, m, h, ds, rfl, hs, ⟨rfl, m0, m1⟩, rfl, ⟨acc, lat_cons lat_0, ha5⟩, hds, fun fo uf G6 ex6 hfo => ?_⟩
      have hdu6 := ex_ds ex6 _ hdu
      refine ⟨G6, _, Wk.refl, fo, du, uf, uu, sigK s m ds, rfl, rfl, lat_0, lat_cons lat_0, hfo, hdu6, by omega, fun G7 ex7 => ?_⟩
      have ex47 := (ex5.trans ex6).trans ex7
      refine eq_ref (neg := true) (d := .list (ds.map deedD)) (dat_list (lat_cons (lat_cons lat_0)) (dats_g (ex_ds ex47 _ (dp_deeds ha4)))) (dat_list (.inr (ex_l ex47 haa4)) (dats_g (ex_ds ex47 _ (dp_deeds ha4)))) (shp_deeds ds) (by decide) ?_
      have hufl : uf.length ≤ 10000 := by rw [dpall_len hfo, List.length_map]; exact hlen
      refine ⟨G7, _, Wk.refl, tyl_n (n := 0) rfl, sz4, fun T fT => ⟨0, uf, rfl, Nat.lt_of_le_of_lt hufl (by decide), ?_⟩⟩
      have x8 := Ex.new (o := .tup [.str "room", .str "look", .int 0, .int 0]) fT
      refine ⟨_, _, Wk.drop0, s, m, h, ds, rfl, hs, ⟨rfl, m0, m1⟩, rfl, ⟨acc, lat_cons lat_0, A2.mono (fun _ _ q => q.ex (((ex5.trans ex6).trans ex7).trans x8)) ha4⟩, hds, fun f2 u2 G9 ex9 hf2 => ?_⟩
      refine eq_ref (neg := true) (d := .list ((sigK s m ds).map sgD)) (dat_list lat_0 (dats_g hf2)) (dat_list (lat_cons lat_0) (dats_g (ex_ds ((ex7.trans x8).trans ex9) _ hdu6))) (shp_sgs _) (by decide) ?_
      exact ⟨G9, [], Wk.nil', _, _, _, _, rfl, (((ex4.trans ex47).trans x8).trans ex9), rfl⟩
    · rintro σ G' M' ⟨y5, y6, y7, y8, rfl, ex, rfl⟩
      exact ⟨G', [], Wk.refl, _, _, _, _, _, _, _, _, rfl, (((ex0.trans ex1).trans ex2).trans ex3).trans ex, rfl⟩
  · rintro σ G' M' ⟨y2, y3, y4, y5, y6, y7, y8, y1, rfl, ex, rfl⟩
    exact ⟨_, _, Wk.refl, ret0 (q _ _)⟩
end
def topS (i : Nat) : Stmt := PySem.Challenge.pw_blindtouch_k45_signs_of_trees.main.body.getD i (.Pass ⟨0, 0, 0, 0⟩)
structure Bs (mg : Str → Option Value) : Prop where
  all : mg "all" = none
  bool : mg "bool" = none
  enumerate : mg "enumerate" = none
  int : mg "int" = none
  isinstance : mg "isinstance" = none
  len : mg "len" = none
  list : mg "list" = none
  max : mg "max" = none
  min : mg "min" = none
  range : mg "range" = none
  reversed : mg "reversed" = none
  str : mg "str" = none
  sum : mg "sum" = none
  tuple : mg "tuple" = none
  zip : mg "zip" = none
structure Cs (K : PySem.W.Frag) (mg : Str → Option Value) : Prop where
  g_NoAsk : XG K mg "NoAsk"
  g_NoSize : XG K mg "NoSize"
  g_NoWay : XG K mg "NoWay"
  r_NoAsk : XR K "NoAsk"
  r_NoSize : XR K "NoSize"
  r_NoWay : XR K "NoWay"
  k_MOST_CELLS : ∃ u, mg "MOST_CELLS" = some u ∧ RelV (.int 32) u
  k_TABLE : ∃ u, mg "TABLE" = some u ∧ RelV (.int 4) u
  k_GREATEST : ∃ u, mg "GREATEST" = some u ∧ RelV (.int 999999999999999999) u
  k_WAYS : XT K mg "WAYS" con_WAYS
  k_SIDES : XT K mg "SIDES" con_SIDES
  k_MOST_ASKS : ∃ u, mg "MOST_ASKS" = some u ∧ RelV (.int 60) u
  o_Climb : CK K 9
abbrev s_law_pool : Stmt := topS 48
abbrev N_law_pool : List Str := ["_law_script", "_law_k", "_law_cell", "_law_seed"]
theorem sc_law_pool : FnScope N_law_pool ["_law_script", "_law_k"] (defScope s_law_pool) := ⟨rfl, rfl, rfl, by decide +kernel, rfl, by decide +kernel, by decide +kernel⟩
theorem fo_law_pool {P : Program} {w : World} {K : PySem.W.Frag} {mg : Str → Option Value} {base : Heap} {f : Addr} {fd : FuncData} (B : Bs mg) (C : Cs K mg) (F : Fun K "_law_pool" "_law_pool" s_law_pool f fd)  :
    FnOk P w K mg base (L2.CX P w) 1 f fd ["_law_script", "_law_k"] (lift (S_law_pool K)) := by
  refine fn_ok F sc_law_pool (fun vs G M R Z h => sp_len2 h) (fun cdv A outer s H E hr => ?_)
  have nd : N_law_pool.Nodup := sc_law_pool.nd
  have hu : _ + 64 < cLine := hr.units
  have tk : Takes (cxOf (L2.CX P w) P w K mg base N_law_pool "_law_pool" (defScope s_law_pool) f cdv A outer s H E) (fun c d _ H => E c d H) := takes_of rfl rfl rfl rfl
  have po : PassesOwn (model P w) _ _ _ := passes_of (X := cxOf (L2.CX P w) P w K mg base N_law_pool "_law_pool" (defScope s_law_pool) f cdv A outer s H E) rfl
  exact ⟨rd_law_pool K, jss_cons (js_set (i := 2) (je_int) nd) (jss_cons (js_if (jt_cmp (kop_lt) (je_var 1) (je_callB kc_len B.len (ja_cons (je_var 0) (ja_nil))) (nomark _)) (jss_cons (js_set (i := 2) (je_ix (je_var 0) (je_var 1)) nd) (jss_nil)) (jss_nil)) (jss_cons (js_set (i := 3) (je_op kop_mod (je_op kop_mul (je_op kop_add (je_op kop_add (je_op kop_mod (je_var 2) (je_int)) (je_op kop_mul (je_op kop_mul (je_int) (je_var 1)) (je_var 1))) (je_int)) (je_int)) (je_int)) nd) (jss_cons (js_if (jt_cmp (kop_lt) (je_var 2) (je_op kop_pow (je_int) (je_int)) (nomark _)) (jss_cons (js_set (i := 2) (je_int) nd) (jss_nil)) (jss_nil)) (jss_cons (js_ret (je_lst (ja_cons (je_var 2) (ja_cons (je_var 3) (ja_nil))))) (jss_nil))))), fun vs G M R Z h => pf_law_pool h⟩
theorem df_law_pool {P : Program} {w : World} {K : PySem.W.Frag} {mg : Str → Option Value} {base : Heap} {f : Addr} {fd : FuncData} (B : Bs mg) (C : Cs K mg) (F : Fun K "_law_pool" "_law_pool" s_law_pool f fd) (b : Binds K fd ["_law_script", "_law_k"] []) (gm : mg "_law_pool" = some (.ref f))  :
    Def P w K mg base 1 "_law_pool" ["_law_script", "_law_k"] (S_law_pool K) := ⟨f, fd, fo_law_pool B C F , gm, F.kp, b⟩
abbrev s_law_take : Stmt := topS 49
abbrev N_law_take : List Str := ["_law_pool_here", "_law_many_here", "_law_found"]
theorem sc_law_take : FnScope N_law_take ["_law_pool_here", "_law_many_here"] (defScope s_law_take) := ⟨rfl, rfl, rfl, by decide +kernel, rfl, by decide +kernel, by decide +kernel⟩
theorem fo_law_take {P : Program} {w : World} {K : PySem.W.Frag} {mg : Str → Option Value} {base : Heap} {f : Addr} {fd : FuncData} (B : Bs mg) (C : Cs K mg) (F : Fun K "_law_take" "_law_take" s_law_take f fd)  :
    FnOk P w K mg base (L2.CX P w) 1 f fd ["_law_pool_here", "_law_many_here"] (lift (S_law_take K)) := by
  refine fn_ok F sc_law_take (fun vs G M R Z h => sp_len2 h) (fun cdv A outer s H E hr => ?_)
  have nd : N_law_take.Nodup := sc_law_take.nd
  have hu : _ + 64 < cLine := hr.units
  have tk : Takes (cxOf (L2.CX P w) P w K mg base N_law_take "_law_take" (defScope s_law_take) f cdv A outer s H E) (fun c d _ H => E c d H) := takes_of rfl rfl rfl rfl
  have po : PassesOwn (model P w) _ _ _ := passes_of (X := cxOf (L2.CX P w) P w K mg base N_law_take "_law_take" (defScope s_law_take) f cdv A outer s H E) rfl
  exact ⟨rd_law_take K, jss_cons (js_if (jt_cmp (kop_gt) (je_ix (je_var 0) (je_int)) (je_int) (nomark _)) (jss_cons (js_set (i := 2) (je_op kop_mod (je_ix (je_var 0) (je_int)) (je_var 1)) nd) (jss_cons (js_asg (je_op kop_fdiv (je_ix (je_var 0) (je_int)) (je_var 1)) (jg_ix (je_var 0) (je_int))) (jss_cons (js_ret (je_var 2)) (jss_nil)))) (jss_nil)) (jss_cons (js_asg (je_op kop_mod (je_op kop_add (je_op kop_mul (je_ix (je_var 0) (je_int)) (je_int)) (je_int)) (je_int)) (jg_ix (je_var 0) (je_int))) (jss_cons (js_ret (je_op kop_mod (je_op kop_fdiv (je_op kop_mod (je_op kop_mul (je_ix (je_var 0) (je_int)) (je_ix (je_var 0) (je_int))) (je_int)) (je_int)) (je_var 1))) (jss_nil))), fun vs G M R Z h => pf_law_take h⟩
theorem df_law_take {P : Program} {w : World} {K : PySem.W.Frag} {mg : Str → Option Value} {base : Heap} {f : Addr} {fd : FuncData} (B : Bs mg) (C : Cs K mg) (F : Fun K "_law_take" "_law_take" s_law_take f fd) (b : Binds K fd ["_law_pool_here", "_law_many_here"] []) (gm : mg "_law_take" = some (.ref f))  :
    Def P w K mg base 1 "_law_take" ["_law_pool_here", "_law_many_here"] (S_law_take K) := ⟨f, fd, fo_law_take B C F , gm, F.kp, b⟩
abbrev s_law_many : Stmt := topS 53
abbrev N_law_many : List Str := ["_law_pool_here"]
theorem sc_law_many : FnScope N_law_many ["_law_pool_here"] (defScope s_law_many) := ⟨rfl, rfl, rfl, by decide +kernel, rfl, by decide +kernel, by decide +kernel⟩
theorem fo_law_many {P : Program} {w : World} {K : PySem.W.Frag} {mg : Str → Option Value} {base : Heap} {f : Addr} {fd : FuncData} (B : Bs mg) (C : Cs K mg) (F : Fun K "_law_many" "_law_many" s_law_many f fd) (D_law_take : Def P w K mg base 1 "_law_take" ["_law_pool_here", "_law_many_here"] (S_law_take K)) :
    FnOk P w K mg base (L2.CX P w) 2 f fd ["_law_pool_here"] (lift (S_law_many K)) := by
  refine fn_ok F sc_law_many (fun vs G M R Z h => sp_len1 h) (fun cdv A outer s H E hr => ?_)
  have nd : N_law_many.Nodup := sc_law_many.nd
  have hu : _ + 64 < cLine := hr.units
  have tk : Takes (cxOf (L2.CX P w) P w K mg base N_law_many "_law_many" (defScope s_law_many) f cdv A outer s H E) (fun c d _ H => E c d H) := takes_of rfl rfl rfl rfl
  have po : PassesOwn (model P w) _ _ _ := passes_of (X := cxOf (L2.CX P w) P w K mg base N_law_many "_law_many" (defScope s_law_many) f cdv A outer s H E) rfl
  exact ⟨rd_law_many K, jss_cons (js_ret (je_op kop_add (je_int) (je_callD D_law_take hr tk (ja_cons (je_var 0) (ja_cons (je_ix (je_lst (ja_cons (je_int) (ja_cons (je_int) (ja_cons (je_int) (ja_nil))))) (je_callD D_law_take hr tk (ja_cons (je_var 0) (ja_cons (je_int) (ja_nil))))) (ja_nil)))))) (jss_nil), fun vs G M R Z h => pf_law_many h⟩
theorem df_law_many {P : Program} {w : World} {K : PySem.W.Frag} {mg : Str → Option Value} {base : Heap} {f : Addr} {fd : FuncData} (B : Bs mg) (C : Cs K mg) (F : Fun K "_law_many" "_law_many" s_law_many f fd) (b : Binds K fd ["_law_pool_here"] []) (gm : mg "_law_many" = some (.ref f)) (D_law_take : Def P w K mg base 1 "_law_take" ["_law_pool_here", "_law_many_here"] (S_law_take K)) :
    Def P w K mg base 2 "_law_many" ["_law_pool_here"] (S_law_many K) := ⟨f, fd, fo_law_many B C F D_law_take, gm, F.kp, b⟩
abbrev s_law_word : Stmt := topS 51
abbrev N_law_word : List Str := ["_law_pool_here"]
theorem sc_law_word : FnScope N_law_word ["_law_pool_here"] (defScope s_law_word) := ⟨rfl, rfl, rfl, by decide +kernel, rfl, by decide +kernel, by decide +kernel⟩
theorem fo_law_word {P : Program} {w : World} {K : PySem.W.Frag} {mg : Str → Option Value} {base : Heap} {f : Addr} {fd : FuncData} (B : Bs mg) (C : Cs K mg) (F : Fun K "_law_word" "_law_word" s_law_word f fd) (D_law_take : Def P w K mg base 1 "_law_take" ["_law_pool_here", "_law_many_here"] (S_law_take K)) :
    FnOk P w K mg base (L2.CX P w) 2 f fd ["_law_pool_here"] (lift (S_law_word K)) := by
  refine fn_ok F sc_law_word (fun vs G M R Z h => sp_len1 h) (fun cdv A outer s H E hr => ?_)
  have nd : N_law_word.Nodup := sc_law_word.nd
  have hu : _ + 64 < cLine := hr.units
  have tk : Takes (cxOf (L2.CX P w) P w K mg base N_law_word "_law_word" (defScope s_law_word) f cdv A outer s H E) (fun c d _ H => E c d H) := takes_of rfl rfl rfl rfl
  have po : PassesOwn (model P w) _ _ _ := passes_of (X := cxOf (L2.CX P w) P w K mg base N_law_word "_law_word" (defScope s_law_word) f cdv A outer s H E) rfl
  exact ⟨rd_law_word K, jss_cons (js_ret (je_ix (je_lst (ja_cons (je_int) (ja_cons (je_int) (ja_cons (je_op kop_sub (je_op kop_pow (je_int) (je_int)) (je_int)) (ja_cons (je_op kop_add (je_op kop_mul (je_callD D_law_take hr tk (ja_cons (je_var 0) (ja_cons (je_op kop_pow (je_int) (je_int)) (ja_nil)))) (je_op kop_pow (je_int) (je_int))) (je_callD D_law_take hr tk (ja_cons (je_var 0) (ja_cons (je_op kop_pow (je_int) (je_int)) (ja_nil))))) (ja_nil)))))) (je_op kop_mod (je_callD D_law_take hr tk (ja_cons (je_var 0) (ja_cons (je_int) (ja_nil)))) (je_int)))) (jss_nil), fun vs G M R Z h => pf_law_word h⟩
theorem df_law_word {P : Program} {w : World} {K : PySem.W.Frag} {mg : Str → Option Value} {base : Heap} {f : Addr} {fd : FuncData} (B : Bs mg) (C : Cs K mg) (F : Fun K "_law_word" "_law_word" s_law_word f fd) (b : Binds K fd ["_law_pool_here"] []) (gm : mg "_law_word" = some (.ref f)) (D_law_take : Def P w K mg base 1 "_law_take" ["_law_pool_here", "_law_many_here"] (S_law_take K)) :
    Def P w K mg base 2 "_law_word" ["_law_pool_here"] (S_law_word K) := ⟨f, fd, fo_law_word B C F D_law_take, gm, F.kp, b⟩
abbrev s_law_ask : Stmt := topS 52
abbrev N_law_ask : List Str := ["_law_pool_here", "_law_many_here", "_law_cell"]
theorem sc_law_ask : FnScope N_law_ask ["_law_pool_here", "_law_many_here"] (defScope s_law_ask) := ⟨rfl, rfl, rfl, by decide +kernel, rfl, by decide +kernel, by decide +kernel⟩
theorem fo_law_ask {P : Program} {w : World} {K : PySem.W.Frag} {mg : Str → Option Value} {base : Heap} {f : Addr} {fd : FuncData} (B : Bs mg) (C : Cs K mg) (F : Fun K "_law_ask" "_law_ask" s_law_ask f fd) (D_law_take : Def P w K mg base 1 "_law_take" ["_law_pool_here", "_law_many_here"] (S_law_take K)) (D_law_word : Def P w K mg base 2 "_law_word" ["_law_pool_here"] (S_law_word K)) :
    FnOk P w K mg base (L2.CX P w) 3 f fd ["_law_pool_here", "_law_many_here"] (lift (S_law_ask K)) := by
  refine fn_ok F sc_law_ask (fun vs G M R Z h => sp_len2 h) (fun cdv A outer s H E hr => ?_)
  have nd : N_law_ask.Nodup := sc_law_ask.nd
  have hu : _ + 64 < cLine := hr.units
  have tk : Takes (cxOf (L2.CX P w) P w K mg base N_law_ask "_law_ask" (defScope s_law_ask) f cdv A outer s H E) (fun c d _ H => E c d H) := takes_of rfl rfl rfl rfl
  have po : PassesOwn (model P w) _ _ _ := passes_of (X := cxOf (L2.CX P w) P w K mg base N_law_ask "_law_ask" (defScope s_law_ask) f cdv A outer s H E) rfl
  exact ⟨rd_law_ask K, jss_cons (js_set (i := 2) (je_callD D_law_take hr tk (ja_cons (je_var 0) (ja_cons (je_ix (je_lst (ja_cons (je_var 1) (ja_cons (je_callB kc_min2 B.min (ja_cons (je_var 1) (ja_cons (je_int) (ja_nil)))) (ja_nil)))) (je_op kop_fdiv (je_callD D_law_take hr tk (ja_cons (je_var 0) (ja_cons (je_int) (ja_nil)))) (je_int))) (ja_nil)))) nd) (jss_cons (js_if (jt_cmp (kop_eq hu) (je_callD D_law_take hr tk (ja_cons (je_var 0) (ja_cons (je_int) (ja_nil)))) (je_int) (nomark _)) (jss_cons (js_ret (je_tup (ja_cons (je_str) (ja_cons (je_var 2) (ja_nil))))) (jss_nil)) (jss_nil)) (jss_cons (js_ret (je_tup (ja_cons (je_str) (ja_cons (je_var 2) (ja_cons (je_callD D_law_word hr tk (ja_cons (je_var 0) (ja_nil))) (ja_nil)))))) (jss_nil))), fun vs G M R Z h => pf_law_ask h⟩
theorem df_law_ask {P : Program} {w : World} {K : PySem.W.Frag} {mg : Str → Option Value} {base : Heap} {f : Addr} {fd : FuncData} (B : Bs mg) (C : Cs K mg) (F : Fun K "_law_ask" "_law_ask" s_law_ask f fd) (b : Binds K fd ["_law_pool_here", "_law_many_here"] []) (gm : mg "_law_ask" = some (.ref f)) (D_law_take : Def P w K mg base 1 "_law_take" ["_law_pool_here", "_law_many_here"] (S_law_take K)) (D_law_word : Def P w K mg base 2 "_law_word" ["_law_pool_here"] (S_law_word K)) :
    Def P w K mg base 3 "_law_ask" ["_law_pool_here", "_law_many_here"] (S_law_ask K) := ⟨f, fd, fo_law_ask B C F D_law_take D_law_word, gm, F.kp, b⟩
abbrev s_law_trees : Stmt := topS 55
abbrev N_law_trees : List Str := ["_law_way", "_law_many_here", "_law_trees_here"]
theorem sc_law_trees : FnScope N_law_trees ["_law_way", "_law_many_here"] (defScope s_law_trees) := ⟨rfl, rfl, rfl, by decide +kernel, rfl, by decide +kernel, by decide +kernel⟩
theorem fo_law_trees {P : Program} {w : World} {K : PySem.W.Frag} {mg : Str → Option Value} {base : Heap} {f : Addr} {fd : FuncData} (B : Bs mg) (C : Cs K mg) (F : Fun K "_law_trees" "_law_trees" s_law_trees f fd)  :
    FnOk P w K mg base (L2.CX P w) 1 f fd ["_law_way", "_law_many_here"] (lift (S_law_trees K)) := by
  refine fn_ok F sc_law_trees (fun vs G M R Z h => sp_len2 h) (fun cdv A outer s H E hr => ?_)
  have nd : N_law_trees.Nodup := sc_law_trees.nd
  have hu : _ + 64 < cLine := hr.units
  have tk : Takes (cxOf (L2.CX P w) P w K mg base N_law_trees "_law_trees" (defScope s_law_trees) f cdv A outer s H E) (fun c d _ H => E c d H) := takes_of rfl rfl rfl rfl
  have po : PassesOwn (model P w) _ _ _ := passes_of (X := cxOf (L2.CX P w) P w K mg base N_law_trees "_law_trees" (defScope s_law_trees) f cdv A outer s H E) rfl
  exact ⟨rd_law_trees K, jss_cons (js_set (i := 2) (je_lst (ja_cons (je_var 1) (ja_nil))) nd) (jss_cons (js_while po ((jw_and (jt_cmp (kop_eq hu) (je_var 0) (je_str) (nomark _)) (jw_and1 (jt_cmp (kop_gt) (je_ix (je_var 2) (je_neg (je_int))) (je_int) (nomark _)))).jt) (jss_cons (js_set (i := 2) (je_op kop_add (je_var 2) (je_lst (ja_cons (je_op kop_fdiv (je_op kop_add (je_ix (je_var 2) (je_neg (je_int))) (je_int)) (je_int)) (ja_nil)))) nd) (jss_nil))) (jss_cons (js_ret (je_var 2)) (jss_nil))), fun vs G M R Z h => pf_law_trees h⟩
theorem df_law_trees {P : Program} {w : World} {K : PySem.W.Frag} {mg : Str → Option Value} {base : Heap} {f : Addr} {fd : FuncData} (B : Bs mg) (C : Cs K mg) (F : Fun K "_law_trees" "_law_trees" s_law_trees f fd) (b : Binds K fd ["_law_way", "_law_many_here"] []) (gm : mg "_law_trees" = some (.ref f))  :
    Def P w K mg base 1 "_law_trees" ["_law_way", "_law_many_here"] (S_law_trees K) := ⟨f, fd, fo_law_trees B C F , gm, F.kp, b⟩
abbrev s_law_way_signs : Stmt := topS 56
abbrev N_law_way_signs : List Str := ["_law_shelf", "_law_draw", "_law_high", "_law_found", "_law_depth"]
theorem sc_law_way_signs : FnScope N_law_way_signs ["_law_shelf", "_law_draw", "_law_high"] (defScope s_law_way_signs) := ⟨rfl, rfl, rfl, by decide +kernel, rfl, by decide +kernel, by decide +kernel⟩
theorem fo_law_way_signs {P : Program} {w : World} {K : PySem.W.Frag} {mg : Str → Option Value} {base : Heap} {f : Addr} {fd : FuncData} (B : Bs mg) (C : Cs K mg) (F : Fun K "_law_way_signs" "_law_way_signs" s_law_way_signs f fd)  :
    FnOk P w K mg base (L2.CX P w) 1 f fd ["_law_shelf", "_law_draw", "_law_high"] (lift (S_law_way_signs K)) := by
  refine fn_ok F sc_law_way_signs (fun vs G M R Z h => sp_len3 h) (fun cdv A outer s H E hr => ?_)
  have nd : N_law_way_signs.Nodup := sc_law_way_signs.nd
  have hu : _ + 64 < cLine := hr.units
  have tk : Takes (cxOf (L2.CX P w) P w K mg base N_law_way_signs "_law_way_signs" (defScope s_law_way_signs) f cdv A outer s H E) (fun c d _ H => E c d H) := takes_of rfl rfl rfl rfl
  have po : PassesOwn (model P w) _ _ _ := passes_of (X := cxOf (L2.CX P w) P w K mg base N_law_way_signs "_law_way_signs" (defScope s_law_way_signs) f cdv A outer s H E) rfl
  exact ⟨rd_law_way_signs K, jss_cons (js_set (i := 3) (je_lst (ja_nil)) nd) (jss_cons (js_for po rfl (ji_range1 B.range (ja_cons (je_op kop_add (je_var 2) (je_int)) (ja_nil))) (jg_name (i := 4) nd) (jss_cons (js_expr (je_bm PySem.F.plainAttrs_list PySem.F.slot_list_extend PySem.F.type_list_extend km_extend (je_var 3) (ja_cons (je_lst (ja_cons (je_tup (ja_cons (je_str) (ja_cons (je_str) (ja_cons (je_var 0) (ja_cons (je_var 1) (ja_cons (je_var 4) (ja_cons (je_int) (ja_nil)))))))) (ja_cons (je_tup (ja_cons (je_str) (ja_cons (je_str) (ja_cons (je_var 0) (ja_cons (je_var 1) (ja_cons (je_var 4) (ja_cons (je_int) (ja_nil)))))))) (ja_nil)))) (ja_nil)))) (jss_nil))) (jss_cons (js_for po rfl (ji_rv1 B.reversed B.range (je_op kop_add (je_var 2) (je_int))) (jg_name (i := 4) nd) (jss_cons (js_expr (je_bm PySem.F.plainAttrs_list PySem.F.slot_list_extend PySem.F.type_list_extend km_extend (je_var 3) (ja_cons (je_lst (ja_cons (je_tup (ja_cons (je_str) (ja_cons (je_str) (ja_cons (je_var 0) (ja_cons (je_var 1) (ja_cons (je_var 4) (ja_cons (je_int) (ja_nil)))))))) (ja_cons (je_tup (ja_cons (je_str) (ja_cons (je_str) (ja_cons (je_var 0) (ja_cons (je_var 1) (ja_cons (je_var 4) (ja_cons (je_int) (ja_nil)))))))) (ja_nil)))) (ja_nil)))) (jss_nil))) (jss_cons (js_ret (je_var 3)) (jss_nil)))), fun vs G M R Z h => pf_law_way_signs h⟩
theorem df_law_way_signs {P : Program} {w : World} {K : PySem.W.Frag} {mg : Str → Option Value} {base : Heap} {f : Addr} {fd : FuncData} (B : Bs mg) (C : Cs K mg) (F : Fun K "_law_way_signs" "_law_way_signs" s_law_way_signs f fd) (b : Binds K fd ["_law_shelf", "_law_draw", "_law_high"] []) (gm : mg "_law_way_signs" = some (.ref f))  :
    Def P w K mg base 1 "_law_way_signs" ["_law_shelf", "_law_draw", "_law_high"] (S_law_way_signs K) := ⟨f, fd, fo_law_way_signs B C F , gm, F.kp, b⟩
abbrev s_law_due : Stmt := topS 57
abbrev N_law_due : List Str := ["_law_way", "_law_many_here", "_law_asks", "_law_found", "_law_deed", "_law_room", "_law_trees_here", "_law_number", "_law_at", "_law_cell", "_law_last", "_law_draw", "_law_k"]
theorem sc_law_due : FnScope N_law_due ["_law_way", "_law_many_here", "_law_asks"] (defScope s_law_due) := ⟨rfl, rfl, rfl, by decide +kernel, rfl, by decide +kernel, by decide +kernel⟩
theorem fo_law_due {P : Program} {w : World} {K : PySem.W.Frag} {mg : Str → Option Value} {base : Heap} {f : Addr} {fd : FuncData} (B : Bs mg) (C : Cs K mg) (F : Fun K "_law_due" "_law_due" s_law_due f fd) (D_law_trees : Def P w K mg base 1 "_law_trees" ["_law_way", "_law_many_here"] (S_law_trees K)) (D_law_way_signs : Def P w K mg base 1 "_law_way_signs" ["_law_shelf", "_law_draw", "_law_high"] (S_law_way_signs K)) :
    FnOk P w K mg base (L2.CX P w) 2 f fd ["_law_way", "_law_many_here", "_law_asks"] (lift (S_law_due K)) := by
  refine fn_ok F sc_law_due (fun vs G M R Z h => sp_len3 h) (fun cdv A outer s H E hr => ?_)
  have nd : N_law_due.Nodup := sc_law_due.nd
  have hu : _ + 64 < cLine := hr.units
  have tk : Takes (cxOf (L2.CX P w) P w K mg base N_law_due "_law_due" (defScope s_law_due) f cdv A outer s H E) (fun c d _ H => E c d H) := takes_of rfl rfl rfl rfl
  have po : PassesOwn (model P w) _ _ _ := passes_of (X := cxOf (L2.CX P w) P w K mg base N_law_due "_law_due" (defScope s_law_due) f cdv A outer s H E) rfl
  exact ⟨rd_law_due K, jss_cons (js_set (i := 3) (je_lst (ja_nil)) nd) (jss_cons (js_if (jt_cmp (kop_eq hu) (je_var 0) (je_str) (nomark _)) (jss_cons (js_for po rfl (ji_list (je_var 2)) (jg_name (i := 4) nd) (jss_cons (js_for po rfl (ji_range1 B.range (ja_cons (je_var 1) (ja_nil))) (jg_name (i := 5) nd) (jss_cons (js_expr (je_bm PySem.F.plainAttrs_list PySem.F.slot_list_extend PySem.F.type_list_extend km_extend (je_var 3) (ja_cons (je_lst (ja_cons (je_tup (ja_cons (je_str) (ja_cons (je_str) (ja_cons (je_int) (ja_cons (je_var 5) (ja_nil)))))) (ja_cons (je_tup (ja_cons (je_str) (ja_cons (je_str) (ja_cons (je_int) (ja_cons (je_var 5) (ja_nil)))))) (ja_nil)))) (ja_nil)))) (jss_nil))) (jss_nil))) (jss_cons (js_ret (je_var 3)) (jss_nil))) (jss_nil)) (jss_cons (js_set (i := 6) (je_callD D_law_trees hr tk (ja_cons (je_var 0) (ja_cons (je_var 1) (ja_nil)))) nd) (jss_cons (js_for po rfl (ji_range1 B.range (ja_cons (je_callB kc_len B.len (ja_cons (je_var 2) (ja_nil))) (ja_nil))) (jg_name (i := 7) nd) (jss_cons (js_for po rfl (ji_rv1 B.reversed B.range (je_callB kc_len B.len (ja_cons (je_var 6) (ja_nil)))) (jg_name (i := 8) nd) (jss_cons (js_set (i := 9) (je_op kop_fdiv (je_ix (je_ix (je_var 2) (je_var 7)) (je_int)) (je_ix (je_lst (ja_cons (je_int) (ja_cons (je_int) (ja_cons (je_int) (ja_nil))))) (je_var 8))) nd) (jss_cons (js_setComp (own := [("_law_k", 12)]) (i := 10) rfl nd (sw_true rfl rfl rfl (by decide +kernel)) (ji_range1 B.range (ja_cons (je_var 7) (ja_nil))) (blkOk_by (own := [("_law_k", 12)]) (N := N_law_due) (sc := defScope s_law_due) (by decide +kernel)) (fun _ _ _ _ _ => by exact jg_name (i := 12) nd) (fun _ _ _ _ _ => by exact jts_one (jt_cmp (kop_eq hu) (je_op kop_fdiv (je_ix (je_ix (je_var 2) (je_var 12)) (je_int)) (je_ix (je_lst (ja_cons (je_int) (ja_cons (je_int) (ja_cons (je_int) (ja_nil))))) (je_var 8))) (je_var 9) (nomark _))) (fun _ _ _ _ _ => by exact je_var 12)) (jss_cons (js_set (i := 11) (je_op kop_add (je_callB kc_sum B.sum (ja_cons (je_slice (je_var 6) (jo_none) (jo_some (je_var 8))) (ja_nil))) (je_var 9)) nd) (jss_cons (js_if (jt_cmp (kop_ne hu) (je_var 10) (je_lst (ja_nil)) (nomark _)) (jss_cons (js_set (i := 11) (je_op kop_add (je_op kop_add (je_callB kc_sum B.sum (ja_cons (je_var 6) (ja_nil))) (je_op kop_mul (je_ix (je_var 10) (je_neg (je_int))) (je_callB kc_len B.len (ja_cons (je_var 6) (ja_nil))))) (je_var 8)) nd) (jss_nil)) (jss_nil)) (jss_cons (js_expr (je_bm PySem.F.plainAttrs_list PySem.F.slot_list_extend PySem.F.type_list_extend km_extend (je_var 3) (ja_cons (je_callD D_law_way_signs hr tk (ja_cons (je_var 8) (ja_cons (je_var 11) (ja_cons (je_callB kc_len B.len (ja_cons (je_comp (own := [("_law_k", 12)]) rfl nd (ji_range1 B.range (ja_cons (je_int) (ja_nil))) (blkOk_by (own := [("_law_k", 12)]) (N := N_law_due) (sc := defScope s_law_due) (by decide +kernel)) (fun _ _ _ _ _ => by exact jg_name (i := 12) nd) (fun _ _ _ _ _ => by exact jts_one (jt_cmp (kop_lt) (je_op kop_shl (je_int) (je_var 12)) (je_ix (je_var 6) (je_var 8)) (nomark _))) (fun _ _ _ _ _ => by exact je_var 12)) (ja_nil))) (ja_nil))))) (ja_nil)))) (jss_nil))))))) (jss_nil))) (jss_cons (js_ret (je_var 3)) (jss_nil))))), fun vs G M R Z h => pf_law_due h⟩
theorem df_law_due {P : Program} {w : World} {K : PySem.W.Frag} {mg : Str → Option Value} {base : Heap} {f : Addr} {fd : FuncData} (B : Bs mg) (C : Cs K mg) (F : Fun K "_law_due" "_law_due" s_law_due f fd) (b : Binds K fd ["_law_way", "_law_many_here", "_law_asks"] []) (gm : mg "_law_due" = some (.ref f)) (D_law_trees : Def P w K mg base 1 "_law_trees" ["_law_way", "_law_many_here"] (S_law_trees K)) (D_law_way_signs : Def P w K mg base 1 "_law_way_signs" ["_law_shelf", "_law_draw", "_law_high"] (S_law_way_signs K)) :
    Def P w K mg base 2 "_law_due" ["_law_way", "_law_many_here", "_law_asks"] (S_law_due K) := ⟨f, fd, fo_law_due B C F D_law_trees D_law_way_signs, gm, F.kp, b⟩
abbrev s_look_at_way : Stmt := topS 25
abbrev N_look_at_way : List Str := ["way"]
theorem sc_look_at_way : FnScope N_look_at_way ["way"] (defScope s_look_at_way) := ⟨rfl, rfl, rfl, by decide +kernel, rfl, by decide +kernel, by decide +kernel⟩
theorem fo_look_at_way {P : Program} {w : World} {K : PySem.W.Frag} {mg : Str → Option Value} {base : Heap} {f : Addr} {fd : FuncData} (B : Bs mg) (C : Cs K mg) (F : Fun K "look_at_way" "look_at_way" s_look_at_way f fd)  :
    FnOk P w K mg base (L2.CX P w) 1 f fd ["way"] (lift (S_look_at_way K)) := by
  refine fn_ok F sc_look_at_way (fun vs G M R Z h => sp_len1 h) (fun cdv A outer s H E hr => ?_)
  have nd : N_look_at_way.Nodup := sc_look_at_way.nd
  have hu : _ + 64 < cLine := hr.units
  have tk : Takes (cxOf (L2.CX P w) P w K mg base N_look_at_way "look_at_way" (defScope s_look_at_way) f cdv A outer s H E) (fun c d _ H => E c d H) := takes_of rfl rfl rfl rfl
  have po : PassesOwn (model P w) _ _ _ := passes_of (X := cxOf (L2.CX P w) P w K mg base N_look_at_way "look_at_way" (defScope s_look_at_way) f cdv A outer s H E) rfl
  exact ⟨rd_look_at_way K, jss_cons (js_if ((jw_or (jt_not (jt_val (je_callB kc_isi B.isinstance (ja_cons (je_var 0) (ja_cons (je_ty B.str) (ja_nil)))))) (jw_or1 (jt_cmp (kop_notin) (je_var 0) (je_conT C.k_WAYS) (by with_unfolding_all rfl)))).jt) (jss_cons (js_raise C.g_NoWay C.r_NoWay tk) (jss_nil)) (jss_nil)) (jss_nil), fun vs G M R Z h => pf_look_at_way h⟩
theorem df_look_at_way {P : Program} {w : World} {K : PySem.W.Frag} {mg : Str → Option Value} {base : Heap} {f : Addr} {fd : FuncData} (B : Bs mg) (C : Cs K mg) (F : Fun K "look_at_way" "look_at_way" s_look_at_way f fd) (b : Binds K fd ["way"] []) (gm : mg "look_at_way" = some (.ref f))  :
    Def P w K mg base 1 "look_at_way" ["way"] (S_look_at_way K) := ⟨f, fd, fo_look_at_way B C F , gm, F.kp, b⟩
abbrev s_is_whole : Stmt := topS 6
abbrev N_is_whole : List Str := ["thing"]
theorem sc_is_whole : FnScope N_is_whole ["thing"] (defScope s_is_whole) := ⟨rfl, rfl, rfl, by decide +kernel, rfl, by decide +kernel, by decide +kernel⟩
theorem fo_is_whole {P : Program} {w : World} {K : PySem.W.Frag} {mg : Str → Option Value} {base : Heap} {f : Addr} {fd : FuncData} (B : Bs mg) (C : Cs K mg) (F : Fun K "is_whole" "is_whole" s_is_whole f fd)  :
    FnOk P w K mg base (L2.CX P w) 1 f fd ["thing"] (lift (S_is_whole K)) := by
  refine fn_ok F sc_is_whole (fun vs G M R Z h => sp_len1 h) (fun cdv A outer s H E hr => ?_)
  have nd : N_is_whole.Nodup := sc_is_whole.nd
  have hu : _ + 64 < cLine := hr.units
  have tk : Takes (cxOf (L2.CX P w) P w K mg base N_is_whole "is_whole" (defScope s_is_whole) f cdv A outer s H E) (fun c d _ H => E c d H) := takes_of rfl rfl rfl rfl
  have po : PassesOwn (model P w) _ _ _ := passes_of (X := cxOf (L2.CX P w) P w K mg base N_is_whole "is_whole" (defScope s_is_whole) f cdv A outer s H E) rfl
  exact ⟨rd_is_whole K, jss_cons (js_ret (je_and (je_callB kc_isi B.isinstance (ja_cons (je_var 0) (ja_cons (je_ty B.int) (ja_nil)))) (je_one (je_not (je_callB kc_isi B.isinstance (ja_cons (je_var 0) (ja_cons (je_ty B.bool) (ja_nil)))))))) (jss_nil), fun vs G M R Z h => pf_is_whole h⟩
theorem df_is_whole {P : Program} {w : World} {K : PySem.W.Frag} {mg : Str → Option Value} {base : Heap} {f : Addr} {fd : FuncData} (B : Bs mg) (C : Cs K mg) (F : Fun K "is_whole" "is_whole" s_is_whole f fd) (b : Binds K fd ["thing"] []) (gm : mg "is_whole" = some (.ref f))  :
    Def P w K mg base 1 "is_whole" ["thing"] (S_is_whole K) := ⟨f, fd, fo_is_whole B C F , gm, F.kp, b⟩
abbrev s_is_within : Stmt := topS 7
abbrev N_is_within : List Str := ["thing", "least", "most"]
theorem sc_is_within : FnScope N_is_within ["thing", "least", "most"] (defScope s_is_within) := ⟨rfl, rfl, rfl, by decide +kernel, rfl, by decide +kernel, by decide +kernel⟩
theorem fo_is_within {P : Program} {w : World} {K : PySem.W.Frag} {mg : Str → Option Value} {base : Heap} {f : Addr} {fd : FuncData} (B : Bs mg) (C : Cs K mg) (F : Fun K "is_within" "is_within" s_is_within f fd) (D_is_whole : Def P w K mg base 1 "is_whole" ["thing"] (S_is_whole K)) :
    FnOk P w K mg base (L2.CX P w) 2 f fd ["thing", "least", "most"] (lift (S_is_within K)) := by
  refine fn_ok F sc_is_within (fun vs G M R Z h => sp_len3 h) (fun cdv A outer s H E hr => ?_)
  have nd : N_is_within.Nodup := sc_is_within.nd
  have hu : _ + 64 < cLine := hr.units
  have tk : Takes (cxOf (L2.CX P w) P w K mg base N_is_within "is_within" (defScope s_is_within) f cdv A outer s H E) (fun c d _ H => E c d H) := takes_of rfl rfl rfl rfl
  have po : PassesOwn (model P w) _ _ _ := passes_of (X := cxOf (L2.CX P w) P w K mg base N_is_within "is_within" (defScope s_is_within) f cdv A outer s H E) rfl
  exact ⟨rd_is_within K, jss_cons (js_ret (je_and (je_callD D_is_whole hr tk (ja_cons (je_var 0) (ja_nil))) (je_one (je_chain (kop_le) (kop_le) (je_var 1) (je_var 0) (je_var 2))))) (jss_nil), fun vs G M R Z h => pf_is_within h⟩
theorem df_is_within {P : Program} {w : World} {K : PySem.W.Frag} {mg : Str → Option Value} {base : Heap} {f : Addr} {fd : FuncData} (B : Bs mg) (C : Cs K mg) (F : Fun K "is_within" "is_within" s_is_within f fd) (b : Binds K fd ["thing", "least", "most"] []) (gm : mg "is_within" = some (.ref f)) (D_is_whole : Def P w K mg base 1 "is_whole" ["thing"] (S_is_whole K)) :
    Def P w K mg base 2 "is_within" ["thing", "least", "most"] (S_is_within K) := ⟨f, fd, fo_is_within B C F D_is_whole, gm, F.kp, b⟩
abbrev s_look_at_many : Stmt := topS 12
abbrev N_look_at_many : List Str := ["many"]
theorem sc_look_at_many : FnScope N_look_at_many ["many"] (defScope s_look_at_many) := ⟨rfl, rfl, rfl, by decide +kernel, rfl, by decide +kernel, by decide +kernel⟩
theorem fo_look_at_many {P : Program} {w : World} {K : PySem.W.Frag} {mg : Str → Option Value} {base : Heap} {f : Addr} {fd : FuncData} (B : Bs mg) (C : Cs K mg) (F : Fun K "look_at_many" "look_at_many" s_look_at_many f fd) (D_is_within : Def P w K mg base 2 "is_within" ["thing", "least", "most"] (S_is_within K)) :
    FnOk P w K mg base (L2.CX P w) 3 f fd ["many"] (lift (S_look_at_many K)) := by
  refine fn_ok F sc_look_at_many (fun vs G M R Z h => sp_len1 h) (fun cdv A outer s H E hr => ?_)
  have nd : N_look_at_many.Nodup := sc_look_at_many.nd
  have hu : _ + 64 < cLine := hr.units
  have tk : Takes (cxOf (L2.CX P w) P w K mg base N_look_at_many "look_at_many" (defScope s_look_at_many) f cdv A outer s H E) (fun c d _ H => E c d H) := takes_of rfl rfl rfl rfl
  have po : PassesOwn (model P w) _ _ _ := passes_of (X := cxOf (L2.CX P w) P w K mg base N_look_at_many "look_at_many" (defScope s_look_at_many) f cdv A outer s H E) rfl
  exact ⟨rd_look_at_many K, jss_cons (js_if (jt_not (jt_val (je_callD D_is_within hr tk (ja_cons (je_var 0) (ja_cons (je_int) (ja_cons (je_const C.k_MOST_CELLS) (ja_nil))))))) (jss_cons (js_raise C.g_NoSize C.r_NoSize tk) (jss_nil)) (jss_nil)) (jss_nil), fun vs G M R Z h => pf_look_at_many h⟩
theorem df_look_at_many {P : Program} {w : World} {K : PySem.W.Frag} {mg : Str → Option Value} {base : Heap} {f : Addr} {fd : FuncData} (B : Bs mg) (C : Cs K mg) (F : Fun K "look_at_many" "look_at_many" s_look_at_many f fd) (b : Binds K fd ["many"] []) (gm : mg "look_at_many" = some (.ref f)) (D_is_within : Def P w K mg base 2 "is_within" ["thing", "least", "most"] (S_is_within K)) :
    Def P w K mg base 3 "look_at_many" ["many"] (S_look_at_many K) := ⟨f, fd, fo_look_at_many B C F D_is_within, gm, F.kp, b⟩
abbrev s_is_ask : Stmt := topS 21
abbrev N_is_ask : List Str := ["many", "thing"]
theorem sc_is_ask : FnScope N_is_ask ["many", "thing"] (defScope s_is_ask) := ⟨rfl, rfl, rfl, by decide +kernel, rfl, by decide +kernel, by decide +kernel⟩
theorem fo_is_ask {P : Program} {w : World} {K : PySem.W.Frag} {mg : Str → Option Value} {base : Heap} {f : Addr} {fd : FuncData} (B : Bs mg) (C : Cs K mg) (F : Fun K "is_ask" "is_ask" s_is_ask f fd) (D_is_within : Def P w K mg base 2 "is_within" ["thing", "least", "most"] (S_is_within K)) :
    FnOk P w K mg base (L2.CX P w) 3 f fd ["many", "thing"] (lift (S_is_ask K)) := by
  refine fn_ok F sc_is_ask (fun vs G M R Z h => sp_len2 h) (fun cdv A outer s H E hr => ?_)
  have nd : N_is_ask.Nodup := sc_is_ask.nd
  have hu : _ + 64 < cLine := hr.units
  have tk : Takes (cxOf (L2.CX P w) P w K mg base N_is_ask "is_ask" (defScope s_is_ask) f cdv A outer s H E) (fun c d _ H => E c d H) := takes_of rfl rfl rfl rfl
  have po : PassesOwn (model P w) _ _ _ := passes_of (X := cxOf (L2.CX P w) P w K mg base N_is_ask "is_ask" (defScope s_is_ask) f cdv A outer s H E) rfl
  exact ⟨rd_is_ask K, jss_cons (js_if ((jw_or (jt_not (jt_val (je_callB kc_isi B.isinstance (ja_cons (je_var 1) (ja_cons (je_ty B.tuple) (ja_nil)))))) (jw_or (jt_cmp (kop_lt) (je_callB kc_len B.len (ja_cons (je_var 1) (ja_nil))) (je_int) (nomark _)) (jw_or1 (jt_not (jt_val (je_callD D_is_within hr tk (ja_cons (je_ix (je_var 1) (je_int)) (ja_cons (je_int) (ja_cons (je_op kop_sub (je_var 0) (je_int)) (ja_nil)))))))))).jt) (jss_cons (js_ret (je_bl)) (jss_nil)) (jss_nil)) (jss_cons (js_if (jt_cmp (kop_eq hu) (je_callB kc_len B.len (ja_cons (je_var 1) (ja_nil))) (je_int) (nomark _)) (jss_cons (js_ret (je_cmp (kop_eqD hu) (je_ix (je_var 1) (je_int)) (je_str) (nomark _))) (jss_nil)) (jss_nil)) (jss_cons (js_ret (je_and (je_cmp (kop_eq hu) (je_callB kc_len B.len (ja_cons (je_var 1) (ja_nil))) (je_int) (nomark _)) (je_and (je_cmp (kop_eqD hu) (je_ix (je_var 1) (je_int)) (je_str) (nomark _)) (je_one (je_callD D_is_within hr tk (ja_cons (je_ix (je_var 1) (je_int)) (ja_cons (je_int) (ja_cons (je_const C.k_GREATEST) (ja_nil))))))))) (jss_nil))), fun vs G M R Z h => pf_is_ask h⟩
theorem df_is_ask {P : Program} {w : World} {K : PySem.W.Frag} {mg : Str → Option Value} {base : Heap} {f : Addr} {fd : FuncData} (B : Bs mg) (C : Cs K mg) (F : Fun K "is_ask" "is_ask" s_is_ask f fd) (b : Binds K fd ["many", "thing"] []) (gm : mg "is_ask" = some (.ref f)) (D_is_within : Def P w K mg base 2 "is_within" ["thing", "least", "most"] (S_is_within K)) :
    Def P w K mg base 3 "is_ask" ["many", "thing"] (S_is_ask K) := ⟨f, fd, fo_is_ask B C F D_is_within, gm, F.kp, b⟩
abbrev s_look_at_asks : Stmt := topS 44
abbrev N_look_at_asks : List Str := ["many", "asks", "deed"]
theorem sc_look_at_asks : FnScope N_look_at_asks ["many", "asks"] (defScope s_look_at_asks) := ⟨rfl, rfl, rfl, by decide +kernel, rfl, by decide +kernel, by decide +kernel⟩
theorem fo_look_at_asks {P : Program} {w : World} {K : PySem.W.Frag} {mg : Str → Option Value} {base : Heap} {f : Addr} {fd : FuncData} (B : Bs mg) (C : Cs K mg) (F : Fun K "look_at_asks" "look_at_asks" s_look_at_asks f fd) (D_is_ask : Def P w K mg base 3 "is_ask" ["many", "thing"] (S_is_ask K)) :
    FnOk P w K mg base (L2.CX P w) 4 f fd ["many", "asks"] (lift (S_look_at_asks K)) := by
  refine fn_ok F sc_look_at_asks (fun vs G M R Z h => sp_len2 h) (fun cdv A outer s H E hr => ?_)
  have nd : N_look_at_asks.Nodup := sc_look_at_asks.nd
  have hu : _ + 64 < cLine := hr.units
  have tk : Takes (cxOf (L2.CX P w) P w K mg base N_look_at_asks "look_at_asks" (defScope s_look_at_asks) f cdv A outer s H E) (fun c d _ H => E c d H) := takes_of rfl rfl rfl rfl
  have po : PassesOwn (model P w) _ _ _ := passes_of (X := cxOf (L2.CX P w) P w K mg base N_look_at_asks "look_at_asks" (defScope s_look_at_asks) f cdv A outer s H E) rfl
  exact ⟨rd_look_at_asks K, jss_cons (js_if ((jw_or (jt_not (jt_val (je_callB kc_isi B.isinstance (ja_cons (je_var 1) (ja_cons (je_ty B.list) (ja_nil)))))) (jw_or1 (jt_cmp (kop_gt) (je_callB kc_len B.len (ja_cons (je_var 1) (ja_nil))) (je_const C.k_MOST_ASKS) (nomark _)))).jt) (jss_cons (js_raise C.g_NoAsk C.r_NoAsk tk) (jss_nil)) (jss_nil)) (jss_cons (js_for po rfl (ji_list (je_var 1)) (jg_name (i := 2) nd) (jss_cons (js_if (jt_not (jt_val (je_callD D_is_ask hr tk (ja_cons (je_var 0) (ja_cons (je_var 2) (ja_nil)))))) (jss_cons (js_raise C.g_NoAsk C.r_NoAsk tk) (jss_nil)) (jss_nil)) (jss_nil))) (jss_nil)), fun vs G M R Z h => pf_look_at_asks h⟩
theorem df_look_at_asks {P : Program} {w : World} {K : PySem.W.Frag} {mg : Str → Option Value} {base : Heap} {f : Addr} {fd : FuncData} (B : Bs mg) (C : Cs K mg) (F : Fun K "look_at_asks" "look_at_asks" s_look_at_asks f fd) (b : Binds K fd ["many", "asks"] []) (gm : mg "look_at_asks" = some (.ref f)) (D_is_ask : Def P w K mg base 3 "is_ask" ["many", "thing"] (S_is_ask K)) :
    Def P w K mg base 4 "look_at_asks" ["many", "asks"] (S_look_at_asks K) := ⟨f, fd, fo_look_at_asks B C F D_is_ask, gm, F.kp, b⟩
abbrev s_scan_signs : Stmt := topS 39
abbrev N_scan_signs : List Str := ["many", "asks", "found", "deed", "room"]
theorem sc_scan_signs : FnScope N_scan_signs ["many", "asks"] (defScope s_scan_signs) := ⟨rfl, rfl, rfl, by decide +kernel, rfl, by decide +kernel, by decide +kernel⟩
theorem fo_scan_signs {P : Program} {w : World} {K : PySem.W.Frag} {mg : Str → Option Value} {base : Heap} {f : Addr} {fd : FuncData} (B : Bs mg) (C : Cs K mg) (F : Fun K "scan_signs" "scan_signs" s_scan_signs f fd)  :
    FnOk P w K mg base (L2.CX P w) 1 f fd ["many", "asks"] (lift (S_scan_signs K)) := by
  refine fn_ok F sc_scan_signs (fun vs G M R Z h => sp_len2 h) (fun cdv A outer s H E hr => ?_)
  have nd : N_scan_signs.Nodup := sc_scan_signs.nd
  have hu : _ + 64 < cLine := hr.units
  have tk : Takes (cxOf (L2.CX P w) P w K mg base N_scan_signs "scan_signs" (defScope s_scan_signs) f cdv A outer s H E) (fun c d _ H => E c d H) := takes_of rfl rfl rfl rfl
  have po : PassesOwn (model P w) _ _ _ := passes_of (X := cxOf (L2.CX P w) P w K mg base N_scan_signs "scan_signs" (defScope s_scan_signs) f cdv A outer s H E) rfl
  exact ⟨rd_scan_signs K, jss_cons (js_set (i := 2) (je_lst (ja_nil)) nd) (jss_cons (js_for po rfl (ji_list (je_var 1)) (jg_name (i := 3) nd) (jss_cons (js_for po rfl (ji_range1 B.range (ja_cons (je_var 0) (ja_nil))) (jg_name (i := 4) nd) (jss_cons (js_expr (je_bm PySem.F.plainAttrs_list PySem.F.slot_list_extend PySem.F.type_list_extend km_extend (je_var 2) (ja_cons (je_lst (ja_cons (je_tup (ja_cons (je_str) (ja_cons (je_str) (ja_cons (je_int) (ja_cons (je_var 4) (ja_nil)))))) (ja_cons (je_tup (ja_cons (je_str) (ja_cons (je_str) (ja_cons (je_int) (ja_cons (je_var 4) (ja_nil)))))) (ja_nil)))) (ja_nil)))) (jss_nil))) (jss_nil))) (jss_cons (js_ret (je_var 2)) (jss_nil))), fun vs G M R Z h => pf_scan_signs h⟩
theorem df_scan_signs {P : Program} {w : World} {K : PySem.W.Frag} {mg : Str → Option Value} {base : Heap} {f : Addr} {fd : FuncData} (B : Bs mg) (C : Cs K mg) (F : Fun K "scan_signs" "scan_signs" s_scan_signs f fd) (b : Binds K fd ["many", "asks"] []) (gm : mg "scan_signs" = some (.ref f))  :
    Def P w K mg base 1 "scan_signs" ["many", "asks"] (S_scan_signs K) := ⟨f, fd, fo_scan_signs B C F , gm, F.kp, b⟩
abbrev s_spare_signs : Stmt := topS 32
theorem fo_spare_signs {P : Program} {w : World} {K : PySem.W.Frag} {mg : Str → Option Value} {base : Heap} {f : Addr} {fd : FuncData} (B : Bs mg) (C : Cs K mg) (F : Fun K "spare_signs" "spare_signs" s_spare_signs f fd) :
    FnOk P w K mg base (L2.CX P w) 1 f fd ["many", "asks"] (lift (S_spare_signs K)) := fn_false z_spare_signs
theorem df_spare_signs {P : Program} {w : World} {K : PySem.W.Frag} {mg : Str → Option Value} {base : Heap} {f : Addr} {fd : FuncData} (B : Bs mg) (C : Cs K mg) (F : Fun K "spare_signs" "spare_signs" s_spare_signs f fd) (b : Binds K fd ["many", "asks"] []) (gm : mg "spare_signs" = some (.ref f))  :
    Def P w K mg base 1 "spare_signs" ["many", "asks"] (S_spare_signs K) := ⟨f, fd, fo_spare_signs B C F , gm, F.kp, b⟩
abbrev s_stairs_signs : Stmt := topS 37
theorem fo_stairs_signs {P : Program} {w : World} {K : PySem.W.Frag} {mg : Str → Option Value} {base : Heap} {f : Addr} {fd : FuncData} (B : Bs mg) (C : Cs K mg) (F : Fun K "stairs_signs" "stairs_signs" s_stairs_signs f fd) :
    FnOk P w K mg base (L2.CX P w) 1 f fd ["many", "asks"] (lift (S_stairs_signs K)) := fn_false z_stairs_signs
theorem df_stairs_signs {P : Program} {w : World} {K : PySem.W.Frag} {mg : Str → Option Value} {base : Heap} {f : Addr} {fd : FuncData} (B : Bs mg) (C : Cs K mg) (F : Fun K "stairs_signs" "stairs_signs" s_stairs_signs f fd) (b : Binds K fd ["many", "asks"] []) (gm : mg "stairs_signs" = some (.ref f))  :
    Def P w K mg base 1 "stairs_signs" ["many", "asks"] (S_stairs_signs K) := ⟨f, fd, fo_stairs_signs B C F , gm, F.kp, b⟩
abbrev s_starts_of : Stmt := topS 41
abbrev N_starts_of : List Str := ["trees", "starts", "ahead", "cells"]
theorem sc_starts_of : FnScope N_starts_of ["trees"] (defScope s_starts_of) := ⟨rfl, rfl, rfl, by decide +kernel, rfl, by decide +kernel, by decide +kernel⟩
theorem fo_starts_of {P : Program} {w : World} {K : PySem.W.Frag} {mg : Str → Option Value} {base : Heap} {f : Addr} {fd : FuncData} (B : Bs mg) (C : Cs K mg) (F : Fun K "starts_of" "starts_of" s_starts_of f fd)  :
    FnOk P w K mg base (L2.CX P w) 1 f fd ["trees"] (lift (S_starts_of K)) := by
  refine fn_ok F sc_starts_of (fun vs G M R Z h => sp_len1 h) (fun cdv A outer s H E hr => ?_)
  have nd : N_starts_of.Nodup := sc_starts_of.nd
  have hu : _ + 64 < cLine := hr.units
  have tk : Takes (cxOf (L2.CX P w) P w K mg base N_starts_of "starts_of" (defScope s_starts_of) f cdv A outer s H E) (fun c d _ H => E c d H) := takes_of rfl rfl rfl rfl
  have po : PassesOwn (model P w) _ _ _ := passes_of (X := cxOf (L2.CX P w) P w K mg base N_starts_of "starts_of" (defScope s_starts_of) f cdv A outer s H E) rfl
  exact ⟨rd_starts_of K, jss_cons (js_set (i := 1) (je_lst (ja_nil)) nd) (jss_cons (js_set (i := 2) (je_int) nd) (jss_cons (js_for po rfl (ji_list (je_var 0)) (jg_name (i := 3) nd) (jss_cons (js_expr (je_bm PySem.F.plainAttrs_list PySem.F.slot_list_append PySem.F.type_list_append km_append (je_var 1) (ja_cons (je_var 2) (ja_nil)))) (jss_cons (js_set (i := 2) (je_op kop_add (je_var 2) (je_var 3)) nd) (jss_nil)))) (jss_cons (js_ret (je_tup (ja_cons (je_var 1) (ja_cons (je_var 2) (ja_nil))))) (jss_nil)))), fun vs G M R Z h => pf_starts_of h⟩
theorem df_starts_of {P : Program} {w : World} {K : PySem.W.Frag} {mg : Str → Option Value} {base : Heap} {f : Addr} {fd : FuncData} (B : Bs mg) (C : Cs K mg) (F : Fun K "starts_of" "starts_of" s_starts_of f fd) (b : Binds K fd ["trees"] []) (gm : mg "starts_of" = some (.ref f))  :
    Def P w K mg base 1 "starts_of" ["trees"] (S_starts_of K) := ⟨f, fd, fo_starts_of B C F , gm, F.kp, b⟩
abbrev s_high_of : Stmt := topS 14
abbrev N_high_of : List Str := ["many", "high"]
theorem sc_high_of : FnScope N_high_of ["many"] (defScope s_high_of) := ⟨rfl, rfl, rfl, by decide +kernel, rfl, by decide +kernel, by decide +kernel⟩
theorem fo_high_of {P : Program} {w : World} {K : PySem.W.Frag} {mg : Str → Option Value} {base : Heap} {f : Addr} {fd : FuncData} (B : Bs mg) (C : Cs K mg) (F : Fun K "high_of" "high_of" s_high_of f fd)  :
    FnOk P w K mg base (L2.CX P w) 1 f fd ["many"] (lift (S_high_of K)) := by
  refine fn_ok F sc_high_of (fun vs G M R Z h => sp_len1 h) (fun cdv A outer s H E hr => ?_)
  have nd : N_high_of.Nodup := sc_high_of.nd
  have hu : _ + 64 < cLine := hr.units
  have tk : Takes (cxOf (L2.CX P w) P w K mg base N_high_of "high_of" (defScope s_high_of) f cdv A outer s H E) (fun c d _ H => E c d H) := takes_of rfl rfl rfl rfl
  have po : PassesOwn (model P w) _ _ _ := passes_of (X := cxOf (L2.CX P w) P w K mg base N_high_of "high_of" (defScope s_high_of) f cdv A outer s H E) rfl
  exact ⟨rd_high_of K, jss_cons (js_set (i := 1) (je_int) nd) (jss_cons (js_while po (jt_cmp (kop_lt) (je_op kop_shl (je_int) (je_var 1)) (je_var 0) (nomark _)) (jss_cons (js_set (i := 1) (je_op kop_add (je_var 1) (je_int)) nd) (jss_nil))) (jss_cons (js_ret (je_var 1)) (jss_nil))), fun vs G M R Z h => pf_high_of h⟩
theorem df_high_of {P : Program} {w : World} {K : PySem.W.Frag} {mg : Str → Option Value} {base : Heap} {f : Addr} {fd : FuncData} (B : Bs mg) (C : Cs K mg) (F : Fun K "high_of" "high_of" s_high_of f fd) (b : Binds K fd ["many"] []) (gm : mg "high_of" = some (.ref f))  :
    Def P w K mg base 1 "high_of" ["many"] (S_high_of K) := ⟨f, fd, fo_high_of B C F , gm, F.kp, b⟩
abbrev s_way_there : Stmt := topS 40
abbrev N_way_there : List Str := ["shelf", "draw", "high", "found", "depth", "side"]
theorem sc_way_there : FnScope N_way_there ["shelf", "draw", "high"] (defScope s_way_there) := ⟨rfl, rfl, rfl, by decide +kernel, rfl, by decide +kernel, by decide +kernel⟩
theorem fo_way_there {P : Program} {w : World} {K : PySem.W.Frag} {mg : Str → Option Value} {base : Heap} {f : Addr} {fd : FuncData} (B : Bs mg) (C : Cs K mg) (F : Fun K "way_there" "way_there" s_way_there f fd)  :
    FnOk P w K mg base (L2.CX P w) 1 f fd ["shelf", "draw", "high"] (lift (S_way_there K)) := by
  refine fn_ok F sc_way_there (fun vs G M R Z h => sp_len3 h) (fun cdv A outer s H E hr => ?_)
  have nd : N_way_there.Nodup := sc_way_there.nd
  have hu : _ + 64 < cLine := hr.units
  have tk : Takes (cxOf (L2.CX P w) P w K mg base N_way_there "way_there" (defScope s_way_there) f cdv A outer s H E) (fun c d _ H => E c d H) := takes_of rfl rfl rfl rfl
  have po : PassesOwn (model P w) _ _ _ := passes_of (X := cxOf (L2.CX P w) P w K mg base N_way_there "way_there" (defScope s_way_there) f cdv A outer s H E) rfl
  exact ⟨rd_way_there K, jss_cons (js_set (i := 3) (je_lst (ja_nil)) nd) (jss_cons (js_for po rfl (ji_range1 B.range (ja_cons (je_op kop_add (je_var 2) (je_int)) (ja_nil))) (jg_name (i := 4) nd) (jss_cons (js_expr (je_bm PySem.F.plainAttrs_list PySem.F.slot_list_extend PySem.F.type_list_extend km_extend (je_var 3) (ja_cons (je_comp (own := [("side", 5)]) rfl nd (ji_tup (je_conT C.k_SIDES)) (blkOk_by (own := [("side", 5)]) (N := N_way_there) (sc := defScope s_way_there) (by decide +kernel)) (fun _ _ _ _ _ => by exact jg_name (i := 5) nd) (fun _ _ _ _ _ => by exact jts_nil) (fun _ _ _ _ _ => by exact je_tup (ja_cons (je_str) (ja_cons (je_str) (ja_cons (je_var 0) (ja_cons (je_var 1) (ja_cons (je_var 4) (ja_cons (je_var 5) (ja_nil))))))))) (ja_nil)))) (jss_nil))) (jss_cons (js_for po rfl (ji_range3 B.range (ja_cons (je_var 2) (ja_cons (je_neg (je_int)) (ja_cons (je_neg (je_int)) (ja_nil))))) (jg_name (i := 4) nd) (jss_cons (js_expr (je_bm PySem.F.plainAttrs_list PySem.F.slot_list_extend PySem.F.type_list_extend km_extend (je_var 3) (ja_cons (je_comp (own := [("side", 5)]) rfl nd (ji_tup (je_conT C.k_SIDES)) (blkOk_by (own := [("side", 5)]) (N := N_way_there) (sc := defScope s_way_there) (by decide +kernel)) (fun _ _ _ _ _ => by exact jg_name (i := 5) nd) (fun _ _ _ _ _ => by exact jts_nil) (fun _ _ _ _ _ => by exact je_tup (ja_cons (je_str) (ja_cons (je_str) (ja_cons (je_var 0) (ja_cons (je_var 1) (ja_cons (je_var 4) (ja_cons (je_var 5) (ja_nil))))))))) (ja_nil)))) (jss_nil))) (jss_cons (js_ret (je_var 3)) (jss_nil)))), fun vs G M R Z h => pf_way_there h⟩
theorem df_way_there {P : Program} {w : World} {K : PySem.W.Frag} {mg : Str → Option Value} {base : Heap} {f : Addr} {fd : FuncData} (B : Bs mg) (C : Cs K mg) (F : Fun K "way_there" "way_there" s_way_there f fd) (b : Binds K fd ["shelf", "draw", "high"] []) (gm : mg "way_there" = some (.ref f))  :
    Def P w K mg base 1 "way_there" ["shelf", "draw", "high"] (S_way_there K) := ⟨f, fd, fo_way_there B C F , gm, F.kp, b⟩
abbrev s_grove_signs : Stmt := topS 42
abbrev N_grove_signs : List Str := ["trees", "asks", "starts", "ahead", "shown", "start", "cells", "found", "number", "deed", "tree", "cell"]
theorem sc_grove_signs : FnScope N_grove_signs ["trees", "asks"] (defScope s_grove_signs) := ⟨rfl, rfl, rfl, by decide +kernel, rfl, by decide +kernel, by decide +kernel⟩
theorem fo_grove_signs {P : Program} {w : World} {K : PySem.W.Frag} {mg : Str → Option Value} {base : Heap} {f : Addr} {fd : FuncData} (B : Bs mg) (C : Cs K mg) (F : Fun K "grove_signs" "grove_signs" s_grove_signs f fd) (D_starts_of : Def P w K mg base 1 "starts_of" ["trees"] (S_starts_of K)) (D_high_of : Def P w K mg base 1 "high_of" ["many"] (S_high_of K)) (D_way_there : Def P w K mg base 1 "way_there" ["shelf", "draw", "high"] (S_way_there K)) :
    FnOk P w K mg base (L2.CX P w) 2 f fd ["trees", "asks"] (lift (S_grove_signs K)) := by
  refine fn_ok F sc_grove_signs (fun vs G M R Z h => sp_len2 h) (fun cdv A outer s H E hr => ?_)
  have nd : N_grove_signs.Nodup := sc_grove_signs.nd
  have hu : _ + 64 < cLine := hr.units
  have tk : Takes (cxOf (L2.CX P w) P w K mg base N_grove_signs "grove_signs" (defScope s_grove_signs) f cdv A outer s H E) (fun c d _ H => E c d H) := takes_of rfl rfl rfl rfl
  have po : PassesOwn (model P w) _ _ _ := passes_of (X := cxOf (L2.CX P w) P w K mg base N_grove_signs "grove_signs" (defScope s_grove_signs) f cdv A outer s H E) rfl
  exact ⟨rd_grove_signs K, jss_cons (js_asg (je_callD D_starts_of hr tk (ja_cons (je_var 0) (ja_nil))) (jg_tup rfl (jgs_cons (jg_name (i := 2) nd) (jgs_cons (jg_name (i := 3) nd) (jgs_nil))))) (jss_cons (js_setComp (own := [("start", 5), ("cells", 6)]) (i := 4) rfl nd (sw_true rfl rfl rfl (by decide +kernel)) (ji_zip B.zip (ja_cons (je_var 2) (ja_cons (je_var 0) (ja_nil)))) (blkOk_by (own := [("start", 5), ("cells", 6)]) (N := N_grove_signs) (sc := defScope s_grove_signs) (by decide +kernel)) (fun _ _ _ _ _ => by exact jg_tup rfl (jgs_cons (jg_name (i := 5) nd) (jgs_cons (jg_name (i := 6) nd) (jgs_nil)))) (fun _ _ _ _ _ => by exact jts_nil) (fun _ _ _ _ _ => by exact je_listR2 B.list B.range (je_var 5) (je_op kop_add (je_var 5) (je_var 6)))) (jss_cons (js_set (i := 7) (je_lst (ja_nil)) nd) (jss_cons (js_for po rfl (ji_enum B.enumerate (ja_cons (je_var 1) (ja_nil))) (jg_tup rfl (jgs_cons (jg_name (i := 8) nd) (jgs_cons (jg_name (i := 9) nd) (jgs_nil)))) (jss_cons (js_for po rfl (ji_range3 B.range (ja_cons (je_op kop_sub (je_callB kc_len B.len (ja_cons (je_var 0) (ja_nil))) (je_int)) (ja_cons (je_neg (je_int)) (ja_cons (je_neg (je_int)) (ja_nil))))) (jg_name (i := 10) nd) (jss_cons (js_set (i := 11) (je_op kop_shr (je_ix (je_var 9) (je_int)) (je_op kop_mul (je_int) (je_var 10))) nd) (jss_cons (js_expr (je_bm PySem.F.plainAttrs_list PySem.F.slot_list_extend PySem.F.type_list_extend km_extend (je_var 7) (ja_cons (je_callD D_way_there hr tk (ja_cons (je_var 10) (ja_cons (je_ix (je_ix (je_var 4) (je_var 10)) (je_var 11)) (ja_cons (je_callD D_high_of hr tk (ja_cons (je_ix (je_var 0) (je_var 10)) (ja_nil))) (ja_nil))))) (ja_nil)))) (jss_cons (js_asg (je_op kop_add (je_op kop_add (je_var 3) (je_op kop_mul (je_var 8) (je_callB kc_len B.len (ja_cons (je_var 0) (ja_nil))))) (je_var 10)) (jg_ix (je_ix (je_var 4) (je_var 10)) (je_var 11))) (jss_nil))))) (jss_nil))) (jss_cons (js_ret (je_var 7)) (jss_nil))))), fun vs G M R Z h => pf_grove_signs h⟩
theorem df_grove_signs {P : Program} {w : World} {K : PySem.W.Frag} {mg : Str → Option Value} {base : Heap} {f : Addr} {fd : FuncData} (B : Bs mg) (C : Cs K mg) (F : Fun K "grove_signs" "grove_signs" s_grove_signs f fd) (b : Binds K fd ["trees", "asks"] []) (gm : mg "grove_signs" = some (.ref f)) (D_starts_of : Def P w K mg base 1 "starts_of" ["trees"] (S_starts_of K)) (D_high_of : Def P w K mg base 1 "high_of" ["many"] (S_high_of K)) (D_way_there : Def P w K mg base 1 "way_there" ["shelf", "draw", "high"] (S_way_there K)) :
    Def P w K mg base 2 "grove_signs" ["trees", "asks"] (S_grove_signs K) := ⟨f, fd, fo_grove_signs B C F D_starts_of D_high_of D_way_there, gm, F.kp, b⟩
abbrev s_trees_of : Stmt := topS 18
abbrev N_trees_of : List Str := ["many", "found"]
theorem sc_trees_of : FnScope N_trees_of ["many"] (defScope s_trees_of) := ⟨rfl, rfl, rfl, by decide +kernel, rfl, by decide +kernel, by decide +kernel⟩
theorem fo_trees_of {P : Program} {w : World} {K : PySem.W.Frag} {mg : Str → Option Value} {base : Heap} {f : Addr} {fd : FuncData} (B : Bs mg) (C : Cs K mg) (F : Fun K "trees_of" "trees_of" s_trees_of f fd)  :
    FnOk P w K mg base (L2.CX P w) 1 f fd ["many"] (lift (S_trees_of K)) := by
  refine fn_ok F sc_trees_of (fun vs G M R Z h => sp_len1 h) (fun cdv A outer s H E hr => ?_)
  have nd : N_trees_of.Nodup := sc_trees_of.nd
  have hu : _ + 64 < cLine := hr.units
  have tk : Takes (cxOf (L2.CX P w) P w K mg base N_trees_of "trees_of" (defScope s_trees_of) f cdv A outer s H E) (fun c d _ H => E c d H) := takes_of rfl rfl rfl rfl
  have po : PassesOwn (model P w) _ _ _ := passes_of (X := cxOf (L2.CX P w) P w K mg base N_trees_of "trees_of" (defScope s_trees_of) f cdv A outer s H E) rfl
  exact ⟨rd_trees_of K, jss_cons (js_set (i := 1) (je_lst (ja_cons (je_var 0) (ja_nil))) nd) (jss_cons (js_while po (jt_cmp (kop_gt) (je_ix (je_var 1) (je_neg (je_int))) (je_const C.k_TABLE) (nomark _)) (jss_cons (js_expr (je_bm PySem.F.plainAttrs_list PySem.F.slot_list_append PySem.F.type_list_append km_append (je_var 1) (ja_cons (je_op kop_fdiv (je_op kop_sub (je_op kop_add (je_ix (je_var 1) (je_neg (je_int))) (je_const C.k_TABLE)) (je_int)) (je_const C.k_TABLE)) (ja_nil)))) (jss_nil))) (jss_cons (js_ret (je_var 1)) (jss_nil))), fun vs G M R Z h => pf_trees_of h⟩
theorem df_trees_of {P : Program} {w : World} {K : PySem.W.Frag} {mg : Str → Option Value} {base : Heap} {f : Addr} {fd : FuncData} (B : Bs mg) (C : Cs K mg) (F : Fun K "trees_of" "trees_of" s_trees_of f fd) (b : Binds K fd ["many"] []) (gm : mg "trees_of" = some (.ref f))  :
    Def P w K mg base 1 "trees_of" ["many"] (S_trees_of K) := ⟨f, fd, fo_trees_of B C F , gm, F.kp, b⟩
abbrev s_signs_by : Stmt := topS 45
abbrev N_signs_by : List Str := ["way", "many", "asks"]
theorem sc_signs_by : FnScope N_signs_by ["way", "many", "asks"] (defScope s_signs_by) := ⟨rfl, rfl, rfl, by decide +kernel, rfl, by decide +kernel, by decide +kernel⟩
theorem fo_signs_by {P : Program} {w : World} {K : PySem.W.Frag} {mg : Str → Option Value} {base : Heap} {f : Addr} {fd : FuncData} (B : Bs mg) (C : Cs K mg) (F : Fun K "signs_by" "signs_by" s_signs_by f fd) (D_scan_signs : Def P w K mg base 1 "scan_signs" ["many", "asks"] (S_scan_signs K)) (D_spare_signs : Def P w K mg base 1 "spare_signs" ["many", "asks"] (S_spare_signs K)) (D_stairs_signs : Def P w K mg base 1 "stairs_signs" ["many", "asks"] (S_stairs_signs K)) (D_grove_signs : Def P w K mg base 2 "grove_signs" ["trees", "asks"] (S_grove_signs K)) (D_trees_of : Def P w K mg base 1 "trees_of" ["many"] (S_trees_of K)) :
    FnOk P w K mg base (L2.CX P w) 3 f fd ["way", "many", "asks"] (lift (S_signs_by K)) := by
  refine fn_ok F sc_signs_by (fun vs G M R Z h => sp_len3 h) (fun cdv A outer s H E hr => ?_)
  have nd : N_signs_by.Nodup := sc_signs_by.nd
  have hu : _ + 64 < cLine := hr.units
  have tk : Takes (cxOf (L2.CX P w) P w K mg base N_signs_by "signs_by" (defScope s_signs_by) f cdv A outer s H E) (fun c d _ H => E c d H) := takes_of rfl rfl rfl rfl
  have po : PassesOwn (model P w) _ _ _ := passes_of (X := cxOf (L2.CX P w) P w K mg base N_signs_by "signs_by" (defScope s_signs_by) f cdv A outer s H E) rfl
  exact ⟨rd_signs_by K, jss_cons (js_if (jt_cmp (kop_eq hu) (je_var 0) (je_str) (nomark _)) (jss_cons (js_ret (je_callD D_scan_signs hr tk (ja_cons (je_var 1) (ja_cons (je_var 2) (ja_nil))))) (jss_nil)) (jss_nil)) (jss_cons (js_if (jt_cmp (kop_eq hu) (je_var 0) (je_str) (nomark _)) (jss_cons (js_ret (je_callD D_spare_signs hr tk (ja_cons (je_var 1) (ja_cons (je_var 2) (ja_nil))))) (jss_nil)) (jss_nil)) (jss_cons (js_if (jt_cmp (kop_eq hu) (je_var 0) (je_str) (nomark _)) (jss_cons (js_ret (je_callD D_stairs_signs hr tk (ja_cons (je_var 1) (ja_cons (je_var 2) (ja_nil))))) (jss_nil)) (jss_nil)) (jss_cons (js_if (jt_cmp (kop_eq hu) (je_var 0) (je_str) (nomark _)) (jss_cons (js_ret (je_callD D_grove_signs hr tk (ja_cons (je_lst (ja_cons (je_var 1) (ja_nil))) (ja_cons (je_var 2) (ja_nil))))) (jss_nil)) (jss_nil)) (jss_cons (js_ret (je_callD D_grove_signs hr tk (ja_cons (je_callD D_trees_of hr tk (ja_cons (je_var 1) (ja_nil))) (ja_cons (je_var 2) (ja_nil))))) (jss_nil))))), fun vs G M R Z h => pf_signs_by h⟩
theorem df_signs_by {P : Program} {w : World} {K : PySem.W.Frag} {mg : Str → Option Value} {base : Heap} {f : Addr} {fd : FuncData} (B : Bs mg) (C : Cs K mg) (F : Fun K "signs_by" "signs_by" s_signs_by f fd) (b : Binds K fd ["way", "many", "asks"] []) (gm : mg "signs_by" = some (.ref f)) (D_scan_signs : Def P w K mg base 1 "scan_signs" ["many", "asks"] (S_scan_signs K)) (D_spare_signs : Def P w K mg base 1 "spare_signs" ["many", "asks"] (S_spare_signs K)) (D_stairs_signs : Def P w K mg base 1 "stairs_signs" ["many", "asks"] (S_stairs_signs K)) (D_grove_signs : Def P w K mg base 2 "grove_signs" ["trees", "asks"] (S_grove_signs K)) (D_trees_of : Def P w K mg base 1 "trees_of" ["many"] (S_trees_of K)) :
    Def P w K mg base 3 "signs_by" ["way", "many", "asks"] (S_signs_by K) := ⟨f, fd, fo_signs_by B C F D_scan_signs D_spare_signs D_stairs_signs D_grove_signs D_trees_of, gm, F.kp, b⟩
abbrev s_signs_of : Stmt := topS 46
abbrev N_signs_of : List Str := ["way", "many", "asks"]
theorem sc_signs_of : FnScope N_signs_of ["way", "many", "asks"] (defScope s_signs_of) := ⟨rfl, rfl, rfl, by decide +kernel, rfl, by decide +kernel, by decide +kernel⟩
theorem fo_signs_of {P : Program} {w : World} {K : PySem.W.Frag} {mg : Str → Option Value} {base : Heap} {f : Addr} {fd : FuncData} (B : Bs mg) (C : Cs K mg) (F : Fun K "signs_of" "signs_of" s_signs_of f fd) (D_look_at_way : Def P w K mg base 1 "look_at_way" ["way"] (S_look_at_way K)) (D_look_at_many : Def P w K mg base 3 "look_at_many" ["many"] (S_look_at_many K)) (D_look_at_asks : Def P w K mg base 4 "look_at_asks" ["many", "asks"] (S_look_at_asks K)) (D_signs_by : Def P w K mg base 3 "signs_by" ["way", "many", "asks"] (S_signs_by K)) :
    FnOk P w K mg base (L2.CX P w) 5 f fd ["way", "many", "asks"] (lift (S_signs_of K)) := by
  refine fn_ok F sc_signs_of (fun vs G M R Z h => sp_len3 h) (fun cdv A outer s H E hr => ?_)
  have nd : N_signs_of.Nodup := sc_signs_of.nd
  have hu : _ + 64 < cLine := hr.units
  have tk : Takes (cxOf (L2.CX P w) P w K mg base N_signs_of "signs_of" (defScope s_signs_of) f cdv A outer s H E) (fun c d _ H => E c d H) := takes_of rfl rfl rfl rfl
  have po : PassesOwn (model P w) _ _ _ := passes_of (X := cxOf (L2.CX P w) P w K mg base N_signs_of "signs_of" (defScope s_signs_of) f cdv A outer s H E) rfl
  exact ⟨rd_signs_of K, jss_cons (js_expr (je_callD D_look_at_way hr tk (ja_cons (je_var 0) (ja_nil)))) (jss_cons (js_expr (je_callD D_look_at_many hr tk (ja_cons (je_var 1) (ja_nil)))) (jss_cons (js_expr (je_callD D_look_at_asks hr tk (ja_cons (je_var 1) (ja_cons (je_var 2) (ja_nil))))) (jss_cons (js_ret (je_callD D_signs_by hr tk (ja_cons (je_var 0) (ja_cons (je_var 1) (ja_cons (je_var 2) (ja_nil)))))) (jss_nil)))), fun vs G M R Z h => pf_signs_of h⟩
theorem df_signs_of {P : Program} {w : World} {K : PySem.W.Frag} {mg : Str → Option Value} {base : Heap} {f : Addr} {fd : FuncData} (B : Bs mg) (C : Cs K mg) (F : Fun K "signs_of" "signs_of" s_signs_of f fd) (b : Binds K fd ["way", "many", "asks"] []) (gm : mg "signs_of" = some (.ref f)) (D_look_at_way : Def P w K mg base 1 "look_at_way" ["way"] (S_look_at_way K)) (D_look_at_many : Def P w K mg base 3 "look_at_many" ["many"] (S_look_at_many K)) (D_look_at_asks : Def P w K mg base 4 "look_at_asks" ["many", "asks"] (S_look_at_asks K)) (D_signs_by : Def P w K mg base 3 "signs_by" ["way", "many", "asks"] (S_signs_by K)) :
    Def P w K mg base 5 "signs_of" ["way", "many", "asks"] (S_signs_of K) := ⟨f, fd, fo_signs_of B C F D_look_at_way D_look_at_many D_look_at_asks D_signs_by, gm, F.kp, b⟩
abbrev s_law_whole : Stmt := topS 50
abbrev N_law_whole : List Str := ["_law_found"]
theorem sc_law_whole : FnScope N_law_whole ["_law_found"] (defScope s_law_whole) := ⟨rfl, rfl, rfl, by decide +kernel, rfl, by decide +kernel, by decide +kernel⟩
theorem fo_law_whole {P : Program} {w : World} {K : PySem.W.Frag} {mg : Str → Option Value} {base : Heap} {f : Addr} {fd : FuncData} (B : Bs mg) (C : Cs K mg) (F : Fun K "_law_whole" "_law_whole" s_law_whole f fd)  :
    FnOk P w K mg base (L2.CX P w) 1 f fd ["_law_found"] (lift (S_law_whole K)) := by
  refine fn_ok F sc_law_whole (fun vs G M R Z h => sp_len1 h) (fun cdv A outer s H E hr => ?_)
  have nd : N_law_whole.Nodup := sc_law_whole.nd
  have hu : _ + 64 < cLine := hr.units
  have tk : Takes (cxOf (L2.CX P w) P w K mg base N_law_whole "_law_whole" (defScope s_law_whole) f cdv A outer s H E) (fun c d _ H => E c d H) := takes_of rfl rfl rfl rfl
  have po : PassesOwn (model P w) _ _ _ := passes_of (X := cxOf (L2.CX P w) P w K mg base N_law_whole "_law_whole" (defScope s_law_whole) f cdv A outer s H E) rfl
  exact ⟨rd_law_whole K, jss_cons (js_ret (je_and (je_callB kc_isi B.isinstance (ja_cons (je_var 0) (ja_cons (je_ty B.int) (ja_nil)))) (je_one (je_not (je_callB kc_isi B.isinstance (ja_cons (je_var 0) (ja_cons (je_ty B.bool) (ja_nil)))))))) (jss_nil), fun vs G M R Z h => pf_law_whole h⟩
theorem df_law_whole {P : Program} {w : World} {K : PySem.W.Frag} {mg : Str → Option Value} {base : Heap} {f : Addr} {fd : FuncData} (B : Bs mg) (C : Cs K mg) (F : Fun K "_law_whole" "_law_whole" s_law_whole f fd) (b : Binds K fd ["_law_found"] []) (gm : mg "_law_whole" = some (.ref f))  :
    Def P w K mg base 1 "_law_whole" ["_law_found"] (S_law_whole K) := ⟨f, fd, fo_law_whole B C F , gm, F.kp, b⟩
abbrev s_law_is : Stmt := topS 58
abbrev N_law_is : List Str := ["_law_found", "_law_due_here", "_law_sign", "_law_part"]
theorem sc_law_is : FnScope N_law_is ["_law_found", "_law_due_here"] (defScope s_law_is) := ⟨rfl, rfl, rfl, by decide +kernel, rfl, by decide +kernel, by decide +kernel⟩
theorem fo_law_is {P : Program} {w : World} {K : PySem.W.Frag} {mg : Str → Option Value} {base : Heap} {f : Addr} {fd : FuncData} (B : Bs mg) (C : Cs K mg) (F : Fun K "_law_is" "_law_is" s_law_is f fd) (D_law_whole : Def P w K mg base 1 "_law_whole" ["_law_found"] (S_law_whole K)) :
    FnOk P w K mg base (L2.CX P w) 2 f fd ["_law_found", "_law_due_here"] (lift (S_law_is K)) := by
  refine fn_ok F sc_law_is (fun vs G M R Z h => sp_len2 h) (fun cdv A outer s H E hr => ?_)
  have nd : N_law_is.Nodup := sc_law_is.nd
  have hu : _ + 64 < cLine := hr.units
  have tk : Takes (cxOf (L2.CX P w) P w K mg base N_law_is "_law_is" (defScope s_law_is) f cdv A outer s H E) (fun c d _ H => E c d H) := takes_of rfl rfl rfl rfl
  have po : PassesOwn (model P w) _ _ _ := passes_of (X := cxOf (L2.CX P w) P w K mg base N_law_is "_law_is" (defScope s_law_is) f cdv A outer s H E) rfl
  exact ⟨rd_law_is K, jss_cons (js_if ((jw_or (jt_not (jt_val (je_callB kc_isi B.isinstance (ja_cons (je_var 0) (ja_cons (je_ty B.list) (ja_nil)))))) (jw_or1 (jt_cmp (kop_ne hu) (je_var 0) (je_var 1) (nomark _)))).jt) (jss_cons (js_ret (je_bl)) (jss_nil)) (jss_nil)) (jss_cons (js_for po rfl (ji_list (je_var 0)) (jg_name (i := 2) nd) (jss_cons (js_if ((jw_or (jt_not (jt_val (je_callB kc_isi B.isinstance (ja_cons (je_var 2) (ja_cons (je_ty B.tuple) (ja_nil)))))) (jw_or1 (jt_not (jt_val (je_callB kc_all B.all (ja_cons (je_comp (own := [("_law_part", 3)]) rfl nd (ji_tup (je_slT (je_var 2) (jo_some (je_int)) (jo_none))) (blkOk_by (own := [("_law_part", 3)]) (N := N_law_is) (sc := defScope s_law_is) (by decide +kernel)) (fun _ _ _ _ _ => by exact jg_name (i := 3) nd) (fun _ _ _ _ _ => by exact jts_nil) (fun _ _ _ _ _ => by exact je_callD D_law_whole hr takes0 (ja_cons (je_var 3) (ja_nil)))) (ja_nil))))))).jt) (jss_cons (js_ret (je_bl)) (jss_nil)) (jss_nil)) (jss_nil))) (jss_cons (js_ret (je_bl)) (jss_nil))), fun vs G M R Z h => pf_law_is h⟩
theorem df_law_is {P : Program} {w : World} {K : PySem.W.Frag} {mg : Str → Option Value} {base : Heap} {f : Addr} {fd : FuncData} (B : Bs mg) (C : Cs K mg) (F : Fun K "_law_is" "_law_is" s_law_is f fd) (b : Binds K fd ["_law_found", "_law_due_here"] []) (gm : mg "_law_is" = some (.ref f)) (D_law_whole : Def P w K mg base 1 "_law_whole" ["_law_found"] (S_law_whole K)) :
    Def P w K mg base 2 "_law_is" ["_law_found", "_law_due_here"] (S_law_is K) := ⟨f, fd, fo_law_is B C F D_law_whole, gm, F.kp, b⟩
abbrev s_law : Stmt := topS 59
abbrev N_law : List Str := ["_law_script", "_law_k", "_law_pool_here", "_law_many_here", "_law_asks", "_law_way", "_law_handed", "_law_due_here", "_law_found", "_law_j"]
theorem sc_law : FnScope N_law ["_law_script"] (defScope s_law) := ⟨rfl, rfl, rfl, by decide +kernel, rfl, by decide +kernel, by decide +kernel⟩
theorem fo_law {P : Program} {w : World} {K : PySem.W.Frag} {mg : Str → Option Value} {base : Heap} {f : Addr} {fd : FuncData} (B : Bs mg) (C : Cs K mg) (F : Fun K "law" "law" s_law f fd) (D_law_pool : Def P w K mg base 1 "_law_pool" ["_law_script", "_law_k"] (S_law_pool K)) (D_law_many : Def P w K mg base 2 "_law_many" ["_law_pool_here"] (S_law_many K)) (D_law_take : Def P w K mg base 1 "_law_take" ["_law_pool_here", "_law_many_here"] (S_law_take K)) (D_law_ask : Def P w K mg base 3 "_law_ask" ["_law_pool_here", "_law_many_here"] (S_law_ask K)) (D_law_due : Def P w K mg base 2 "_law_due" ["_law_way", "_law_many_here", "_law_asks"] (S_law_due K)) (D_signs_of : Def P w K mg base 5 "signs_of" ["way", "many", "asks"] (S_signs_of K)) (D_law_is : Def P w K mg base 2 "_law_is" ["_law_found", "_law_due_here"] (S_law_is K)) :
    FnOk P w K mg base (L2.CX P w) 6 f fd ["_law_script"] (lift (S_law K)) := by
  refine fn_ok F sc_law (fun vs G M R Z h => sp_len1 h) (fun cdv A outer s H E hr => ?_)
  have nd : N_law.Nodup := sc_law.nd
  have hu : _ + 64 < cLine := hr.units
  have tk : Takes (cxOf (L2.CX P w) P w K mg base N_law "law" (defScope s_law) f cdv A outer s H E) (fun c d _ H => E c d H) := takes_of rfl rfl rfl rfl
  have po : PassesOwn (model P w) _ _ _ := passes_of (X := cxOf (L2.CX P w) P w K mg base N_law "law" (defScope s_law) f cdv A outer s H E) rfl
  exact ⟨rd_law K, jss_cons (js_for po rfl (ji_range1 B.range (ja_cons (je_callB kc_max2 B.max (ja_cons (je_int) (ja_cons (je_callB kc_min2 B.min (ja_cons (je_callB kc_len B.len (ja_cons (je_var 0) (ja_nil))) (ja_cons (je_int) (ja_nil)))) (ja_nil)))) (ja_nil))) (jg_name (i := 1) nd) (jss_cons (js_set (i := 2) (je_callD D_law_pool hr tk (ja_cons (je_var 0) (ja_cons (je_var 1) (ja_nil)))) nd) (jss_cons (js_set (i := 3) (je_callD D_law_many hr tk (ja_cons (je_var 2) (ja_nil))) nd) (jss_cons (js_setComp (own := [("_law_j", 9)]) (i := 4) rfl nd (sw_true rfl rfl rfl (by decide +kernel)) (ji_range1 B.range (ja_cons (je_callD D_law_take hr tk (ja_cons (je_var 2) (ja_cons (je_ix (je_lst (ja_cons (je_int) (ja_cons (je_int) (ja_nil)))) (je_callTy kc_int B.int (ja_cons (je_cmp (kop_gt) (je_var 3) (je_int) (nomark _)) (ja_nil)))) (ja_nil)))) (ja_nil))) (blkOk_by (own := [("_law_j", 9)]) (N := N_law) (sc := defScope s_law) (by decide +kernel)) (fun _ _ _ _ _ => by exact jg_name (i := 9) nd) (fun _ _ _ _ _ => by exact jts_nil) (fun _ _ _ _ _ => by exact je_callD D_law_ask hr takes0 (ja_cons (je_var 2) (ja_cons (je_var 3) (ja_nil))))) (jss_cons (js_for po rfl (ji_w (ji_list (je_lst (ja_cons (je_str) (ja_cons (je_str) (ja_cons (je_str) (ja_nil))))))) (jg_name (i := 5) nd) (jss_cons (js_set (i := 6) (je_callTy kc_list B.list (ja_cons (je_var 4) (ja_nil))) nd) (jss_cons (js_set (i := 7) (je_callD D_law_due hr tk (ja_cons (je_var 5) (ja_cons (je_var 3) (ja_cons (je_var 4) (ja_nil))))) nd) (jss_cons (js_set (i := 8) (je_callD D_signs_of hr tk (ja_cons (je_var 5) (ja_cons (je_var 3) (ja_cons (je_var 6) (ja_nil))))) nd) (jss_cons (js_if ((jw_or (jt_not (jt_val (je_callD D_law_is hr tk (ja_cons (je_var 8) (ja_cons (je_var 7) (ja_nil)))))) (jw_or1 (jt_cmp (kop_ne hu) (je_var 6) (je_var 4) (nomark _)))).jt) (jss_cons (js_ret (je_bl)) (jss_nil)) (jss_nil)) (jss_cons (js_expr (je_bm PySem.F.plainAttrs_list PySem.F.slot_list_append PySem.F.type_list_append km_append (je_var 8) (ja_cons (je_tup (ja_cons (je_str) (ja_cons (je_str) (ja_cons (je_int) (ja_cons (je_int) (ja_nil)))))) (ja_nil)))) (jss_cons (js_if (jt_cmp (kop_ne hu) (je_callD D_signs_of hr tk (ja_cons (je_var 5) (ja_cons (je_var 3) (ja_cons (je_var 6) (ja_nil))))) (je_var 7) (nomark _)) (jss_cons (js_ret (je_bl)) (jss_nil)) (jss_nil)) (jss_nil)))))))) (jss_nil)))))) (jss_cons (js_ret (je_bl)) (jss_nil)), fun vs G M R Z h => pf_law h⟩
theorem df_law {P : Program} {w : World} {K : PySem.W.Frag} {mg : Str → Option Value} {base : Heap} {f : Addr} {fd : FuncData} (B : Bs mg) (C : Cs K mg) (F : Fun K "law" "law" s_law f fd) (b : Binds K fd ["_law_script"] []) (gm : mg "law" = some (.ref f)) (D_law_pool : Def P w K mg base 1 "_law_pool" ["_law_script", "_law_k"] (S_law_pool K)) (D_law_many : Def P w K mg base 2 "_law_many" ["_law_pool_here"] (S_law_many K)) (D_law_take : Def P w K mg base 1 "_law_take" ["_law_pool_here", "_law_many_here"] (S_law_take K)) (D_law_ask : Def P w K mg base 3 "_law_ask" ["_law_pool_here", "_law_many_here"] (S_law_ask K)) (D_law_due : Def P w K mg base 2 "_law_due" ["_law_way", "_law_many_here", "_law_asks"] (S_law_due K)) (D_signs_of : Def P w K mg base 5 "signs_of" ["way", "many", "asks"] (S_signs_of K)) (D_law_is : Def P w K mg base 2 "_law_is" ["_law_found", "_law_due_here"] (S_law_is K)) :
    Def P w K mg base 6 "law" ["_law_script"] (S_law K) := ⟨f, fd, fo_law B C F D_law_pool D_law_many D_law_take D_law_ask D_law_due D_signs_of D_law_is, gm, F.kp, b⟩
theorem all_mk {l : PySem.W.OpenLaw} {w : World} {K : PySem.W.Frag} {h : Heap} {mg : Str → Option Value} {fa f0 f1 f2 f3 f4 f5 f6 f7 f8 f9 f10 f11 f12 f13 f14 f15 f16 f17 f18 f19 f20 f21 f22 f23 f24 f25 f26 : Addr} (X : K.In h) (G : h.Ns mainGlobals mg) (hfa : mg "law" = some (.ref fa))
    {od0 an0 od1 an1 od2 an2 od3 an3 od4 an4 od5 an5 od6 an6 od7 an7 od8 an8 od9 an9 od10 an10 od11 an11 od12 an12 od13 an13 od14 an14 od15 an15 od16 an16 od17 an17 od18 an18 od19 an19 od20 an20 od21 an21 od22 an22 od23 an23 od24 an24 od25 an25 od26 an26 : Option Addr} {sl0 sl1 sl2 sl3 sl4 sl5 sl6 sl7 sl8 sl9 sl10 sl11 sl12 sl13 sl14 sl15 sl16 sl17 sl18 sl19 sl20 sl21 sl22 sl23 sl24 sl25 sl26 : Array (Option Value)} {oc0 kV0 dc0 pm0 cd0 ct0 oc1 kV1 dc1 pm1 cd1 ct1 oc2 kV2 dc2 pm2 cd2 ct2 oc3 kV3 dc3 pm3 cd3 ct3 oc4 kV4 dc4 pm4 cd4 ct4 oc5 kV5 dc5 pm5 cd5 ct5 oc6 kV6 dc6 pm6 cd6 ct6 oc7 kV7 dc7 pm7 cd7 ct7 oc8 kV8 dc8 pm8 cd8 ct8 oc9 kV9 dc9 pm9 cd9 ct9 oc10 kV10 dc10 pm10 cd10 ct10 oc11 kV11 dc11 pm11 cd11 ct11 oc12 kV12 dc12 pm12 cd12 ct12 oc13 kV13 dc13 pm13 cd13 ct13 oc14 kV14 dc14 pm14 cd14 ct14 oc15 kV15 dc15 pm15 cd15 ct15 oc16 kV16 dc16 pm16 cd16 ct16 oc17 kV17 dc17 pm17 cd17 ct17 oc18 kV18 dc18 pm18 cd18 ct18 oc19 kV19 dc19 pm19 cd19 ct19 oc20 kV20 dc20 pm20 cd20 ct20 oc21 kV21 dc21 pm21 cd21 ct21 oc22 kV22 dc22 pm22 cd22 ct22 oc23 kV23 dc23 pm23 cd23 ct23 oc24 kV24 dc24 pm24 cd24 ct24 oc25 kV25 dc25 pm25 cd25 ct25 oc26 kV26 dc26 pm26 cd26 ct26 : Value}
    (a0 : PySem.W.nsIn K mainGlobals "_law_pool" = some (some (.ref f0))) (l0 : K.lookup f0 = some ⟨oc0, od0, .func (PySem.W.fnOf "_law_pool" "_law_pool" (defArgs s_law_pool) (defBody s_law_pool) (defScope s_law_pool) .none kV0 dc0 pm0 an0 cd0 ct0), sl0⟩) (c0 : PySem.W.codeIn K cd0 "_law_pool" = true) (k0 : PySem.W.keepIn K (.ref f0) = true)
    (a1 : PySem.W.nsIn K mainGlobals "_law_take" = some (some (.ref f1))) (l1 : K.lookup f1 = some ⟨oc1, od1, .func (PySem.W.fnOf "_law_take" "_law_take" (defArgs s_law_take) (defBody s_law_take) (defScope s_law_take) .none kV1 dc1 pm1 an1 cd1 ct1), sl1⟩) (c1 : PySem.W.codeIn K cd1 "_law_take" = true) (k1 : PySem.W.keepIn K (.ref f1) = true)
    (a2 : PySem.W.nsIn K mainGlobals "_law_many" = some (some (.ref f2))) (l2 : K.lookup f2 = some ⟨oc2, od2, .func (PySem.W.fnOf "_law_many" "_law_many" (defArgs s_law_many) (defBody s_law_many) (defScope s_law_many) .none kV2 dc2 pm2 an2 cd2 ct2), sl2⟩) (c2 : PySem.W.codeIn K cd2 "_law_many" = true) (k2 : PySem.W.keepIn K (.ref f2) = true)
    (a3 : PySem.W.nsIn K mainGlobals "_law_word" = some (some (.ref f3))) (l3 : K.lookup f3 = some ⟨oc3, od3, .func (PySem.W.fnOf "_law_word" "_law_word" (defArgs s_law_word) (defBody s_law_word) (defScope s_law_word) .none kV3 dc3 pm3 an3 cd3 ct3), sl3⟩) (c3 : PySem.W.codeIn K cd3 "_law_word" = true) (k3 : PySem.W.keepIn K (.ref f3) = true)
    (a4 : PySem.W.nsIn K mainGlobals "_law_ask" = some (some (.ref f4))) (l4 : K.lookup f4 = some ⟨oc4, od4, .func (PySem.W.fnOf "_law_ask" "_law_ask" (defArgs s_law_ask) (defBody s_law_ask) (defScope s_law_ask) .none kV4 dc4 pm4 an4 cd4 ct4), sl4⟩) (c4 : PySem.W.codeIn K cd4 "_law_ask" = true) (k4 : PySem.W.keepIn K (.ref f4) = true)
    (a5 : PySem.W.nsIn K mainGlobals "_law_trees" = some (some (.ref f5))) (l5 : K.lookup f5 = some ⟨oc5, od5, .func (PySem.W.fnOf "_law_trees" "_law_trees" (defArgs s_law_trees) (defBody s_law_trees) (defScope s_law_trees) .none kV5 dc5 pm5 an5 cd5 ct5), sl5⟩) (c5 : PySem.W.codeIn K cd5 "_law_trees" = true) (k5 : PySem.W.keepIn K (.ref f5) = true)
    (a6 : PySem.W.nsIn K mainGlobals "_law_way_signs" = some (some (.ref f6))) (l6 : K.lookup f6 = some ⟨oc6, od6, .func (PySem.W.fnOf "_law_way_signs" "_law_way_signs" (defArgs s_law_way_signs) (defBody s_law_way_signs) (defScope s_law_way_signs) .none kV6 dc6 pm6 an6 cd6 ct6), sl6⟩) (c6 : PySem.W.codeIn K cd6 "_law_way_signs" = true) (k6 : PySem.W.keepIn K (.ref f6) = true)
    (a7 : PySem.W.nsIn K mainGlobals "_law_due" = some (some (.ref f7))) (l7 : K.lookup f7 = some ⟨oc7, od7, .func (PySem.W.fnOf "_law_due" "_law_due" (defArgs s_law_due) (defBody s_law_due) (defScope s_law_due) .none kV7 dc7 pm7 an7 cd7 ct7), sl7⟩) (c7 : PySem.W.codeIn K cd7 "_law_due" = true) (k7 : PySem.W.keepIn K (.ref f7) = true)
    (a8 : PySem.W.nsIn K mainGlobals "look_at_way" = some (some (.ref f8))) (l8 : K.lookup f8 = some ⟨oc8, od8, .func (PySem.W.fnOf "look_at_way" "look_at_way" (defArgs s_look_at_way) (defBody s_look_at_way) (defScope s_look_at_way) .none kV8 dc8 pm8 an8 cd8 ct8), sl8⟩) (c8 : PySem.W.codeIn K cd8 "look_at_way" = true) (k8 : PySem.W.keepIn K (.ref f8) = true)
    (a9 : PySem.W.nsIn K mainGlobals "is_whole" = some (some (.ref f9))) (l9 : K.lookup f9 = some ⟨oc9, od9, .func (PySem.W.fnOf "is_whole" "is_whole" (defArgs s_is_whole) (defBody s_is_whole) (defScope s_is_whole) .none kV9 dc9 pm9 an9 cd9 ct9), sl9⟩) (c9 : PySem.W.codeIn K cd9 "is_whole" = true) (k9 : PySem.W.keepIn K (.ref f9) = true)
    (a10 : PySem.W.nsIn K mainGlobals "is_within" = some (some (.ref f10))) (l10 : K.lookup f10 = some ⟨oc10, od10, .func (PySem.W.fnOf "is_within" "is_within" (defArgs s_is_within) (defBody s_is_within) (defScope s_is_within) .none kV10 dc10 pm10 an10 cd10 ct10), sl10⟩) (c10 : PySem.W.codeIn K cd10 "is_within" = true) (k10 : PySem.W.keepIn K (.ref f10) = true)
    (a11 : PySem.W.nsIn K mainGlobals "look_at_many" = some (some (.ref f11))) (l11 : K.lookup f11 = some ⟨oc11, od11, .func (PySem.W.fnOf "look_at_many" "look_at_many" (defArgs s_look_at_many) (defBody s_look_at_many) (defScope s_look_at_many) .none kV11 dc11 pm11 an11 cd11 ct11), sl11⟩) (c11 : PySem.W.codeIn K cd11 "look_at_many" = true) (k11 : PySem.W.keepIn K (.ref f11) = true)
    (a12 : PySem.W.nsIn K mainGlobals "is_ask" = some (some (.ref f12))) (l12 : K.lookup f12 = some ⟨oc12, od12, .func (PySem.W.fnOf "is_ask" "is_ask" (defArgs s_is_ask) (defBody s_is_ask) (defScope s_is_ask) .none kV12 dc12 pm12 an12 cd12 ct12), sl12⟩) (c12 : PySem.W.codeIn K cd12 "is_ask" = true) (k12 : PySem.W.keepIn K (.ref f12) = true)
    (a13 : PySem.W.nsIn K mainGlobals "look_at_asks" = some (some (.ref f13))) (l13 : K.lookup f13 = some ⟨oc13, od13, .func (PySem.W.fnOf "look_at_asks" "look_at_asks" (defArgs s_look_at_asks) (defBody s_look_at_asks) (defScope s_look_at_asks) .none kV13 dc13 pm13 an13 cd13 ct13), sl13⟩) (c13 : PySem.W.codeIn K cd13 "look_at_asks" = true) (k13 : PySem.W.keepIn K (.ref f13) = true)
    (a14 : PySem.W.nsIn K mainGlobals "scan_signs" = some (some (.ref f14))) (l14 : K.lookup f14 = some ⟨oc14, od14, .func (PySem.W.fnOf "scan_signs" "scan_signs" (defArgs s_scan_signs) (defBody s_scan_signs) (defScope s_scan_signs) .none kV14 dc14 pm14 an14 cd14 ct14), sl14⟩) (c14 : PySem.W.codeIn K cd14 "scan_signs" = true) (k14 : PySem.W.keepIn K (.ref f14) = true)
    (a15 : PySem.W.nsIn K mainGlobals "spare_signs" = some (some (.ref f15))) (l15 : K.lookup f15 = some ⟨oc15, od15, .func (PySem.W.fnOf "spare_signs" "spare_signs" (defArgs s_spare_signs) (defBody s_spare_signs) (defScope s_spare_signs) .none kV15 dc15 pm15 an15 cd15 ct15), sl15⟩) (c15 : PySem.W.codeIn K cd15 "spare_signs" = true) (k15 : PySem.W.keepIn K (.ref f15) = true)
    (a16 : PySem.W.nsIn K mainGlobals "stairs_signs" = some (some (.ref f16))) (l16 : K.lookup f16 = some ⟨oc16, od16, .func (PySem.W.fnOf "stairs_signs" "stairs_signs" (defArgs s_stairs_signs) (defBody s_stairs_signs) (defScope s_stairs_signs) .none kV16 dc16 pm16 an16 cd16 ct16), sl16⟩) (c16 : PySem.W.codeIn K cd16 "stairs_signs" = true) (k16 : PySem.W.keepIn K (.ref f16) = true)
    (a17 : PySem.W.nsIn K mainGlobals "starts_of" = some (some (.ref f17))) (l17 : K.lookup f17 = some ⟨oc17, od17, .func (PySem.W.fnOf "starts_of" "starts_of" (defArgs s_starts_of) (defBody s_starts_of) (defScope s_starts_of) .none kV17 dc17 pm17 an17 cd17 ct17), sl17⟩) (c17 : PySem.W.codeIn K cd17 "starts_of" = true) (k17 : PySem.W.keepIn K (.ref f17) = true)
    (a18 : PySem.W.nsIn K mainGlobals "high_of" = some (some (.ref f18))) (l18 : K.lookup f18 = some ⟨oc18, od18, .func (PySem.W.fnOf "high_of" "high_of" (defArgs s_high_of) (defBody s_high_of) (defScope s_high_of) .none kV18 dc18 pm18 an18 cd18 ct18), sl18⟩) (c18 : PySem.W.codeIn K cd18 "high_of" = true) (k18 : PySem.W.keepIn K (.ref f18) = true)
    (a19 : PySem.W.nsIn K mainGlobals "way_there" = some (some (.ref f19))) (l19 : K.lookup f19 = some ⟨oc19, od19, .func (PySem.W.fnOf "way_there" "way_there" (defArgs s_way_there) (defBody s_way_there) (defScope s_way_there) .none kV19 dc19 pm19 an19 cd19 ct19), sl19⟩) (c19 : PySem.W.codeIn K cd19 "way_there" = true) (k19 : PySem.W.keepIn K (.ref f19) = true)
    (a20 : PySem.W.nsIn K mainGlobals "grove_signs" = some (some (.ref f20))) (l20 : K.lookup f20 = some ⟨oc20, od20, .func (PySem.W.fnOf "grove_signs" "grove_signs" (defArgs s_grove_signs) (defBody s_grove_signs) (defScope s_grove_signs) .none kV20 dc20 pm20 an20 cd20 ct20), sl20⟩) (c20 : PySem.W.codeIn K cd20 "grove_signs" = true) (k20 : PySem.W.keepIn K (.ref f20) = true)
    (a21 : PySem.W.nsIn K mainGlobals "trees_of" = some (some (.ref f21))) (l21 : K.lookup f21 = some ⟨oc21, od21, .func (PySem.W.fnOf "trees_of" "trees_of" (defArgs s_trees_of) (defBody s_trees_of) (defScope s_trees_of) .none kV21 dc21 pm21 an21 cd21 ct21), sl21⟩) (c21 : PySem.W.codeIn K cd21 "trees_of" = true) (k21 : PySem.W.keepIn K (.ref f21) = true)
    (a22 : PySem.W.nsIn K mainGlobals "signs_by" = some (some (.ref f22))) (l22 : K.lookup f22 = some ⟨oc22, od22, .func (PySem.W.fnOf "signs_by" "signs_by" (defArgs s_signs_by) (defBody s_signs_by) (defScope s_signs_by) .none kV22 dc22 pm22 an22 cd22 ct22), sl22⟩) (c22 : PySem.W.codeIn K cd22 "signs_by" = true) (k22 : PySem.W.keepIn K (.ref f22) = true)
    (a23 : PySem.W.nsIn K mainGlobals "signs_of" = some (some (.ref f23))) (l23 : K.lookup f23 = some ⟨oc23, od23, .func (PySem.W.fnOf "signs_of" "signs_of" (defArgs s_signs_of) (defBody s_signs_of) (defScope s_signs_of) .none kV23 dc23 pm23 an23 cd23 ct23), sl23⟩) (c23 : PySem.W.codeIn K cd23 "signs_of" = true) (k23 : PySem.W.keepIn K (.ref f23) = true)
    (a24 : PySem.W.nsIn K mainGlobals "_law_whole" = some (some (.ref f24))) (l24 : K.lookup f24 = some ⟨oc24, od24, .func (PySem.W.fnOf "_law_whole" "_law_whole" (defArgs s_law_whole) (defBody s_law_whole) (defScope s_law_whole) .none kV24 dc24 pm24 an24 cd24 ct24), sl24⟩) (c24 : PySem.W.codeIn K cd24 "_law_whole" = true) (k24 : PySem.W.keepIn K (.ref f24) = true)
    (a25 : PySem.W.nsIn K mainGlobals "_law_is" = some (some (.ref f25))) (l25 : K.lookup f25 = some ⟨oc25, od25, .func (PySem.W.fnOf "_law_is" "_law_is" (defArgs s_law_is) (defBody s_law_is) (defScope s_law_is) .none kV25 dc25 pm25 an25 cd25 ct25), sl25⟩) (c25 : PySem.W.codeIn K cd25 "_law_is" = true) (k25 : PySem.W.keepIn K (.ref f25) = true)
    (a26 : PySem.W.nsIn K mainGlobals "law" = some (some (.ref f26))) (l26 : K.lookup f26 = some ⟨oc26, od26, .func (PySem.W.fnOf "law" "law" (defArgs s_law) (defBody s_law) (defScope s_law) .none kV26 dc26 pm26 an26 cd26 ct26), sl26⟩) (c26 : PySem.W.codeIn K cd26 "law" = true) (k26 : PySem.W.keepIn K (.ref f26) = true)
    (z_all : PySem.W.nsIn K mainGlobals "all" = some none)
    (z_bool : PySem.W.nsIn K mainGlobals "bool" = some none)
    (z_enumerate : PySem.W.nsIn K mainGlobals "enumerate" = some none)
    (z_int : PySem.W.nsIn K mainGlobals "int" = some none)
    (z_isinstance : PySem.W.nsIn K mainGlobals "isinstance" = some none)
    (z_len : PySem.W.nsIn K mainGlobals "len" = some none)
    (z_list : PySem.W.nsIn K mainGlobals "list" = some none)
    (z_max : PySem.W.nsIn K mainGlobals "max" = some none)
    (z_min : PySem.W.nsIn K mainGlobals "min" = some none)
    (z_range : PySem.W.nsIn K mainGlobals "range" = some none)
    (z_reversed : PySem.W.nsIn K mainGlobals "reversed" = some none)
    (z_str : PySem.W.nsIn K mainGlobals "str" = some none)
    (z_sum : PySem.W.nsIn K mainGlobals "sum" = some none)
    (z_tuple : PySem.W.nsIn K mainGlobals "tuple" = some none)
    (z_zip : PySem.W.nsIn K mainGlobals "zip" = some none)
    {X_NoAsk X_NoSize X_NoWay : Addr}
    {tk_MOST_CELLS : Tok}
    {tk_TABLE : Tok}
    {tk_GREATEST : Tok}
    {KA_WAYS : Addr} {ko_WAYS : Option Addr} {ki_WAYS : Array Value} {kn_WAYS : Nat} {ks_WAYS : Array (Option Value)}
    {KA_SIDES : Addr} {ko_SIDES : Option Addr} {ki_SIDES : Array Value} {kn_SIDES : Nat} {ks_SIDES : Array (Option Value)}
    {tk_MOST_ASKS : Tok}
    {O_Climb : Addr}
    (xa_NoAsk : PySem.W.nsIn K mainGlobals "NoAsk" = some (some (.ref X_NoAsk)))
    (xk_NoAsk : PySem.W.keepIn K (.ref X_NoAsk) = true)
    (xx_NoAsk : PySem.W.excIn K X_NoAsk [.type "ValueError", .type "Exception", .type "BaseException", .type "object"] "ValueError.__new__" = true)
    (xb_NoAsk : PySem.W.subIn K (.ref X_NoAsk) (.type "BaseException") = some true)
    (xt_NoAsk : PySem.W.typeIn K (.ref X_NoAsk) = some (.type "type"))
    (x4_NoAsk : PySem.W.hasDictIn K X_NoAsk = true)
    (xa_NoSize : PySem.W.nsIn K mainGlobals "NoSize" = some (some (.ref X_NoSize)))
    (xk_NoSize : PySem.W.keepIn K (.ref X_NoSize) = true)
    (xx_NoSize : PySem.W.excIn K X_NoSize [.type "ValueError", .type "Exception", .type "BaseException", .type "object"] "ValueError.__new__" = true)
    (xb_NoSize : PySem.W.subIn K (.ref X_NoSize) (.type "BaseException") = some true)
    (xt_NoSize : PySem.W.typeIn K (.ref X_NoSize) = some (.type "type"))
    (x4_NoSize : PySem.W.hasDictIn K X_NoSize = true)
    (xa_NoWay : PySem.W.nsIn K mainGlobals "NoWay" = some (some (.ref X_NoWay)))
    (xk_NoWay : PySem.W.keepIn K (.ref X_NoWay) = true)
    (xx_NoWay : PySem.W.excIn K X_NoWay [.type "ValueError", .type "Exception", .type "BaseException", .type "object"] "ValueError.__new__" = true)
    (xb_NoWay : PySem.W.subIn K (.ref X_NoWay) (.type "BaseException") = some true)
    (xt_NoWay : PySem.W.typeIn K (.ref X_NoWay) = some (.type "type"))
    (x4_NoWay : PySem.W.hasDictIn K X_NoWay = true)
    (ka_MOST_CELLS : PySem.W.nsIn K mainGlobals "MOST_CELLS" = some (some (.int 32 tk_MOST_CELLS)))
    (ka_TABLE : PySem.W.nsIn K mainGlobals "TABLE" = some (some (.int 4 tk_TABLE)))
    (ka_GREATEST : PySem.W.nsIn K mainGlobals "GREATEST" = some (some (.int 999999999999999999 tk_GREATEST)))
    (ka_WAYS : PySem.W.nsIn K mainGlobals "WAYS" = some (some (.ref KA_WAYS)))
    (kl_WAYS : K.lookup KA_WAYS = some ⟨.type "tuple", ko_WAYS, .seq ki_WAYS kn_WAYS, ks_WAYS⟩)
    (kv_WAYS : ki_WAYS.toList.map absV = con_WAYS.map some)
    (kz_WAYS : ki_WAYS.size ≤ 1000)
    (ka_SIDES : PySem.W.nsIn K mainGlobals "SIDES" = some (some (.ref KA_SIDES)))
    (kl_SIDES : K.lookup KA_SIDES = some ⟨.type "tuple", ko_SIDES, .seq ki_SIDES kn_SIDES, ks_SIDES⟩)
    (kv_SIDES : ki_SIDES.toList.map absV = con_SIDES.map some)
    (kz_SIDES : ki_SIDES.size ≤ 1000)
    (ka_MOST_ASKS : PySem.W.nsIn K mainGlobals "MOST_ASKS" = some (some (.int 60 tk_MOST_ASKS)))
    (oa_Climb : PySem.W.nsIn K mainGlobals "Climb" = some (some (.ref O_Climb)))
    (o1_Climb : PySem.W.plainGet K O_Climb Str.empty = true)
    (o2_Climb : PySem.W.hasDictIn K O_Climb = true)
    (o3_Climb : PySem.W.plainOver K O_Climb = true)
    (o4_Climb : PySem.W.findIn K (.ref O_Climb) "__setattr__" = some (some (.builtin "object.__setattr__")))
    (on_Climb_cells : PySem.W.findIn K (.ref O_Climb) "cells" = some none)
    (on_Climb_last : PySem.W.findIn K (.ref O_Climb) "last" = some none)
    (on_Climb_full : PySem.W.findIn K (.ref O_Climb) "full" = some none)
    (on_Climb_drawn : PySem.W.findIn K (.ref O_Climb) "drawn" = some none)
    (on_Climb_home : PySem.W.findIn K (.ref O_Climb) "home" = some none)
    (on_Climb_held : PySem.W.findIn K (.ref O_Climb) "held" = some none)
    : ∃ fd : FuncData, (∀ (s : Shared) (v : Value), BindsTo s fd ⟨[v], []⟩ [("_law_script", v)]) ∧ ∀ base : Heap, K.In base → base.Ns mainGlobals mg → FnOk l.prog w K mg base (L2.CX l.prog w) 6 fa fd ["_law_script"] (lift (S_law K)) := by
  have e := hfa.symm.trans (PySem.W.mg_of X G a26)
  cases e
  have B : Bs mg := ⟨PySem.W.mg_none_of X G z_all, PySem.W.mg_none_of X G z_bool, PySem.W.mg_none_of X G z_enumerate, PySem.W.mg_none_of X G z_int, PySem.W.mg_none_of X G z_isinstance, PySem.W.mg_none_of X G z_len, PySem.W.mg_none_of X G z_list, PySem.W.mg_none_of X G z_max, PySem.W.mg_none_of X G z_min, PySem.W.mg_none_of X G z_range, PySem.W.mg_none_of X G z_reversed, PySem.W.mg_none_of X G z_str, PySem.W.mg_none_of X G z_sum, PySem.W.mg_none_of X G z_tuple, PySem.W.mg_none_of X G z_zip⟩
  have ck_Climb : CK K 9 := ck_mk (k := 9) oa_Climb o1_Climb o2_Climb o3_Climb o4_Climb (List.forall_mem_cons.mpr ⟨on_Climb_cells, List.forall_mem_cons.mpr ⟨on_Climb_last, List.forall_mem_cons.mpr ⟨on_Climb_full, List.forall_mem_cons.mpr ⟨on_Climb_drawn, List.forall_mem_cons.mpr ⟨on_Climb_home, List.forall_mem_cons.mpr ⟨on_Climb_held, (fun _ z => nomatch z)⟩⟩⟩⟩⟩⟩)
  have C : Cs K mg := ⟨xg_mk X G xa_NoAsk xk_NoAsk, xg_mk X G xa_NoSize xk_NoSize, xg_mk X G xa_NoWay xk_NoWay, xr_mk xa_NoAsk xx_NoAsk xb_NoAsk xt_NoAsk, xr_mk xa_NoSize xx_NoSize xb_NoSize xt_NoSize, xr_mk xa_NoWay xx_NoWay xb_NoWay xt_NoWay, ⟨_, PySem.W.mg_of X G ka_MOST_CELLS, _, rfl⟩, ⟨_, PySem.W.mg_of X G ka_TABLE, _, rfl⟩, ⟨_, PySem.W.mg_of X G ka_GREATEST, _, rfl⟩, xt_mk X G ka_WAYS kl_WAYS kv_WAYS (by intro y hy; simp only [con_WAYS, List.mem_cons, List.not_mem_nil, or_false] at hy; rcases hy with rfl | rfl | rfl | rfl | rfl <;> first | exact .inl ⟨_, rfl⟩ | exact .inr ⟨_, rfl⟩) kz_WAYS, xt_mk X G ka_SIDES kl_SIDES kv_SIDES (by intro y hy; simp only [con_SIDES, List.mem_cons, List.not_mem_nil, or_false] at hy; rcases hy with rfl | rfl <;> first | exact .inl ⟨_, rfl⟩ | exact .inr ⟨_, rfl⟩) kz_SIDES, ⟨_, PySem.W.mg_of X G ka_MOST_ASKS, _, rfl⟩, ck_Climb⟩
  have F0 := fun_mk (st := s_law_pool) l0 c0 k0
  have b0 := F0.binds (ps := ["_law_script", "_law_k"]) fun _ _ _ _ _ _ us hl => match us, hl with | [_, _], _ => rfl
  have F1 := fun_mk (st := s_law_take) l1 c1 k1
  have b1 := F1.binds (ps := ["_law_pool_here", "_law_many_here"]) fun _ _ _ _ _ _ us hl => match us, hl with | [_, _], _ => rfl
  have F2 := fun_mk (st := s_law_many) l2 c2 k2
  have b2 := F2.binds (ps := ["_law_pool_here"]) fun _ _ _ _ _ _ us hl => match us, hl with | [_], _ => rfl
  have F3 := fun_mk (st := s_law_word) l3 c3 k3
  have b3 := F3.binds (ps := ["_law_pool_here"]) fun _ _ _ _ _ _ us hl => match us, hl with | [_], _ => rfl
  have F4 := fun_mk (st := s_law_ask) l4 c4 k4
  have b4 := F4.binds (ps := ["_law_pool_here", "_law_many_here"]) fun _ _ _ _ _ _ us hl => match us, hl with | [_, _], _ => rfl
  have F5 := fun_mk (st := s_law_trees) l5 c5 k5
  have b5 := F5.binds (ps := ["_law_way", "_law_many_here"]) fun _ _ _ _ _ _ us hl => match us, hl with | [_, _], _ => rfl
  have F6 := fun_mk (st := s_law_way_signs) l6 c6 k6
  have b6 := F6.binds (ps := ["_law_shelf", "_law_draw", "_law_high"]) fun _ _ _ _ _ _ us hl => match us, hl with | [_, _, _], _ => rfl
  have F7 := fun_mk (st := s_law_due) l7 c7 k7
  have b7 := F7.binds (ps := ["_law_way", "_law_many_here", "_law_asks"]) fun _ _ _ _ _ _ us hl => match us, hl with | [_, _, _], _ => rfl
  have F8 := fun_mk (st := s_look_at_way) l8 c8 k8
  have b8 := F8.binds (ps := ["way"]) fun _ _ _ _ _ _ us hl => match us, hl with | [_], _ => rfl
  have F9 := fun_mk (st := s_is_whole) l9 c9 k9
  have b9 := F9.binds (ps := ["thing"]) fun _ _ _ _ _ _ us hl => match us, hl with | [_], _ => rfl
  have F10 := fun_mk (st := s_is_within) l10 c10 k10
  have b10 := F10.binds (ps := ["thing", "least", "most"]) fun _ _ _ _ _ _ us hl => match us, hl with | [_, _, _], _ => rfl
  have F11 := fun_mk (st := s_look_at_many) l11 c11 k11
  have b11 := F11.binds (ps := ["many"]) fun _ _ _ _ _ _ us hl => match us, hl with | [_], _ => rfl
  have F12 := fun_mk (st := s_is_ask) l12 c12 k12
  have b12 := F12.binds (ps := ["many", "thing"]) fun _ _ _ _ _ _ us hl => match us, hl with | [_, _], _ => rfl
  have F13 := fun_mk (st := s_look_at_asks) l13 c13 k13
  have b13 := F13.binds (ps := ["many", "asks"]) fun _ _ _ _ _ _ us hl => match us, hl with | [_, _], _ => rfl
  have F14 := fun_mk (st := s_scan_signs) l14 c14 k14
  have b14 := F14.binds (ps := ["many", "asks"]) fun _ _ _ _ _ _ us hl => match us, hl with | [_, _], _ => rfl
  have F15 := fun_mk (st := s_spare_signs) l15 c15 k15
  have b15 := F15.binds (ps := ["many", "asks"]) fun _ _ _ _ _ _ us hl => match us, hl with | [_, _], _ => rfl
  have F16 := fun_mk (st := s_stairs_signs) l16 c16 k16
  have b16 := F16.binds (ps := ["many", "asks"]) fun _ _ _ _ _ _ us hl => match us, hl with | [_, _], _ => rfl
  have F17 := fun_mk (st := s_starts_of) l17 c17 k17
  have b17 := F17.binds (ps := ["trees"]) fun _ _ _ _ _ _ us hl => match us, hl with | [_], _ => rfl
  have F18 := fun_mk (st := s_high_of) l18 c18 k18
  have b18 := F18.binds (ps := ["many"]) fun _ _ _ _ _ _ us hl => match us, hl with | [_], _ => rfl
  have F19 := fun_mk (st := s_way_there) l19 c19 k19
  have b19 := F19.binds (ps := ["shelf", "draw", "high"]) fun _ _ _ _ _ _ us hl => match us, hl with | [_, _, _], _ => rfl
  have F20 := fun_mk (st := s_grove_signs) l20 c20 k20
  have b20 := F20.binds (ps := ["trees", "asks"]) fun _ _ _ _ _ _ us hl => match us, hl with | [_, _], _ => rfl
  have F21 := fun_mk (st := s_trees_of) l21 c21 k21
  have b21 := F21.binds (ps := ["many"]) fun _ _ _ _ _ _ us hl => match us, hl with | [_], _ => rfl
  have F22 := fun_mk (st := s_signs_by) l22 c22 k22
  have b22 := F22.binds (ps := ["way", "many", "asks"]) fun _ _ _ _ _ _ us hl => match us, hl with | [_, _, _], _ => rfl
  have F23 := fun_mk (st := s_signs_of) l23 c23 k23
  have b23 := F23.binds (ps := ["way", "many", "asks"]) fun _ _ _ _ _ _ us hl => match us, hl with | [_, _, _], _ => rfl
  have F24 := fun_mk (st := s_law_whole) l24 c24 k24
  have b24 := F24.binds (ps := ["_law_found"]) fun _ _ _ _ _ _ us hl => match us, hl with | [_], _ => rfl
  have F25 := fun_mk (st := s_law_is) l25 c25 k25
  have b25 := F25.binds (ps := ["_law_found", "_law_due_here"]) fun _ _ _ _ _ _ us hl => match us, hl with | [_, _], _ => rfl
  have F26 := fun_mk (st := s_law) l26 c26 k26
  have b26 := F26.binds (ps := ["_law_script"]) fun _ _ _ _ _ _ us hl => match us, hl with | [_], _ => rfl
  refine ⟨PySem.W.fnOf "law" "law" (defArgs s_law) (defBody s_law) (defScope s_law) .none kV26 dc26 pm26 an26 cd26 ct26, fun s v => .of_eq rfl, fun base _ _ => ?_⟩
  have D_law_pool := df_law_pool (P := l.prog) (w := w) (base := base) B C F0 b0 (PySem.W.mg_of X G a0) 
  have D_law_take := df_law_take (P := l.prog) (w := w) (base := base) B C F1 b1 (PySem.W.mg_of X G a1) 
  have D_law_many := df_law_many (P := l.prog) (w := w) (base := base) B C F2 b2 (PySem.W.mg_of X G a2) D_law_take
  have D_law_word := df_law_word (P := l.prog) (w := w) (base := base) B C F3 b3 (PySem.W.mg_of X G a3) D_law_take
  have D_law_ask := df_law_ask (P := l.prog) (w := w) (base := base) B C F4 b4 (PySem.W.mg_of X G a4) D_law_take D_law_word
  have D_law_trees := df_law_trees (P := l.prog) (w := w) (base := base) B C F5 b5 (PySem.W.mg_of X G a5) 
  have D_law_way_signs := df_law_way_signs (P := l.prog) (w := w) (base := base) B C F6 b6 (PySem.W.mg_of X G a6) 
  have D_law_due := df_law_due (P := l.prog) (w := w) (base := base) B C F7 b7 (PySem.W.mg_of X G a7) D_law_trees D_law_way_signs
  have D_look_at_way := df_look_at_way (P := l.prog) (w := w) (base := base) B C F8 b8 (PySem.W.mg_of X G a8) 
  have D_is_whole := df_is_whole (P := l.prog) (w := w) (base := base) B C F9 b9 (PySem.W.mg_of X G a9) 
  have D_is_within := df_is_within (P := l.prog) (w := w) (base := base) B C F10 b10 (PySem.W.mg_of X G a10) D_is_whole
  have D_look_at_many := df_look_at_many (P := l.prog) (w := w) (base := base) B C F11 b11 (PySem.W.mg_of X G a11) D_is_within
  have D_is_ask := df_is_ask (P := l.prog) (w := w) (base := base) B C F12 b12 (PySem.W.mg_of X G a12) D_is_within
  have D_look_at_asks := df_look_at_asks (P := l.prog) (w := w) (base := base) B C F13 b13 (PySem.W.mg_of X G a13) D_is_ask
  have D_scan_signs := df_scan_signs (P := l.prog) (w := w) (base := base) B C F14 b14 (PySem.W.mg_of X G a14) 
  have D_spare_signs := df_spare_signs (P := l.prog) (w := w) (base := base) B C F15 b15 (PySem.W.mg_of X G a15) 
  have D_stairs_signs := df_stairs_signs (P := l.prog) (w := w) (base := base) B C F16 b16 (PySem.W.mg_of X G a16) 
  have D_starts_of := df_starts_of (P := l.prog) (w := w) (base := base) B C F17 b17 (PySem.W.mg_of X G a17) 
  have D_high_of := df_high_of (P := l.prog) (w := w) (base := base) B C F18 b18 (PySem.W.mg_of X G a18) 
  have D_way_there := df_way_there (P := l.prog) (w := w) (base := base) B C F19 b19 (PySem.W.mg_of X G a19) 
  have D_grove_signs := df_grove_signs (P := l.prog) (w := w) (base := base) B C F20 b20 (PySem.W.mg_of X G a20) D_starts_of D_high_of D_way_there
  have D_trees_of := df_trees_of (P := l.prog) (w := w) (base := base) B C F21 b21 (PySem.W.mg_of X G a21) 
  have D_signs_by := df_signs_by (P := l.prog) (w := w) (base := base) B C F22 b22 (PySem.W.mg_of X G a22) D_scan_signs D_spare_signs D_stairs_signs D_grove_signs D_trees_of
  have D_signs_of := df_signs_of (P := l.prog) (w := w) (base := base) B C F23 b23 (PySem.W.mg_of X G a23) D_look_at_way D_look_at_many D_look_at_asks D_signs_by
  have D_law_whole := df_law_whole (P := l.prog) (w := w) (base := base) B C F24 b24 (PySem.W.mg_of X G a24) 
  have D_law_is := df_law_is (P := l.prog) (w := w) (base := base) B C F25 b25 (PySem.W.mg_of X G a25) D_law_whole
  exact fo_law (P := l.prog) (w := w) (base := base) B C F26 D_law_pool D_law_many D_law_take D_law_ask D_law_due D_signs_of D_law_is
end BT
open PySem PySem.W PyProof.Rows
set_option maxHeartbeats 0 in
theorem PySem.Challenge.cw_blindtouch_k45_signs_of_trees_holds : PySem.Challenge.rw_blindtouch_k45_signs_of_trees.Holds := by
  w_on; o_law; k_head; (case hw => w_witness2)
  k_fill
  refine L2.walk_of (l := PySem.Challenge.rw_blindtouch_k45_signs_of_trees) (n := 63) (k := 6) (x := "_law_script") (CX := fun w => L2.CX (PySem.Challenge.rw_blindtouch_k45_signs_of_trees).prog w) (sp := fun w => BT.lift (BT.S_law _)) rfl (by decide) rfl ⟨rfl, by decide, by decide⟩ (fun w h Y => PySem.W.kIn_of Y) ?F (fun _ H a ns hl _ hS => BT.law_start hl hS) (fun _ _ _ _ _ h => BT.cx_none h)
  case F =>
    intro w mg fa h KX G hmg
    refine' BT.all_mk KX G hmg ?a0 ?l0 ?c0 ?k0 ?a1 ?l1 ?c1 ?k1 ?a2 ?l2 ?c2 ?k2 ?a3 ?l3 ?c3 ?k3 ?a4 ?l4 ?c4 ?k4 ?a5 ?l5 ?c5 ?k5 ?a6 ?l6 ?c6 ?k6 ?a7 ?l7 ?c7 ?k7 ?a8 ?l8 ?c8 ?k8 ?a9 ?l9 ?c9 ?k9 ?a10 ?l10 ?c10 ?k10 ?a11 ?l11 ?c11 ?k11 ?a12 ?l12 ?c12 ?k12 ?a13 ?l13 ?c13 ?k13 ?a14 ?l14 ?c14 ?k14 ?a15 ?l15 ?c15 ?k15 ?a16 ?l16 ?c16 ?k16 ?a17 ?l17 ?c17 ?k17 ?a18 ?l18 ?c18 ?k18 ?a19 ?l19 ?c19 ?k19 ?a20 ?l20 ?c20 ?k20 ?a21 ?l21 ?c21 ?k21 ?a22 ?l22 ?c22 ?k22 ?a23 ?l23 ?c23 ?k23 ?a24 ?l24 ?c24 ?k24 ?a25 ?l25 ?c25 ?k25 ?a26 ?l26 ?c26 ?k26 ?z_all ?z_bool ?z_enumerate ?z_int ?z_isinstance ?z_len ?z_list ?z_max ?z_min ?z_range ?z_reversed ?z_str ?z_sum ?z_tuple ?z_zip ?xa_NoAsk ?xk_NoAsk ?xx_NoAsk ?xb_NoAsk ?xt_NoAsk ?x4_NoAsk ?xa_NoSize ?xk_NoSize ?xx_NoSize ?xb_NoSize ?xt_NoSize ?x4_NoSize ?xa_NoWay ?xk_NoWay ?xx_NoWay ?xb_NoWay ?xt_NoWay ?x4_NoWay ?ka_MOST_CELLS ?ka_TABLE ?ka_GREATEST ?ka_WAYS ?kl_WAYS ?kv_WAYS ?kz_WAYS ?ka_SIDES ?kl_SIDES ?kv_SIDES ?kz_SIDES ?ka_MOST_ASKS ?oa_Climb ?o1_Climb ?o2_Climb ?o3_Climb ?o4_Climb ?on_Climb_cells ?on_Climb_last ?on_Climb_full ?on_Climb_drawn ?on_Climb_home ?on_Climb_held
    (case oa_Climb => k_is); (case a0 => k_is); (case l0 => k_is); (case c0 => k_is); (case k0 => k_is); (case a1 => k_is); (case l1 => k_is); (case c1 => k_is); (case k1 => k_is); (case a2 => k_is); (case l2 => k_is); (case c2 => k_is); (case k2 => k_is); (case a3 => k_is); (case l3 => k_is); (case c3 => k_is); (case k3 => k_is); (case a4 => k_is); (case l4 => k_is); (case c4 => k_is); (case k4 => k_is); (case a5 => k_is); (case l5 => k_is); (case c5 => k_is); (case k5 => k_is); (case a6 => k_is); (case l6 => k_is); (case c6 => k_is); (case k6 => k_is); (case a7 => k_is); (case l7 => k_is); (case c7 => k_is); (case k7 => k_is); (case a8 => k_is); (case l8 => k_is); (case c8 => k_is); (case k8 => k_is); (case a9 => k_is); (case l9 => k_is); (case c9 => k_is); (case k9 => k_is); (case a10 => k_is); (case l10 => k_is); (case c10 => k_is); (case k10 => k_is); (case a11 => k_is); (case l11 => k_is); (case c11 => k_is); (case k11 => k_is); (case a12 => k_is); (case l12 => k_is); (case c12 => k_is); (case k12 => k_is); (case a13 => k_is); (case l13 => k_is); (case c13 => k_is); (case k13 => k_is); (case a14 => k_is); (case l14 => k_is); (case c14 => k_is); (case k14 => k_is); (case a15 => k_is); (case l15 => k_is); (case c15 => k_is); (case k15 => k_is); (case a16 => k_is); (case l16 => k_is); (case c16 => k_is); (case k16 => k_is); (case a17 => k_is); (case l17 => k_is); (case c17 => k_is); (case k17 => k_is); (case a18 => k_is); (case l18 => k_is); (case c18 => k_is); (case k18 => k_is); (case a19 => k_is); (case l19 => k_is); (case c19 => k_is); (case k19 => k_is); (case a20 => k_is); (case l20 => k_is); (case c20 => k_is); (case k20 => k_is); (case a21 => k_is); (case l21 => k_is); (case c21 => k_is); (case k21 => k_is); (case a22 => k_is); (case l22 => k_is); (case c22 => k_is); (case k22 => k_is); (case a23 => k_is); (case l23 => k_is); (case c23 => k_is); (case k23 => k_is); (case a24 => k_is); (case l24 => k_is); (case c24 => k_is); (case k24 => k_is); (case a25 => k_is); (case l25 => k_is); (case c25 => k_is); (case k25 => k_is); (case a26 => k_is); (case l26 => k_is); (case c26 => k_is); (case k26 => k_is); (case z_all => k_is); (case z_bool => k_is); (case z_enumerate => k_is); (case z_int => k_is); (case z_isinstance => k_is); (case z_len => k_is); (case z_list => k_is); (case z_max => k_is); (case z_min => k_is); (case z_range => k_is); (case z_reversed => k_is); (case z_str => k_is); (case z_sum => k_is); (case z_tuple => k_is); (case z_zip => k_is); (case xa_NoAsk => k_is); (case xk_NoAsk => k_is); (case xb_NoAsk => k_is); (case xt_NoAsk => k_is); (case x4_NoAsk => k_is); (case xa_NoSize => k_is); (case xk_NoSize => k_is); (case xb_NoSize => k_is); (case xt_NoSize => k_is); (case x4_NoSize => k_is); (case xa_NoWay => k_is); (case xk_NoWay => k_is); (case xb_NoWay => k_is); (case xt_NoWay => k_is); (case x4_NoWay => k_is); (case ka_MOST_CELLS => k_is); (case ka_TABLE => k_is); (case ka_GREATEST => k_is); (case ka_WAYS => k_is); (case kl_WAYS => k_is); (case ka_SIDES => k_is); (case kl_SIDES => k_is); (case ka_MOST_ASKS => k_is); (case o1_Climb => k_is); (case o2_Climb => k_is); (case o3_Climb => k_is); (case o4_Climb => k_is); (case on_Climb_cells => k_is); (case on_Climb_last => k_is); (case on_Climb_full => k_is); (case on_Climb_drawn => k_is); (case on_Climb_home => k_is); (case on_Climb_held => k_is)
    (case xx_NoAsk => k_exc)
    (case xx_NoSize => k_exc)
    (case xx_NoWay => k_exc)
    (case kv_WAYS => rfl)
    (case kz_WAYS => decide)
    (case kv_SIDES => rfl)
    (case kz_SIDES => decide)
