import PyProof.Rows.All
import Wide.All
import OpenK.AllK
import Wide.FinOn
import HandS.ForMost
import HandS.Exc
import HandS.TryOnly
import HandS.ExcOwn
import HandS.WordsExc
import HandS.Wide
import HandS.WideBits
import HandS.IsInst
import HandS.SortInts
import HandS.Style
import HandS.ExcIs
import HandS.ExcValue
import HandS.Conv
import HandS.Dict
import KE.DataMinMax
import HandS.RevRange
import HandS.More
import PyProof.SetRoads
import HandS.SetKeys
import HandS.TupAny
import HandS.NoneIn
import PyProof.EqKinds
import PyProof.FactsAll.dict
import HandS.ListItems
import PyProof.ReprRoads
import PyProof.ReprLen
import PyProof.Rows.StrJoinMade
import HandS.Set
import HandS.SetFor
import PySem.Challenge.RW_blindtouch_k52_whole_whatever_leading_is
set_option Elab.async false
set_option linter.all false
set_option maxRecDepth 100000
set_option maxHeartbeats 4000000
/-! KL: readings over what is known of the heap: a frozen part G, and cells M that may be written. -/
namespace BT
open PySem PySem.Spec L2
open PyProof.Rows hiding St

abbrev Mem := List (Addr × HO)
structure Hv (G : Hp) (M : Mem) (H : Hp) : Prop where
  ex : ∀ a o, G a = some o → H a = some o
  mu : ∀ x, x ∈ M → H x.1 = some x.2
  nd : (M.map (·.1)).Nodup
  dj : ∀ x, x ∈ M → G x.1 = none
def Fr (G : Hp) (M : Mem) (p : Addr) : Prop := G p = none ∧ ∀ x, x ∈ M → x.1 ≠ p
def At (G : Hp) (M : Mem) (a : Addr) (o : HO) : Prop := (a, o) ∈ M ∨ G a = some o
section
variable {G : Hp} {M : Mem} {H : Hp} {p a : Addr} {o o' : HO} {n : Nat}
theorem Hv.self (H : Hp) : Hv H [] H := ⟨fun _ _ h => h, fun _ h => (nomatch h), List.nodup_nil, fun _ h => (nomatch h)⟩
theorem Hv.fr (h : Hv G M H) (hp : H p = none) : Fr G M p := by
  refine ⟨?_, fun x hx e => ?_⟩
  · cases e : G p with
    | none => rfl
    | some o => rw [h.ex p o e] at hp; cases hp
  · have := h.mu x hx
    rw [e, hp] at this; cases this
theorem Hv.at (h : Hv G M H) (q : At G M a o) : H a = some o := by
  rcases q with q | q
  · exact h.mu _ q
  · exact h.ex _ _ q
theorem Hv.newM (h : Hv G M H) (hp : H p = none) : Hv G ((p, o) :: M) (upd H p o) := by
  have f := h.fr hp
  refine ⟨fun b u e => ?_, fun x hx => ?_, ?_, fun x hx => ?_⟩
  · rw [upd_ne (ne_of_none (h.ex b u e) hp)]; exact h.ex b u e
  · rcases List.mem_cons.mp hx with rfl | hx
    · exact upd_same
    · rw [upd_ne (f.2 x hx)]; exact h.mu x hx
  · rw [List.map_cons, List.nodup_cons]
    refine ⟨fun hm => ?_, h.nd⟩
    obtain ⟨x, hx, e⟩ := List.mem_map.mp hm
    exact f.2 x hx e
  · rcases List.mem_cons.mp hx with rfl | hx
    · exact f.1
    · exact h.dj x hx
theorem Hv.newG (h : Hv G M H) (hp : H p = none) : Hv (upd G p o) M (upd H p o) := by
  have f := h.fr hp
  refine ⟨fun b u e => ?_, fun x hx => ?_, h.nd, fun x hx => ?_⟩
  · by_cases hb : b = p
    · subst hb; rw [upd_same] at e ⊢; exact e
    · rw [upd_ne hb] at e ⊢; exact h.ex b u e
  · rw [upd_ne (f.2 x hx)]; exact h.mu x hx
  · rw [upd_ne (f.2 x hx)]; exact h.dj x hx
/-- an object that nobody knows of is laid: nothing known changes -/
theorem Hv.junk (h : Hv G M H) (hp : H p = none) : Hv G M (upd H p o) := by
  have f := h.fr hp
  refine ⟨fun b u e => ?_, fun x hx => ?_, h.nd, h.dj⟩
  · rw [upd_ne (ne_of_none (h.ex b u e) hp)]; exact h.ex b u e
  · rw [upd_ne (f.2 x hx)]; exact h.mu x hx
theorem Hv.get (h : Hv G M H) (hn : M[n]? = some (p, o)) : H p = some o := h.mu _ (List.mem_of_getElem? hn)
theorem map_set_fst : ∀ (M : Mem) (n : Nat) (p : Addr) (o o' : HO), M[n]? = some (p, o) → (M.set n (p, o')).map (·.1) = M.map (·.1)
  | [], _, _, _, _, h => by simp at h
  | x :: M, 0, p, o, o', h => by
    have e : x = (p, o) := by simpa using h
    subst e; rfl
  | x :: M, n + 1, p, o, o', h => by
    have e : M[n]? = some (p, o) := by simpa using h
    show x.1 :: (M.set n (p, o')).map (·.1) = _
    rw [map_set_fst M n p o o' e]; rfl
theorem nodup_at : ∀ (M : Mem) (n : Nat) (p : Addr) (o : HO) (x : Addr × HO) (m : Nat), (M.map (·.1)).Nodup → M[n]? = some (p, o) → M[m]? = some x → x.1 = p → m = n := by
  intro M n p o x m hd h1 h2 e
  have q1 : (M.map (·.1))[n]? = some p := by rw [List.getElem?_map, h1]; rfl
  have q2 : (M.map (·.1))[m]? = some p := by rw [List.getElem?_map, h2, ← e]; rfl
  obtain ⟨l1, e1⟩ := List.getElem?_eq_some_iff.mp q1
  obtain ⟨l2, e2⟩ := List.getElem?_eq_some_iff.mp q2
  exact (List.getElem_inj hd).mp (e2.trans e1.symm)
theorem Hv.set (h : Hv G M H) (hn : M[n]? = some (p, o)) : Hv G (M.set n (p, o')) (upd H p o') := by
  have hlt : n < M.length := (List.getElem?_eq_some_iff.mp hn).1
  refine ⟨fun b u e => ?_, fun x hx => ?_, ?_, fun x hx => ?_⟩
  · have : b ≠ p := fun z => by
      have q := h.dj _ (List.mem_of_getElem? hn)
      rw [z] at e
      rw [show G p = none from q] at e; cases e
    rw [upd_ne this]; exact h.ex b u e
  · obtain ⟨m, hm⟩ := List.getElem?_of_mem hx
    by_cases e : m = n
    · subst e
      rw [List.getElem?_set_self hlt] at hm
      cases hm
      exact upd_same
    · rw [List.getElem?_set_ne (Ne.symm e)] at hm
      have : x.1 ≠ p := fun z => e (nodup_at M n p o x m h.nd hn hm z)
      rw [upd_ne this]
      exact h.mu x (List.mem_of_getElem? hm)
  · rw [map_set_fst M n p o o' hn]; exact h.nd
  · have : x.1 ∈ M.map (·.1) := by
      rw [← map_set_fst M n p o o' hn]; exact List.mem_map.mpr ⟨x, hx, rfl⟩
    obtain ⟨y, hy, e⟩ := List.mem_map.mp this
    rw [← e]; exact h.dj y hy
/-- what is known may be forgotten, and what may be written may be frozen -/
def Wk (G : Hp) (M : Mem) (G' : Hp) (M' : Mem) : Prop := ∀ H, Hv G M H → Hv G' M' H
theorem Wk.refl : Wk G M G M := fun _ h => h
theorem Wk.trans {G1 G2 G3 : Hp} {M1 M2 M3 : Mem} (a : Wk G1 M1 G2 M2) (b : Wk G2 M2 G3 M3) : Wk G1 M1 G3 M3 := fun H h => b H (a H h)
theorem Wk.drop (M1 : Mem) {x : Addr × HO} {M2 : Mem} : Wk G (M1 ++ x :: M2) G (M1 ++ M2) := fun H h => by
  refine ⟨h.ex, fun y hy => h.mu y ?_, ?_, fun y hy => h.dj y ?_⟩
  · rcases List.mem_append.mp hy with q | q
    · exact List.mem_append.mpr (.inl q)
    · exact List.mem_append.mpr (.inr (List.mem_cons_of_mem _ q))
  · refine h.nd.sublist ?_
    simp
  · rcases List.mem_append.mp hy with q | q
    · exact List.mem_append.mpr (.inl q)
    · exact List.mem_append.mpr (.inr (List.mem_cons_of_mem _ q))
theorem Wk.drop0 {x : Addr × HO} : Wk G (x :: M) G M := Wk.drop []
theorem Wk.drop1 {x y : Addr × HO} : Wk G (y :: x :: M) G (y :: M) := Wk.drop [y]
theorem Wk.drop2 {x y z : Addr × HO} : Wk G (z :: y :: x :: M) G (z :: y :: M) := Wk.drop [z, y]
theorem Wk.frz (M1 : Mem) {M2 : Mem} : Wk G (M1 ++ (p, o) :: M2) (upd G p o) (M1 ++ M2) := fun H h => by
  have hp : H p = some o := h.mu (p, o) (by simp)
  have hg : G p = none := h.dj (p, o) (by simp)
  have h2 := Wk.drop (G := G) M1 (x := (p, o)) (M2 := M2) H h
  refine ⟨fun b u e => ?_, h2.mu, h2.nd, fun x hx => ?_⟩
  · by_cases hb : b = p
    · subst hb; rw [upd_same] at e; cases e; exact hp
    · rw [upd_ne hb] at e; exact h.ex b u e
  · have : x.1 ≠ p := fun z => by
      have nd := h.nd
      rw [List.map_append, List.map_cons, List.nodup_append] at nd
      obtain ⟨n1, n2, n3⟩ := nd
      rcases List.mem_append.mp hx with q | q
      · exact n3 x.1 (List.mem_map.mpr ⟨x, q, rfl⟩) p (by simp) z
      · rw [List.nodup_cons] at n2
        exact n2.1 (by rw [← z]; exact List.mem_map.mpr ⟨x, q, rfl⟩)
    rw [upd_ne this]; exact h2.dj x hx
theorem Wk.frz0 : Wk G ((p, o) :: M) (upd G p o) M := Wk.frz []
theorem Wk.frz1 {y : Addr × HO} : Wk G (y :: (p, o) :: M) (upd G p o) (y :: M) := Wk.frz [y]
theorem Wk.perm {M' : Mem} (e : M'.Perm M) : Wk G M G M' := fun H h =>
  ⟨h.ex, fun x hx => h.mu x (e.mem_iff.mp hx), (e.map _).nodup_iff.mpr h.nd, fun x hx => h.dj x (e.mem_iff.mp hx)⟩
theorem Wk.swap {x y : Addr × HO} : Wk G (x :: y :: M) G (y :: x :: M) := Wk.perm (List.Perm.swap x y M)
/-- less of the frozen part -/
theorem Wk.less {G' : Hp} (e : ∀ a o, G' a = some o → G a = some o) : Wk G M G' M := fun H h =>
  ⟨fun a o q => h.ex a o (e a o q), h.mu, h.nd, fun x hx => by
    cases q : G' x.1 with
    | none => rfl
    | some o => have := h.dj x hx; rw [e _ _ q] at this; cases this⟩
end

/-! ### extension of the frozen part -/
def Ex (G G' : Hp) : Prop := ∀ a o, G a = some o → G' a = some o
theorem Ex.refl {G : Hp} : Ex G G := fun _ _ h => h
theorem Ex.trans {G G1 G2 : Hp} (a : Ex G G1) (b : Ex G1 G2) : Ex G G2 := fun x o h => b x o (a x o h)
theorem Ex.new {G : Hp} {M : Mem} {p : Addr} {o : HO} (h : Fr G M p) : Ex G (upd G p o) := fun a u e => by
  rw [upd_ne (ne_of_none e h.1)]; exact e
theorem Ex.new' {G : Hp} {p : Addr} {o : HO} (h : G p = none) : Ex G (upd G p o) := fun a u e => by
  rw [upd_ne (ne_of_none e h)]; exact e
theorem ex_rd {H H' : Hp} {a : Addr} {u : HO} (e : Ex H H') (h : Rd H a u) : Rd H' a u := by
  rcases h with h | ⟨o, h⟩
  · exact .inl (e a _ h)
  · exact .inr ⟨o, e a _ h⟩
theorem ex_l {K : PySem.W.Frag} {H H' : Hp} {a : Addr} {xs : List V} (e : Ex H H') (h : SqL K H a xs) : SqL K H' a xs := by
  rcases h with h | h
  · exact .inl (ex_rd e h)
  · exact .inr h
theorem ex_t {K : PySem.W.Frag} {H H' : Hp} {a : Addr} {xs : List V} (e : Ex H H') (h : SqT K H a xs) : SqT K H' a xs := by
  rcases h with h | h
  · exact .inl (ex_rd e h)
  · exact .inr h
mutual
theorem ex_d {K : PySem.W.Frag} {H H' : Hp} (e : Ex H H') : ∀ (d : PyData) {v : V}, Dp K H v d → Dp K H' v d
  | _, _, .non => .non
  | _, _, .bl b => .bl b
  | _, _, .int b => .int b
  | _, _, .str b => .str b
  | .list ds, _, .lst s a => .lst (ex_l e s) (ex_ds e ds a)
  | .tuple ds, _, .tup s a => .tup (ex_t e s) (ex_ds e ds a)
theorem ex_ds {K : PySem.W.Frag} {H H' : Hp} (e : Ex H H') : ∀ (ds : List PyData) {vs : List V}, DpAll K H vs ds → DpAll K H' vs ds
  | _, _, .nil => .nil
  | d :: ds, _, .cons a b => .cons (ex_d e d a) (ex_ds e ds b)
end
/-- a list, a tuple that can be read -/
def LstAt (K : PySem.W.Frag) (G : Hp) (M : Mem) (a : Addr) (xs : List V) : Prop := (a, HO.lst xs) ∈ M ∨ SqL K G a xs
def TupAt (K : PySem.W.Frag) (G : Hp) (M : Mem) (a : Addr) (xs : List V) : Prop := SqT K G a xs
def SeqAt' (K : PySem.W.Frag) (G : Hp) (M : Mem) (a : Addr) (xs : List V) : Prop := LstAt K G M a xs ∨ SqT K G a xs
/-- data that can be read -/
def DatAt (K : PySem.W.Frag) (G : Hp) (M : Mem) (v : V) (d : PyData) : Prop := ∀ H, Hv G M H → Dp K H v d
section
variable {K : PySem.W.Frag} {G : Hp} {M : Mem} {H : Hp} {a : Addr} {xs : List V}
theorem Hv.exx (h : Hv G M H) : Ex G H := h.ex
theorem Hv.lst (h : Hv G M H) (q : LstAt K G M a xs) : SqL K H a xs := by
  rcases q with q | q
  · exact .inl (.inl (h.mu _ q))
  · exact ex_l h.exx q
theorem Hv.tup (h : Hv G M H) (q : SqT K G a xs) : SqT K H a xs := ex_t h.exx q
theorem Hv.dat (h : Hv G M H) {v : V} {d : PyData} (q : DatAt K G M v d) : Dp K H v d := q H h
end

/-! ### judgements -/
abbrev KR := V → Hp → Mem → Prop
abbrev KX := Value → Option Addr → Hp → Mem → Prop
abbrev KK (α : Type) := St → Hp → Mem → (α → Hp → Mem → Prop) → KX → Prop
abbrev KE := KK V
abbrev KA := KK (List V)
abbrev KT := KK Bool
def upG {α : Type} (W : WX) (t : KK α) : St → Hp → (α → Hp → Prop) → Prop := fun σ H Q =>
  ∃ G M R E, Hv G M H ∧ t σ G M R E ∧ (∀ v G' M' H', Hv G' M' H' → R v G' M' → Q v H') ∧ (∀ c d G' M' H', Hv G' M' H' → E c d G' M' → W c d σ H')
def JE (X : Cx) (W : WX) (e : Expr) (t : KE) : Prop := PE X e (upG W t)
def JT (X : Cx) (W : WX) (e : Expr) (t : KT) : Prop := PT X e (upG W t)
def JW (X : Cx) (W : WX) (e : Expr) (t : KT) : Prop := PW X e (upG W t)
def JA (X : Cx) (W : WX) (es : List Expr) (t : KA) : Prop := PA X es (upG W t)
theorem pe_mono {X : Cx} {e : Expr} {t t' : TE} (h : PE X e t) (i : ∀ σ H Q, t' σ H Q → t σ H Q) : PE X e t' := ⟨fun pins s σ H Q I q => h.run pins s σ H Q I (i σ H Q q)⟩
theorem pt_mono {X : Cx} {e : Expr} {t t' : TT} (h : PT X e t) (i : ∀ σ H Q, t' σ H Q → t σ H Q) : PT X e t' := ⟨fun pins s σ H Q I q => h.run pins s σ H Q I (i σ H Q q)⟩
theorem pw_mono {X : Cx} {e : Expr} {t t' : TT} (h : PW X e t) (i : ∀ σ H Q, t' σ H Q → t σ H Q) : PW X e t' := ⟨fun wh pins s σ H Q I q => h.run wh pins s σ H Q I (i σ H Q q)⟩
theorem pa_mono {X : Cx} {e : List Expr} {t t' : TA} (h : PA X e t) (i : ∀ σ H Q, t' σ H Q → t σ H Q) : PA X e t' := ⟨fun pos pins s σ H Q I q => h.run pos pins s σ H Q I (i σ H Q q)⟩

section
variable {X : Cx} {W : WX} {pos : Pos}
/-- names, constants -/
def kVar (i : Nat) : KE := fun σ G M R _ => match σ[i]? with
  | some (some v) => R v G M
  | _ => False
def kC (v : V) : KE := fun _ G M R _ => R v G M
theorem je_var (i : Nat) {x : Str} (hN : X.N[i]? = some x := by rfl) (hv : Vis X.env.scope x := by first | exact Or.inl rfl | exact Or.inr (Or.inl rfl) | exact Or.inr (Or.inr rfl)) (hd : (x == ("__debug__" : Str)) = false := by decide)
    (hcd : (x == ("__classdict__" : Str)) = false := by decide) : JE X W (.Name x pos) (kVar i) := pe_mono (pe_var hN hv hd hcd) fun σ H Q ⟨G, M, R, E, hv, h, hR, _⟩ => by
  unfold kVar at h
  split at h
  · rename_i v e
    exact ⟨v, e, hR v G M H hv h⟩
  · exact h.elim
theorem je_c {e : Expr} {v : V} (h : PE X e (tC v)) : JE X W e (kC v) := pe_mono h fun σ H Q ⟨G, M, R, E, hv, h, hR, _⟩ => hR v G M H hv h
theorem je_int {i : Int} {j pos} : JE X W (.Constant (.int i) j pos) (kC (.int i)) := je_c pe_int
theorem je_bl {i : Bool} {j pos} : JE X W (.Constant (.bool i) j pos) (kC (.bl i)) := je_c pe_bl
theorem je_non {j pos} : JE X W (.Constant .none j pos) (kC .non) := je_c pe_non
theorem je_str {i : Str} {j pos} : JE X W (.Constant (.str i) j pos) (kC (.str i)) := je_c pe_str
/-- two in a row -/
def kBin {β : Type} (k : V → V → Hp → Mem → (β → Hp → Mem → Prop) → Prop) (ta tb : KE) : KK β := fun σ G M R E => ta σ G M (fun x G M => tb σ G M (fun y G M => k x y G M R) E) E
abbrev KR2 := V → V → Hp → Mem → KR → Prop
def KOp (X : Cx) (f : Value → Value → Sem Value) (k : KR2) : Prop :=
  ∀ (pins : List (Addr × Obj)) (s : Shared) (σ : St) (H : Hp) (x y : V) (v u : Value) (Q : VK) (G : Hp) (M : Mem) (R : KR), Inv X pins σ H s → RelV x v → RelV y u → Hv G M H → k x y G M R →
    (∀ v G' M' H', Hv G' M' H' → R v G' M' → Q v H') → wpAny (model X.prog X.w) X.A (f v u) (EP X pins σ Q) X.xe s
theorem kop_of {f : Value → Value → Sem Value} {r : R2} {k : KR2} (ho : OpR X f r)
    (s : ∀ x y G M R H Q, Hv G M H → k x y G M R → (∀ v G' M' H', Hv G' M' H' → R v G' M' → Q v H') → r x y H Q) : KOp X f k :=
  fun pins st σ H x y v u Q G M R I rx ry hv h hR => ho pins st σ H x y v u Q I rx ry (s x y G M R H Q hv h hR)
/-- an OpR whose reading is: it holds of k in some knowledge -/
def rUp (k : KR2) : R2 := fun x y H Q => ∃ G M R, Hv G M H ∧ k x y G M R ∧ ∀ v G' M' H', Hv G' M' H' → R v G' M' → Q v H'
theorem KOp.opr {f : Value → Value → Sem Value} {k : KR2} (h : KOp X f k) : OpR X f (rUp k) := fun pins s σ H x y v u Q I rx ry ⟨G, M, R, hv, hk, hR⟩ => h pins s σ H x y v u Q G M R I rx ry hv hk hR
theorem bin_sim {ta tb : KE} {k : KR2} {σ : St} {H : Hp} {Q : VK} (h : upG W (kBin k ta tb) σ H Q) : tOp (rUp k) (upG W ta) (upG W tb) σ H Q := by
  obtain ⟨G, M, R, E, hv, h, hR, hE⟩ := h
  exact ⟨G, M, _, E, hv, h, fun x G1 M1 H1 hv1 h1 => ⟨G1, M1, _, E, hv1, h1, fun y G2 M2 H2 hv2 h2 => ⟨G2, M2, R, hv2, h2, hR⟩, hE⟩, hE⟩
theorem je_op {a b : Expr} {op : Operator} {k : KR2} {ta tb : KE} (ho : KOp X (binaryOp op) k) (ha : JE X W a ta) (hb : JE X W b tb) : JE X W (.BinOp a op b pos) (kBin k ta tb) :=
  pe_mono (pe_op ho.opr ha hb) fun _ _ _ h => bin_sim h
theorem je_cmp {a b : Expr} {op : CmpOp} {k : KR2} {ta tb : KE} (ho : KOp X (compareOp op) k) (ha : JE X W a ta) (hb : JE X W b tb) (hm : behindInMarks op b = false) : JE X W (.Compare a [op] [b] pos) (kBin k ta tb) :=
  pe_mono (pe_cmpR ho.opr ha hb hm) fun _ _ _ h => bin_sim h
/-- a value as a test -/
def asB (R : Bool → Hp → Mem → Prop) : KR := fun v G M => match v with
  | .bl b => R b G M
  | _ => False
def kT (t : KE) : KT := fun σ G M R E => t σ G M (asB R) E
theorem asB_of {R : Bool → Hp → Mem → Prop} {v : V} {G : Hp} {M : Mem} (h : asB R v G M) : ∃ c, v = .bl c ∧ R c G M := by
  cases v <;> first | exact ⟨_, rfl, h⟩ | exact h.elim
theorem t_sim {t : KE} {σ : St} {H : Hp} {Q : Bool → Hp → Prop} (h : upG W (kT t) σ H Q) : tTest (upG W t) σ H Q := by
  obtain ⟨G, M, R, E, hv, h, hR, hE⟩ := h
  refine ⟨G, M, _, E, hv, h, fun v G1 M1 H1 hv1 h1 => ?_, hE⟩
  obtain ⟨c, rfl, h2⟩ := asB_of h1
  exact ⟨c, rfl, hR c G1 M1 H1 hv1 h2⟩
theorem jt_cmp {a b : Expr} {op : CmpOp} {k : KR2} {ta tb : KE} (ho : KOp X (compareOp op) k) (ha : JE X W a ta) (hb : JE X W b tb) (hm : behindInMarks op b = false) : JT X W (.Compare a [op] [b] pos) (kT (kBin k ta tb)) :=
  pt_mono (pt_cmpR ho.opr ha hb hm) fun σ H Q h => by
    have h2 := t_sim h
    exact bin_sim h2
theorem jt_val {e : Expr} {t : KE} (h : JE X W e t) (he : ∀ whole, isTrue e X.env whole = (do let v ← whole; standAt e.pos; holding [v] (truthy v)) := by intro _; rfl) : JT X W e (kT t) :=
  pt_mono (pt_val h he) fun σ H Q h => t_sim h
/-- chains -/
def kChain (k k' : KR2) (ta tb tc : KE) : KE := fun σ G M R E => ta σ G M (fun x G M => tb σ G M (fun y G M => k x y G M (asB fun c G M => if c = true then tc σ G M (fun z G M => k' y z G M R) E else R (.bl false) G M)) E) E
theorem chain_sim {ta tb tc : KE} {k k' : KR2} {σ : St} {H : Hp} {Q : VK} (h : upG W (kChain k k' ta tb tc) σ H Q) : tChain (rUp k) (rUp k') (upG W ta) (upG W tb) (upG W tc) σ H Q := by
  obtain ⟨G, M, R, E, hv, h, hR, hE⟩ := h
  refine ⟨G, M, _, E, hv, h, fun x G1 M1 H1 hv1 h1 => ⟨G1, M1, _, E, hv1, h1, fun y G2 M2 H2 hv2 h2 => ⟨G2, M2, _, hv2, h2, fun v G3 M3 H3 hv3 h3 => ?_⟩, hE⟩, hE⟩
  obtain ⟨c, rfl, h4⟩ := asB_of h3
  refine ⟨c, rfl, ?_⟩
  cases c with
  | true =>
    rw [if_pos rfl] at h4 ⊢
    exact ⟨G3, M3, _, E, hv3, h4, fun z G4 M4 H4 hv4 h5 => ⟨G4, M4, R, hv4, h5, hR⟩, hE⟩
  | false =>
    rw [if_neg Bool.false_ne_true] at h4 ⊢
    exact hR _ G3 M3 H3 hv3 h4
theorem je_chain {a b c : Expr} {op op' : CmpOp} {k k' : KR2} {ta tb tc : KE} (ho : KOp X (compareOp op) k) (ho' : KOp X (compareOp op') k') (ha : JE X W a ta) (hb : JE X W b tb) (hc : JE X W c tc)
    (hm : lastMarks [op, op'] [b, c] = false := by with_unfolding_all rfl) : JE X W (.Compare a [op, op'] [b, c] pos) (kChain k k' ta tb tc) := pe_mono (pe_chain ho.opr ho'.opr ha hb hc hm) fun _ _ _ h => chain_sim h
theorem jt_chain {a b c : Expr} {op op' : CmpOp} {k k' : KR2} {ta tb tc : KE} (ho : KOp X (compareOp op) k) (ho' : KOp X (compareOp op') k') (ha : JE X W a ta) (hb : JE X W b tb) (hc : JE X W c tc)
    (hm : lastMarks [op, op'] [b, c] = false := by with_unfolding_all rfl) : JT X W (.Compare a [op, op'] [b, c] pos) (kT (kChain k k' ta tb tc)) := pt_mono (pt_chain ho.opr ho'.opr ha hb hc hm) fun _ _ _ h => chain_sim (t_sim h)
/-- and, or, not -/
def kAnd (t u : KT) : KT := fun σ G M R E => t σ G M (fun c G M => if c = true then u σ G M R E else R false G M) E
def kOr (t u : KT) : KT := fun σ G M R E => t σ G M (fun c G M => if c = true then R true G M else u σ G M R E) E
def kNot (t : KT) : KT := fun σ G M R E => t σ G M (fun c G M => R (!c) G M) E
def kAndV (t u : KE) : KE := fun σ G M R E => t σ G M (asB fun c G M => if c = true then u σ G M R E else R (.bl false) G M) E
def kOrV (t u : KE) : KE := fun σ G M R E => t σ G M (asB fun c G M => if c = true then R (.bl true) G M else u σ G M R E) E
def kNotV (t : KE) : KE := fun σ G M R E => t σ G M (asB fun c G M => R (.bl (!c)) G M) E
variable {a b : Expr} {rest : List Expr}
theorem jw_and1 {t : KT} (h : JT X W a t) : JW X W (.BoolOp .And [a] pos) t := pw_and1 h
theorem jw_or1 {t : KT} (h : JT X W a t) : JW X W (.BoolOp .Or [a] pos) t := pw_or1 h
theorem jw_and {t u : KT} (ha : JT X W a t) (hb : JW X W (.BoolOp .And (b :: rest) pos) u) : JW X W (.BoolOp .And (a :: b :: rest) pos) (kAnd t u) :=
  pw_mono (pw_and ha hb) fun σ H Q ⟨G, M, R, E, hv, h, hR, hE⟩ => ⟨G, M, _, E, hv, h, fun c G1 M1 H1 hv1 h1 => by
    cases c with
    | true => rw [if_pos rfl] at h1 ⊢; exact ⟨G1, M1, R, E, hv1, h1, hR, hE⟩
    | false => rw [if_neg Bool.false_ne_true] at h1 ⊢; exact hR _ G1 M1 H1 hv1 h1, hE⟩
theorem jw_or {t u : KT} (ha : JT X W a t) (hb : JW X W (.BoolOp .Or (b :: rest) pos) u) : JW X W (.BoolOp .Or (a :: b :: rest) pos) (kOr t u) :=
  pw_mono (pw_or ha hb) fun σ H Q ⟨G, M, R, E, hv, h, hR, hE⟩ => ⟨G, M, _, E, hv, h, fun c G1 M1 H1 hv1 h1 => by
    cases c with
    | true => rw [if_pos rfl] at h1 ⊢; exact hR _ G1 M1 H1 hv1 h1
    | false => rw [if_neg Bool.false_ne_true] at h1 ⊢; exact ⟨G1, M1, R, E, hv1, h1, hR, hE⟩, hE⟩
theorem JW.jt {e : Expr} {t : KT} (h : JW X W e t) : JT X W e t := PW.pt h
theorem jt_not {t : KT} (h : JT X W a t) : JT X W (.UnaryOp .Not a pos) (kNot t) :=
  pt_mono (pt_not h) fun σ H Q ⟨G, M, R, E, hv, h, hR, hE⟩ => ⟨G, M, _, E, hv, h, fun c G1 M1 H1 hv1 h1 => hR _ G1 M1 H1 hv1 h1, hE⟩
theorem je_one {op} {t : KE} (h : JE X W a t) : JE X W (.BoolOp op [a] pos) t := pe_one h
theorem je_and {t u : KE} (ha : JE X W a t) (hb : JE X W (.BoolOp .And (b :: rest) pos) u) : JE X W (.BoolOp .And (a :: b :: rest) pos) (kAndV t u) :=
  pe_mono (pe_and ha hb) fun σ H Q ⟨G, M, R, E, hv, h, hR, hE⟩ => ⟨G, M, _, E, hv, h, fun v G1 M1 H1 hv1 h1 => by
    obtain ⟨c, rfl, h2⟩ := asB_of h1
    refine ⟨c, rfl, ?_⟩
    cases c with
    | true => rw [if_pos rfl] at h2 ⊢; exact ⟨G1, M1, R, E, hv1, h2, hR, hE⟩
    | false => rw [if_neg Bool.false_ne_true] at h2 ⊢; exact hR _ G1 M1 H1 hv1 h2, hE⟩
theorem je_or {t u : KE} (ha : JE X W a t) (hb : JE X W (.BoolOp .Or (b :: rest) pos) u) : JE X W (.BoolOp .Or (a :: b :: rest) pos) (kOrV t u) :=
  pe_mono (pe_or ha hb) fun σ H Q ⟨G, M, R, E, hv, h, hR, hE⟩ => ⟨G, M, _, E, hv, h, fun v G1 M1 H1 hv1 h1 => by
    obtain ⟨c, rfl, h2⟩ := asB_of h1
    refine ⟨c, rfl, ?_⟩
    cases c with
    | true => rw [if_pos rfl] at h2 ⊢; exact hR _ G1 M1 H1 hv1 h2
    | false => rw [if_neg Bool.false_ne_true] at h2 ⊢; exact ⟨G1, M1, R, E, hv1, h2, hR, hE⟩, hE⟩
theorem je_not {t : KE} (h : JE X W a t) : JE X W (.UnaryOp .Not a pos) (kNotV t) :=
  pe_mono (pe_not h) fun σ H Q ⟨G, M, R, E, hv, h, hR, hE⟩ => ⟨G, M, _, E, hv, h, fun v G1 M1 H1 hv1 h1 => by
    obtain ⟨c, rfl, h2⟩ := asB_of h1
    exact ⟨c, rfl, hR _ G1 M1 H1 hv1 h2⟩, hE⟩
/-- a if c else b -/
def kIte (t : KT) (ta tb : KE) : KE := fun σ G M R E => t σ G M (fun c G M => if c = true then ta σ G M R E else tb σ G M R E) E
end
end BT
set_option Elab.async false
set_option linter.all false
set_option maxRecDepth 100000
set_option maxHeartbeats 4000000
namespace BT
open PySem PySem.Spec L2
open PyProof.Rows hiding St
section
variable {X : Cx} {W : WX} {pos : Pos} {a b c e : Expr} {es : List Expr}
theorem je_ite {t : KT} {ta tb : KE} (hc : JT X W c t) (ha : JE X W a ta) (hb : JE X W b tb) : JE X W (.IfExp c a b pos) (kIte t ta tb) :=
  pe_mono (pe_ifExp hc ha hb) fun σ H Q ⟨G, M, R, E, hv, h, hR, hE⟩ => ⟨G, M, _, E, hv, h, fun c G1 M1 H1 hv1 h1 => by
    cases c with
    | true => rw [if_pos rfl] at h1 ⊢; exact ⟨G1, M1, R, E, hv1, h1, hR, hE⟩
    | false => rw [if_neg Bool.false_ne_true] at h1 ⊢; exact ⟨G1, M1, R, E, hv1, h1, hR, hE⟩, hE⟩
/-! ### arguments, displays -/
def kNil : KA := fun _ G M R _ => R [] G M
def kCons (t : KE) (u : KA) : KA := fun σ G M R E => t σ G M (fun x G M => u σ G M (fun xs G M => R (x :: xs) G M) E) E
theorem ja_nil : JA X W [] kNil := pa_mono pa_nil fun σ H Q ⟨G, M, R, E, hv, h, hR, _⟩ => hR _ G M H hv h
theorem ja_cons {t : KE} {u : KA} (ha : JE X W e t) (hr : JA X W es u) (hs : starEach (e :: es) X.env = (false, eval e X.env) :: starEach es X.env := by rfl) : JA X W (e :: es) (kCons t u) :=
  pa_mono (pa_cons ha hr hs) fun σ H Q ⟨G, M, R, E, hv, h, hR, hE⟩ => ⟨G, M, _, E, hv, h, fun x G1 M1 H1 hv1 h1 => ⟨G1, M1, _, E, hv1, h1, fun xs G2 M2 H2 hv2 h2 => hR _ G2 M2 H2 hv2 h2, hE⟩, hE⟩
def kLst (t : KA) : KE := fun σ G M R E => t σ G M (fun xs G M => xs.length ≤ sizeLine ∧ ∀ p, Fr G M p → R (.ref p) G ((p, .lst xs) :: M)) E
def kTup (t : KA) : KE := fun σ G M R E => t σ G M (fun xs G M => xs.length ≤ sizeLine ∧ ∀ p, Fr G M p → R (.ref p) (upd G p (.tup xs)) M) E
theorem je_lst {t : KA} (h : JA X W es t) : JE X W (.List es pos) (kLst t) :=
  pe_mono (pe_lst h) fun σ H Q ⟨G, M, R, E, hv, h, hR, hE⟩ => ⟨G, M, _, E, hv, h, fun xs G1 M1 H1 hv1 h1 => ⟨h1.1, fun p hp => hR _ G1 _ _ (hv1.newM hp) (h1.2 p (hv1.fr hp))⟩, hE⟩
theorem je_tup {t : KA} {k : Nat} (h : JA X W es t) : JE X W (.Tuple es k pos) (kTup t) :=
  pe_mono (pe_tup h) fun σ H Q ⟨G, M, R, E, hv, h, hR, hE⟩ => ⟨G, M, _, E, hv, h, fun xs G1 M1 H1 hv1 h1 => ⟨h1.1, fun p hp => hR _ _ M1 _ (hv1.newG hp) (h1.2 p (hv1.fr hp))⟩, hE⟩
/-! ### operators -/
def kAdd : KR2 := fun x y G M R => match x, y with
  | .int i, .int j => R (.int (i + j)) G M
  | .str i, .str j => i.length + j.length ≤ sizeLine ∧ R (.str (i ++ j)) G M
  | .ref a, .ref b => ∃ xs ys, At G M a (.lst xs) ∧ At G M b (.lst ys) ∧ xs.length + ys.length ≤ sizeLine ∧ ∀ p, Fr G M p → R (.ref p) G ((p, .lst (xs ++ ys)) :: M)
  | _, _ => False
theorem kop_add : KOp X (binaryOp .Add) kAdd := fun pins s σ H x y v u Q G M R I rx ry hv h hR => by
  cases x <;> cases y <;> first
    | exact op_add pins s σ H _ _ v u Q I rx ry ⟨_, _, rfl, rfl, hR _ G M H hv h⟩
    | exact op_add_str pins s σ H _ _ v u Q I rx ry ⟨_, _, rfl, rfl, h.1, hR _ G M H hv h.2⟩
    | (obtain ⟨xs, ys, h1, h2, h3, h4⟩ := h
       exact op_cat pins s σ H _ _ v u Q I rx ry ⟨_, _, xs, ys, rfl, rfl, hv.at h1, hv.at h2, h3, fun p hp => hR _ G _ _ (hv.newM hp) (h4 p (hv.fr hp))⟩)
    | exact h.elim
def kI (C : Int → Int → Prop) (g : Int → Int → V) : KR2 := fun x y G M R => match x, y with
  | .int i, .int j => C i j ∧ R (g i j) G M
  | _, _ => False
def kI0 (g : Int → Int → V) : KR2 := fun x y G M R => match x, y with
  | .int i, .int j => R (g i j) G M
  | _, _ => False
theorem kop_I {f : Value → Value → Sem Value} {C : Int → Int → Prop} {g : Int → Int → V} (h : OpR X f (rI C g)) : KOp X f (kI C g) := kop_of h fun x y G M R H Q hv h hR => by
  cases x <;> cases y <;> first
    | exact ⟨_, _, rfl, rfl, h.1, hR _ G M H hv h.2⟩
    | exact h.elim
theorem kop_I0 {f : Value → Value → Sem Value} {g : Int → Int → V} (h : OpR X f (rI0 g)) : KOp X f (kI0 g) := kop_of h fun x y G M R H Q hv h hR => by
  cases x <;> cases y <;> first
    | exact ⟨_, _, rfl, rfl, hR _ G M H hv h⟩
    | exact h.elim
/-- sizes of products, quotients -/
def MulOk (i j : Int) : Prop := CMul i j ∨ CMulW i j
theorem kop_sub : KOp X (binaryOp .Sub) (kI0 fun i j => .int (i - j)) := kop_I0 op_sub
/-- a product of ints, a list repeated -/
def kMul : KR2 := fun x y G M R => match x, y with
  | .int i, .int j => MulOk i j ∧ R (.int (i * j)) G M
  | .ref a, .int k => ∃ xs, At G M a (.lst xs) ∧ -(2 ^ 63) ≤ k ∧ k < 2 ^ 63 ∧ xs.length * k.toNat ≤ sizeLine ∧ ∀ p, Fr G M p → R (.ref p) G ((p, .lst (List.replicate k.toNat xs).flatten) :: M)
  | _, _ => False
theorem kop_mul : KOp X (binaryOp .Mult) kMul := fun pins s σ H x y v u Q G M R I rx ry hv h hR => by
  cases x <;> cases y <;> first
    | (obtain ⟨hc, h⟩ := h
       rcases hc with hc | hc
       · exact op_mul pins s σ H _ _ v u Q I rx ry ⟨_, _, rfl, rfl, hc, hR _ G M H hv h⟩
       · exact op_mulW pins s σ H _ _ v u Q I rx ry ⟨_, _, rfl, rfl, hc, hR _ G M H hv h⟩)
    | (obtain ⟨xs, h1, h2, h3, h4, h5⟩ := h
       exact op_rep pins s σ H _ _ v u Q I rx ry ⟨_, _, xs, rfl, rfl, hv.at h1, h2, h3, h4, fun p hp => hR _ G _ _ (hv.newM hp) (h5 p (hv.fr hp))⟩)
    | exact h.elim
theorem kop_mod : KOp X (binaryOp .Mod) (kI (fun _ j => 0 < j) fun i j => .int (i % j)) := kop_I op_mod
theorem kop_fdiv : KOp X (binaryOp .FloorDiv) (kI CDivW fun i j => .int (i / j)) := kop_I op_fdivW
theorem kop_pow : KOp X (binaryOp .Pow) (kI CPow fun i j => .int (i ^ j.toNat)) := kop_I op_pow
theorem kop_shl : KOp X (binaryOp .LShift) (kI CPow fun i j => .int (i * 2 ^ j.toNat)) := kop_I op_shl
theorem kop_shr : KOp X (binaryOp .RShift) (kI (fun _ j => 0 ≤ j) fun i j => .int (i / 2 ^ j.toNat)) := kop_I op_shr
theorem kop_lt : KOp X (compareOp .Lt) (kI0 fun i j => .bl (decide (i < j))) := kop_I0 op_lt
theorem kop_le : KOp X (compareOp .LtE) (kI0 fun i j => .bl (decide (i ≤ j))) := kop_I0 op_le
theorem kop_gt : KOp X (compareOp .Gt) (kI0 fun i j => .bl (decide (j < i))) := kop_I0 op_gt
theorem kop_ge : KOp X (compareOp .GtE) (kI0 fun i j => .bl (decide (j ≤ i))) := kop_I0 op_ge
/-- equality: of plain values at once, of data by what they hold -/
def kEqv (neg : Bool) (K : PySem.W.Frag) : KR2 := fun x y G M R =>
  match scal x y with
  | true => R (.bl (if neg then !decide (x = y) else decide (x = y))) G M
  | false => ∃ d e, DatAt K G M x d ∧ DatAt K G M y e ∧ SeqAt.shaped d = true ∧ SeqAt.shaped e = true ∧ R (.bl (if neg then !PyData.eqv d e else PyData.eqv d e)) G M
theorem kop_eq (hu : X.A.units + 64 < cLine) : KOp X (compareOp .Eq) (kEqv false X.K) := fun pins s σ H x y v u Q G M R I rx ry hv h hR => by
  unfold kEqv at h
  split at h
  · rename_i e
    exact op_eq pins s σ H _ _ v u Q I rx ry ⟨e, hR _ G M H hv h⟩
  · obtain ⟨d, e, h1, h2, h3, h4, h5⟩ := h
    exact op_eqD hu pins s σ H _ _ v u Q I rx ry ⟨d, e, hv.dat h1, hv.dat h2, h3, h4, hR _ G M H hv h5⟩
theorem kop_ne (hu : X.A.units + 64 < cLine) : KOp X (compareOp .NotEq) (kEqv true X.K) := fun pins s σ H x y v u Q G M R I rx ry hv h hR => by
  unfold kEqv at h
  split at h
  · rename_i e
    exact op_ne pins s σ H _ _ v u Q I rx ry ⟨e, hR _ G M H hv h⟩
  · obtain ⟨d, e, h1, h2, h3, h4, h5⟩ := h
    exact op_neD hu pins s σ H _ _ v u Q I rx ry ⟨d, e, hv.dat h1, hv.dat h2, h3, h4, hR _ G M H hv h5⟩
def kIs (neg : Bool) : KR2 := fun x y G M R => match y with
  | .non => R (.bl (if neg then !decide (x = .non) else decide (x = .non))) G M
  | _ => False
theorem kop_is : KOp X (compareOp .Is) (kIs false) := kop_of op_isN fun x y G M R H Q hv h hR => by
  cases y <;> first
    | exact ⟨rfl, hR _ G M H hv h⟩
    | exact h.elim
theorem kop_isnot : KOp X (compareOp .IsNot) (kIs true) := kop_of op_notN fun x y G M R H Q hv h hR => by
  cases y <;> first
    | exact ⟨rfl, hR _ G M H hv h⟩
    | exact h.elim
def kUn (k : V → Hp → Mem → KR → Prop) (t : KE) : KE := fun σ G M R E => t σ G M (fun x G M => k x G M R) E
def kNeg : V → Hp → Mem → KR → Prop := fun x G M R => match x with
  | .int i => R (.int (-i)) G M
  | _ => False
theorem je_neg {t : KE} (h : JE X W a t) : JE X W (.UnaryOp .USub a pos) (kUn kNeg t) :=
  pe_mono (pe_un un_neg h) fun σ H Q ⟨G, M, R, E, hv, h, hR, hE⟩ => ⟨G, M, _, E, hv, h, fun x G1 M1 H1 hv1 h1 => by
    cases x <;> first
      | exact ⟨_, rfl, hR _ G1 M1 H1 hv1 h1⟩
      | exact h1.elim, hE⟩
/-! ### subscripts, slices -/
def kIx (K : PySem.W.Frag) : KR2 := fun x y G M R => match x, y with
  | .ref a, .int i => ∃ xs v, SeqAt' K G M a xs ∧ atI xs i = some v ∧ R v G M
  | .str z, .int i => ∃ c, z.length ≤ sizeLine ∧ atI z.cps.toList i = some c ∧ R (.str ⟨#[c]⟩) G M
  | _, _ => False
theorem ix_k : IxR X (rUp (kIx X.K)) := fun value slice pins s σ H x y v u Q I rx ry ⟨G, M, R, hv, h, hR⟩ hs => by
  cases x <;> cases y <;> first
    | (obtain ⟨xs, w, h1, h2, h3⟩ := h
       rcases h1 with h1 | h1
       · exact ix_list value slice pins s σ H _ _ v u Q I rx ry ⟨_, xs, _, w, rfl, rfl, hv.lst h1, h2, hR _ G M H hv h3⟩ hs
       · exact ix_tup value slice pins s σ H _ _ v u Q I rx ry ⟨_, xs, _, w, rfl, rfl, hv.tup h1, h2, hR _ G M H hv h3⟩ hs)
    | (obtain ⟨c, h1, h2, h3⟩ := h
       exact ix_str value slice pins s σ H _ _ v u Q I rx ry ⟨_, _, c, rfl, rfl, h1, h2, hR _ G M H hv h3⟩ hs)
    | exact h.elim
theorem je_ix {ta tb : KE} (ha : JE X W a ta) (hb : JE X W b tb) (hs : PlainIx b := by exact fun _ _ => rfl) : JE X W (.Subscript a b pos) (kBin (kIx X.K) ta tb) :=
  pe_mono (pe_ix ix_k ha hb hs) fun _ _ _ h => bin_sim h
abbrev KO := KK (Option Int)
def JO (X : Cx) (W : WX) (e : Option Expr) (t : KO) : Prop := PO X e (upG W t)
theorem po_mono {X : Cx} {e : Option Expr} {t t' : TO} (h : PO X e t) (i : ∀ σ H Q, t' σ H Q → t σ H Q) : PO X e t' := ⟨fun pins s σ H Q I q => h.run pins s σ H Q I (i σ H Q q)⟩
def kNoP : KO := fun _ G M R _ => R none G M
def asI (R : Option Int → Hp → Mem → Prop) : KR := fun v G M => match v with
  | .int i => R (some i) G M
  | _ => False
def kPart (t : KE) : KO := fun σ G M R E => t σ G M (asI R) E
theorem jo_none : JO X W none kNoP := po_mono po_none fun σ H Q ⟨G, M, R, E, hv, h, hR, _⟩ => hR _ G M H hv h
theorem jo_some {t : KE} (h : JE X W e t) : JO X W (some e) (kPart t) := po_mono (po_some h) fun σ H Q ⟨G, M, R, E, hv, h, hR, hE⟩ => ⟨G, M, _, E, hv, h, fun v G1 M1 H1 hv1 h1 => by
    cases v <;> first
      | exact ⟨_, rfl, hR _ G1 M1 H1 hv1 h1⟩
      | exact h1.elim, hE⟩
/-- xs[lo:hi] of a list -/
def kSl (K : PySem.W.Frag) (t : KE) (tl th : KO) : KE := fun σ G M R E => t σ G M (fun x G M => tl σ G M (fun l G M => th σ G M (fun u G M => match x with
  | .ref a => ∃ xs, LstAt K G M a xs ∧ ∀ p, Fr G M p → R (.ref p) G ((p, .lst (cutV xs l u)) :: M)
  | _ => False) E) E) E
theorem je_slice {t : KE} {lo hi : Option Expr} {tl th : KO} {p2 : Pos} (he : JE X W e t) (hl : JO X W lo tl) (hu : JO X W hi th) : JE X W (.Subscript e (.Slice lo hi none p2) pos) (kSl X.K t tl th) :=
  pe_mono (pe_slice sl_list he hl hu) fun σ H Q ⟨G, M, R, E, hv, h, hR, hE⟩ => ⟨G, M, _, E, hv, h, fun x G1 M1 H1 hv1 h1 => ⟨G1, M1, _, E, hv1, h1, fun l G2 M2 H2 hv2 h2 => ⟨G2, M2, _, E, hv2, h2, fun u G3 M3 H3 hv3 h3 => by
    cases x <;> first
      | (obtain ⟨xs, q1, q2⟩ := h3
         exact ⟨_, xs, rfl, hv3.lst q1, fun p hp => hR _ G3 _ _ (hv3.newM hp) (q2 p (hv3.fr hp))⟩)
      | exact h3.elim, hE⟩, hE⟩, hE⟩
/-! ### calls of built-ins -/
abbrev KC := List V → Hp → Mem → KR → Prop
def rUpC (k : KC) : List V → Hp → VK → Prop := fun vs H Q => ∃ G M R, Hv G M H ∧ k vs G M R ∧ ∀ v G' M' H', Hv G' M' H' → R v G' M' → Q v H'
def kCB (k : KC) (t : KA) : KE := fun σ G M R E => t σ G M (fun vs G M => k vs G M R) E
def KCall (X : Cx) (f : Value) (k : KC) : Prop := CallR X f (rUpC k)
theorem kcall_of {f : Value} {r : List V → Hp → VK → Prop} {k : KC} (h : CallR X f r)
    (s : ∀ vs G M R H Q, Hv G M H → k vs G M R → (∀ v G' M' H', Hv G' M' H' → R v G' M' → Q v H') → r vs H Q) : KCall X f k :=
  fun pins st σ H xs us Q I rv ⟨G, M, R, hv, hk, hR⟩ => h pins st σ H xs us Q I rv (s xs G M R H Q hv hk hR)
theorem cb_sim {t : KA} {k : KC} {σ : St} {H : Hp} {Q : VK} (h : upG W (kCB k t) σ H Q) : tCB (rUpC k) (upG W t) σ H Q := by
  obtain ⟨G, M, R, E, hv, h, hR, hE⟩ := h
  exact ⟨G, M, _, E, hv, h, fun vs G1 M1 H1 hv1 h1 => ⟨G1, M1, R, hv1, h1, hR⟩, hE⟩
variable {x : Str} {p : Pos} {id T : String}
theorem je_callB {k : KC} {t : KA} (hc : KCall X (.builtin id) k) (hm : X.mg x = none) (ha : JA X W (e :: es) t) (hv : bootBuiltins x = some (.builtin id) := by decide +kernel) (hg : Gl X x := by rfl) (hn : x ≠ "__name__" := by decide) (hdb : (x == ("__debug__" : Str)) = false := by decide)
    (he : starEach (e :: es) X.env = (false, eval e X.env) :: starEach es X.env := by rfl) (hpl : (backTo pos (starEach es X.env)).any (·.1) = false := by rfl) : JE X W (.Call (.Name x p) (e :: es) [] pos) (kCB k t) :=
  pe_mono (pe_callB hc hg hm hv ha hn hdb he hpl) fun _ _ _ h => cb_sim h
theorem je_callTy {k : KC} {t : KA} (hc : KCall X (.type T) k) (hm : X.mg x = none) (ha : JA X W (e :: es) t) (hv : bootBuiltins x = some (.type T) := by decide +kernel) (hg : Gl X x := by rfl) (hn : x ≠ "__name__" := by decide) (hdb : (x == ("__debug__" : Str)) = false := by decide)
    (he : starEach (e :: es) X.env = (false, eval e X.env) :: starEach es X.env := by rfl) (hpl : (backTo pos (starEach es X.env)).any (·.1) = false := by rfl) : JE X W (.Call (.Name x p) (e :: es) [] pos) (kCB k t) :=
  pe_mono (pe_callTy hc hg hm hv ha hn hdb he hpl) fun _ _ _ h => cb_sim h
/-- a built-in type's name as a value -/
theorem je_ty {T : String} {x : Str} {pos : Pos} (hm : X.mg x = none) (hv : bootBuiltins x = some (.type T) := by decide +kernel) (hg : Gl X x := by rfl) (hn : x ≠ "__name__" := by decide) (hd : (x == ("__debug__" : Str)) = false := by decide) : JE X W (.Name x pos) (kC (.ty T)) :=
  je_c (pe_bltn hg hm hv rfl hn hd)
/-- a module's constant -/
theorem je_glob {x : Str} {v : V} {u : Value} {pos : Pos} (hm : X.mg x = some u) (r : RelV v u) (hg : Gl X x := by rfl) (hd : (x == ("__debug__" : Str)) = false := by decide) : JE X W (.Name x pos) (kC v) := je_c (pe_glob hg hm r hd)
def kLen (K : PySem.W.Frag) : KC := fun vs G M R => match vs with
  | [.ref a] => ∃ xs, SeqAt' K G M a xs ∧ R (.int xs.length) G M
  | _ => False
theorem kc_len : KCall X (.builtin "len") (kLen X.K) := kcall_of call_len_seq fun vs G M R H Q hv h hR => by
  match vs, h with
  | [.ref a], ⟨xs, h1, h2⟩ => exact ⟨a, xs, rfl, h1.elim (fun q => .inl (hv.lst q)) (fun q => .inr (hv.tup q)), hR _ G M H hv h2⟩
def kList (K : PySem.W.Frag) : KC := fun vs G M R => match vs with
  | [.ref a] => ∃ xs, SeqAt' K G M a xs ∧ ∀ p, Fr G M p → R (.ref p) G ((p, .lst xs) :: M)
  | _ => False
theorem kc_list : KCall X (.type "list") (kList X.K) := kcall_of call_list_of fun vs G M R H Q hv h hR => by
  match vs, h with
  | [.ref a], ⟨xs, h1, h2⟩ => exact ⟨a, xs, rfl, h1.elim (fun q => .inl (hv.lst q)) (fun q => .inr (hv.tup q)), fun p hp => hR _ G _ _ (hv.newM hp) (h2 p (hv.fr hp))⟩
def kMin2 : KC := fun vs G M R => match vs with
  | [.int i, .int j] => R (.int (min i j)) G M
  | _ => False
def kMax2 : KC := fun vs G M R => match vs with
  | [.int i, .int j] => R (.int (max i j)) G M
  | _ => False
theorem kc_min2 (hc : X.calm = true := by rfl) : KCall X (.builtin "min") kMin2 := kcall_of (call_min2 hc) fun vs G M R H Q hv h hR => by
  match vs, h with
  | [.int i, .int j], h =>
    refine ⟨i, j, rfl, ?_⟩
    have e : (if j < i then j else i) = min i j := by split <;> omega
    rw [e]
    exact hR _ G M H hv h
theorem kc_max2 (hc : X.calm = true := by rfl) : KCall X (.builtin "max") kMax2 := kcall_of (call_max2 hc) fun vs G M R H Q hv h hR => by
  match vs, h with
  | [.int i, .int j], h =>
    refine ⟨i, j, rfl, ?_⟩
    have e : (if j > i then j else i) = max i j := by split <;> omega
    rw [e]
    exact hR _ G M H hv h
def kInt : KC := fun vs G M R => match vs with
  | [.int i] => R (.int i) G M
  | [.bl k] => R (.int (if k then 1 else 0)) G M
  | _ => False
theorem kc_int : KCall X (.type "int") kInt := kcall_of call_int1 fun vs G M R H Q hv h hR => by
  match vs, h with
  | [.int i], h => exact .inl ⟨i, rfl, hR _ G M H hv h⟩
  | [.bl i], h => exact .inr ⟨i, rfl, hR _ G M H hv h⟩
/-- min(xs), max(xs) of ints -/
def kMinL (K : PySem.W.Frag) : KC := fun vs G M R => match vs with
  | [.ref a] => ∃ ns : List Int, LstAt K G M a (ns.map V.int) ∧ 0 < ns.length ∧ ∀ m, m ∈ ns → (∀ y, y ∈ ns → m ≤ y) → R (.int m) G M
  | _ => False
def kMaxL (K : PySem.W.Frag) : KC := fun vs G M R => match vs with
  | [.ref a] => ∃ ns : List Int, LstAt K G M a (ns.map V.int) ∧ 0 < ns.length ∧ ∀ m, m ∈ ns → (∀ y, y ∈ ns → y ≤ m) → R (.int m) G M
  | _ => False
theorem kc_minL (hc : X.calm = true := by rfl) : KCall X (.builtin "min") (kMinL X.K) := kcall_of (cr_min hc) fun vs G M R H Q hv h hR => by
  match vs, h with
  | [.ref a], ⟨ns, h1, h2, h3⟩ => exact ⟨a, ns, rfl, hv.lst h1, h2, fun m q1 q2 => hR _ G M H hv (h3 m q1 q2)⟩
theorem kc_maxL (hc : X.calm = true := by rfl) : KCall X (.builtin "max") (kMaxL X.K) := kcall_of (cr_max hc) fun vs G M R H Q hv h hR => by
  match vs, h with
  | [.ref a], ⟨ns, h1, h2, h3⟩ => exact ⟨a, ns, rfl, hv.lst h1, h2, fun m q1 q2 => hR _ G M H hv (h3 m q1 q2)⟩
def kAll (K : PySem.W.Frag) : KC := fun vs G M R => match vs with
  | [.ref a] => ∃ bs : List Bool, LstAt K G M a (bs.map V.bl) ∧ R (.bl (bs.all _root_.id)) G M
  | _ => False
theorem kc_all (hc : X.calm = true := by rfl) : KCall X (.builtin "all") (kAll X.K) := kcall_of (cr_all hc) fun vs G M R H Q hv h hR => by
  match vs, h with
  | [.ref a], ⟨ns, h1, h2⟩ => exact ⟨a, ns, rfl, hv.lst h1, hR _ G M H hv h2⟩
def kSum (K : PySem.W.Frag) : KC := fun vs G M R => match vs with
  | [.ref a] => ∃ ns : List Int, LstAt K G M a (ns.map V.int) ∧ R (.int ns.sum) G M
  | _ => False
theorem kc_sum (hc : X.calm = true := by rfl) : KCall X (.builtin "sum") (kSum X.K) := kcall_of (cr_sum hc) fun vs G M R H Q hv h hR => by
  match vs, h with
  | [.ref a], ⟨ns, h1, h2⟩ => exact ⟨a, ns, rfl, hv.lst h1, hR _ G M H hv h2⟩
/-- isinstance(x, c) -/
def kIsi (K : PySem.W.Frag) : KC := fun vs G M R => match vs with
  | [x, c] => ∃ (t u : Value) (b : Bool), ClsV c u ∧ (∀ H, Hv G M H → TyX K H x t) ∧ PySem.W.kitOne K t u = some b ∧ R (.bl b) G M
  | _ => False
theorem kc_isi : KCall X (.builtin "isinstance") (kIsi X.K) := kcall_of call_isi fun vs G M R H Q hv h hR => by
  match vs, h with
  | [x, c], ⟨t, u, b, h1, h2, h3, h4⟩ => exact ⟨x, c, t, u, b, rfl, h1, h2 H hv, h3, hR _ G M H hv h4⟩
/-! ### methods of built-in types -/
abbrev KM := V → List V → Hp → Mem → KR → Prop
def rUpM (k : KM) : V → List V → Hp → VK → Prop := fun x vs H Q => ∃ G M R, Hv G M H ∧ k x vs G M R ∧ ∀ v G' M' H', Hv G' M' H' → R v G' M' → Q v H'
def KMt (X : Cx) (id : String) (k : KM) : Prop := MtR X id (rUpM k)
theorem kmt_of {r : V → List V → Hp → VK → Prop} {k : KM} (h : MtR X id r)
    (s : ∀ x vs G M R H Q, Hv G M H → k x vs G M R → (∀ v G' M' H', Hv G' M' H' → R v G' M' → Q v H') → r x vs H Q) : KMt X id k :=
  fun pins st σ H x xs v us Q I rx rv ⟨G, M, R, hv, hk, hR⟩ => h pins st σ H x xs v us Q I rx rv (s x xs G M R H Q hv hk hR)
def kBM (K : PySem.W.Frag) (T : String) (k : KM) (to : KE) (t : KA) : KE := fun σ G M R E => to σ G M (fun x G M => (∀ H, Hv G M H → tyV K T x H) ∧ t σ G M (fun vs G M => k x vs G M R) E) E
def kBM0 (K : PySem.W.Frag) (T : String) (k : KM) (to : KE) : KE := fun σ G M R E => to σ G M (fun x G M => (∀ H, Hv G M H → tyV K T x H) ∧ k x [] G M R) E
variable {o : Expr} {name : Str} {apos cpos : Pos}
theorem je_bm {k : KM} {to : KE} {t : KA} (pa : PlainAttrs T) (slot : Slot T name id) (hty : typeOf (.builtin id) = pure (.type "method_descriptor")) (hm : KMt X id k) (ho : JE X W o to) (ha : JA X W (e :: es) t)
    (hbase : attributeBase o name X.env (eval o X.env) = eval o X.env := by rfl)
    (hfew : ((backTo cpos (starEach (e :: es) X.env)).all (fun x => !x.1) && (backToKw cpos (keywordEach [] X.env)).all (fun x => x.1.isSome)
      && decide ((e :: es).length + ([] : List Keyword).length + (if ([] : List Keyword).isEmpty then 0 else 1) < 30)) = true := by rfl)
    (hline : (apos.endLine == cpos.line) = true := by rfl) (hs : starEach (e :: es) X.env = (false, eval e X.env) :: starEach es X.env := by rfl) (hplain : (backTo cpos (starEach es X.env)).any (·.1) = false := by rfl) :
    JE X W (.Call (.Attribute o name apos) (e :: es) [] cpos) (kBM X.K T k to t) :=
  pe_mono (pe_bm pa slot hty hm ho ha hbase hfew hline hs hplain) fun σ H Q ⟨G, M, R, E, hv, h, hR, hE⟩ => ⟨G, M, _, E, hv, h, fun x G1 M1 H1 hv1 h1 => ⟨h1.1 H1 hv1, G1, M1, _, E, hv1, h1.2, fun vs G2 M2 H2 hv2 h2 => ⟨G2, M2, R, hv2, h2, hR⟩, hE⟩, hE⟩
theorem je_bm0 {k : KM} {to : KE} (pa : PlainAttrs T) (slot : Slot T name id) (hty : typeOf (.builtin id) = pure (.type "method_descriptor")) (hm : KMt X id k) (ho : JE X W o to)
    (hbase : attributeBase o name X.env (eval o X.env) = eval o X.env := by rfl) (hline : (apos.endLine == cpos.line) = true := by rfl) : JE X W (.Call (.Attribute o name apos) [] [] cpos) (kBM0 X.K T k to) :=
  pe_mono (pe_bm0 pa slot hty hm ho hbase hline) fun σ H Q ⟨G, M, R, E, hv, h, hR, hE⟩ => ⟨G, M, _, E, hv, h, fun x G1 M1 H1 hv1 h1 => ⟨h1.1 H1 hv1, G1, M1, R, hv1, h1.2, hR⟩, hE⟩
def kAppend : KM := fun x vs G M R => match x, vs with
  | .ref a, [y] => ∃ n xs, M[n]? = some (a, .lst xs) ∧ xs.length < sizeLine ∧ R .non G (M.set n (a, .lst (xs ++ [y])))
  | _, _ => False
theorem km_append : KMt X "list.append" kAppend := kmt_of mt_append fun x vs G M R H Q hv h hR => by
  match x, vs, h with
  | .ref a, [y], ⟨n, xs, h1, h2, h3⟩ => exact ⟨a, xs, y, rfl, rfl, hv.get h1, h2, hR _ G _ _ (hv.set h1) h3⟩
def kExtend : KM := fun x vs G M R => match x, vs with
  | .ref a, [.ref b] => ∃ n xs ys, M[n]? = some (a, .lst xs) ∧ At G M b (.lst ys) ∧ xs.length + ys.length ≤ sizeLine ∧ R .non G (M.set n (a, .lst (xs ++ ys)))
  | _, _ => False
theorem km_extend : KMt X "list.extend" kExtend := kmt_of mt_extend fun x vs G M R H Q hv h hR => by
  match x, vs, h with
  | .ref a, [.ref b], ⟨n, xs, ys, h1, h2, h3, h4⟩ => exact ⟨a, b, xs, ys, rfl, rfl, hv.get h1, hv.at h2, h3, hR _ G _ _ (hv.set h1) h4⟩
def kReverse : KM := fun x vs G M R => match x, vs with
  | .ref a, [] => ∃ n xs, M[n]? = some (a, .lst xs) ∧ R .non G (M.set n (a, .lst xs.reverse))
  | _, _ => False
theorem km_reverse : KMt X "list.reverse" kReverse := kmt_of mt_reverse fun x vs G M R H Q hv h hR => by
  match x, vs, h with
  | .ref a, [], ⟨n, xs, h1, h3⟩ => exact ⟨a, xs, rfl, rfl, hv.get h1, hR _ G _ _ (hv.set h1) h3⟩
end
/-! ### defs -/
abbrev KSp := List V → Hp → Mem → KR → KX → Prop
def lift (S : KSp) : Sp := fun vs H Q E => ∃ G M R X, Hv G M H ∧ S vs G M R X ∧ (∀ v G' M' H', Hv G' M' H' → R v G' M' → Q v H') ∧ (∀ c d G' M' H', Hv G' M' H' → X c d G' M' → E c d H')
def kCall (S : KSp) (t : KA) : KE := fun σ G M R E => t σ G M (fun vs G M => S vs G M R E) E
section
variable {X : Cx} {W : WX} {pos p : Pos} {e : Expr} {es : List Expr} {x : Str} {k : Nat} {f : Addr} {fd : FuncData} {ps : List Str} {S : KSp} {t : KA}
theorem je_call (F : FnOk X.prog X.w X.K X.mg X.base (L2.CX X.prog X.w) k f fd ps (lift S)) (hr : Room k X.A) (tk : Takes X W) (hm : X.mg x = some (.ref f)) (hk : PySem.W.keepIn X.K (.ref f) = true) (hb : Binds X.K fd ps []) (ha : JA X W (e :: es) t) (hg : Gl X x := by rfl)
    (hdb : (x == ("__debug__" : Str)) = false := by decide) (he : starEach (e :: es) X.env = (false, eval e X.env) :: starEach es X.env := by rfl) (hpl : (backTo pos (starEach es X.env)).any (·.1) = false := by rfl) :
    JE X W (.Call (.Name x p) (e :: es) [] pos) (kCall S t) :=
  pe_mono (pe_callS F hr hg hm hk hb (passAt tk) ha hdb he hpl) fun σ H Q ⟨G, M, R, E, hv, h, hR, hE⟩ =>
    ⟨G, M, _, E, hv, h, fun vs G1 M1 H1 hv1 h1 => ⟨G1, M1, R, E, hv1, h1, hR, hE⟩, hE⟩
end
end BT
set_option Elab.async false
set_option linter.all false
set_option maxRecDepth 100000
set_option maxHeartbeats 4000000
namespace BT
open PySem PySem.Spec L2
open PyProof.Rows hiding St
/-! ### statements -/
structure Kd where
  nx : St → Hp → Mem → Prop
  rt : KR
  bk : St → Hp → Mem → Prop := fun _ _ _ => False
  ct : St → Hp → Mem → Prop := fun _ _ _ => False
  xc : Value → Option Addr → St → Hp → Mem → Prop := fun _ _ _ _ _ => False
abbrev KS := Kd → St → Hp → Mem → Prop
structure EndsTo (W : WX) (d : Kd) (D : Ends) : Prop where
  nx : ∀ σ G M H, Hv G M H → d.nx σ G M → D.nx σ H
  rt : ∀ v G M H, Hv G M H → d.rt v G M → D.rt v H
  bk : ∀ σ G M H, Hv G M H → d.bk σ G M → D.bk σ H
  ct : ∀ σ G M H, Hv G M H → d.ct σ G M → D.ct σ H
  xc : ∀ c a σ G M H, Hv G M H → d.xc c a σ G M → W c a σ H
def upS (W : WX) (t : KS) : TS := fun D σ H => ∃ G M d, Hv G M H ∧ t d σ G M ∧ EndsTo W d D
def JS (X : Cx) (W : WX) (s : Stmt) (t : KS) : Prop := PS X s (upS W t)
def JSs (X : Cx) (W : WX) (s : List Stmt) (t : KS) : Prop := PSs X s (upS W t)
theorem ps_mono {X : Cx} {s : Stmt} {t t' : TS} (h : PS X s t) (i : ∀ D σ H, t' D σ H → t D σ H) : PS X s t' := ⟨fun pins st σ H D I q => h.run pins st σ H D I (i D σ H q)⟩
theorem pss_mono {X : Cx} {s : List Stmt} {t t' : TS} (h : PSs X s t) (i : ∀ D σ H, t' D σ H → t D σ H) : PSs X s t' := ⟨fun pins st σ H D I q => h.run pins st σ H D I (i D σ H q)⟩
def Kd.x (d : Kd) (σ : St) : KX := fun c a G M => d.xc c a σ G M
section
variable {X : Cx} {W : WX} {pos : Pos} {s : Stmt} {ss : List Stmt} {e : Expr} {t u : KS}
def kNext : KS := fun D σ G M => D.nx σ G M
def kSeq (t u : KS) : KS := fun D σ G M => ∃ G' M', Wk G M G' M' ∧ t { D with nx := u D } σ G' M'
def kNever : KS := fun _ _ _ _ => False
theorem jss_nil : JSs X W [] kNext := pss_mono pss_nil fun D σ H ⟨G, M, d, hv, h, en⟩ => en.nx σ G M H hv h
theorem jss_cons (h1 : JS X W s t) (h2 : JSs X W ss u) : JSs X W (s :: ss) (kSeq t u) := pss_mono (pss_cons h1 h2) fun D σ H ⟨G, M, d, hv, ⟨G', M', wk, h⟩, en⟩ =>
  ⟨G', M', _, wk H hv, h, ⟨fun σ' G2 M2 H2 hv2 q => ⟨G2, M2, d, hv2, q, en⟩, en.rt, en.bk, en.ct, en.xc⟩⟩
theorem js_never : JS X W s kNever := ps_mono ps_never fun D σ H ⟨G, M, d, hv, h, en⟩ => h
theorem js_pass : JS X W (.Pass pos) kNext := ps_mono ps_pass fun D σ H ⟨G, M, d, hv, h, en⟩ => en.nx σ G M H hv h
def kSet (i : Nat) (t : KE) : KS := fun D σ G M => t σ G M (fun v G M => D.nx (σ.set i (some v)) G M) (D.x σ)
theorem js_set {i : Nat} {x : Str} {t : KE} {pos' : Pos} (he : JE X W e t) (hN : X.N.Nodup) (hi : X.N[i]? = some x := by rfl) (hx : Loc X.env.scope x := by first | exact Or.inl rfl | exact Or.inr rfl)
    (hs : swapsWith e (some (.Name x pos')) pos.line X.env = pure false := by rfl) (hf : X.fn x = true ∨ X.env.scope.names.lookup x = some .local := by first | exact .inl rfl | exact .inr rfl | assumption) :
    JS X W (.Assign [.Name x pos'] e pos) (kSet i t) := ps_mono (ps_set hN hi hx he hs hf) fun D σ H ⟨G, M, d, hv, h, en⟩ =>
  ⟨G, M, _, _, hv, h, fun v G' M' H' hv' q => en.nx _ G' M' H' hv' q, fun c a G' M' H' hv' q => en.xc c a σ G' M' H' hv' q⟩
def kExpr (t : KE) : KS := fun D σ G M => t σ G M (fun _ G M => D.nx σ G M) (D.x σ)
theorem js_expr {t : KE} (he : JE X W e t) (hs : swapsWith e none pos.line X.env = pure false := by rfl) : JS X W (.Expr e pos) (kExpr t) := ps_mono (ps_expr he hs) fun D σ H ⟨G, M, d, hv, h, en⟩ =>
  ⟨G, M, _, _, hv, h, fun v G' M' H' hv' q => en.nx _ G' M' H' hv' q, fun c a G' M' H' hv' q => en.xc c a σ G' M' H' hv' q⟩
def kRet (t : KE) : KS := fun D σ G M => t σ G M D.rt (D.x σ)
theorem js_ret {t : KE} (he : JE X W e t) : JS X W (.Return (some e) pos) (kRet t) := ps_mono (ps_ret he) fun D σ H ⟨G, M, d, hv, h, en⟩ =>
  ⟨G, M, _, _, hv, h, fun v G' M' H' hv' q => en.rt _ G' M' H' hv' q, fun c a G' M' H' hv' q => en.xc c a σ G' M' H' hv' q⟩
def kRetN : KS := fun D σ G M => D.rt .non G M
theorem js_retN : JS X W (.Return none pos) kRetN := ps_mono ps_retN fun D σ H ⟨G, M, d, hv, h, en⟩ => en.rt _ G M H hv h
def kIf (c : KT) (t u : KS) : KS := fun D σ G M => c σ G M (fun b G M => if b = true then t D σ G M else u D σ G M) (D.x σ)
theorem js_if {c : Expr} {a b : List Stmt} {tc : KT} (hc : JT X W c tc) (ha : JSs X W a t) (hb : JSs X W b u) : JS X W (.If c a b pos) (kIf tc t u) := ps_mono (ps_if hc ha hb) fun D σ H ⟨G, M, d, hv, h, en⟩ =>
  ⟨G, M, _, _, hv, h, fun v G' M' H' hv' q => by
    cases v with
    | true => rw [if_pos rfl] at q ⊢; exact ⟨G', M', d, hv', q, en⟩
    | false => rw [if_neg Bool.false_ne_true] at q ⊢; exact ⟨G', M', d, hv', q, en⟩, fun c a G' M' H' hv' q => en.xc c a σ G' M' H' hv' q⟩
/-! ### targets -/
structure KG where
  val : V → St → Hp → Mem → (St → Hp → Mem → Prop) → Prop
  tup : List V → St → Hp → Mem → (St → Hp → Mem → Prop) → Prop
structure JG (X : Cx) (tg : Expr) (g : KG) (gr : TG) : Prop where
  pg : PG X tg gr
  val : ∀ v σ G M R H Q, Hv G M H → g.val v σ G M R → (∀ σ' G' M' H', Hv G' M' H' → R σ' G' M' → Q σ' H') → gr v σ H Q
  tup : ∀ T vs σ G M R H Q, Hv G M H → H T = none → g.tup vs σ G M R → (∀ σ' G' M' H', Hv G' M' H' → R σ' G' M' → Q σ' H') → gr (.ref T) σ (upd H T (.tup vs)) Q
def kgName (i : Nat) : KG := ⟨fun v σ G M R => R (σ.set i (some v)) G M, fun vs σ G M R => ∀ T, Fr G M T → R (σ.set i (some (.ref T))) (upd G T (.tup vs)) M⟩
theorem jg_name {i : Nat} {x : Str} (hN : X.N.Nodup) (hi : X.N[i]? = some x := by rfl) (hx : Loc X.env.scope x := by first | exact Or.inl rfl | exact Or.inr rfl) (hf : X.fn x = true ∨ X.env.scope.names.lookup x = some .local := by first | exact .inl rfl | exact .inr rfl | assumption) : JG X (.Name x pos) (kgName i) (gName i) :=
  ⟨pg_name hN hi hx hf, fun v σ G M R H Q hv h hR => hR _ G M H hv h, fun T vs σ G M R H Q hv hT h hR => hR _ _ M _ (hv.newG hT) (h T (hv.fr hT))⟩
/-- several targets at once -/
abbrev KGs := List V → St → Hp → Mem → (St → Hp → Mem → Prop) → Prop
def kgsNil : KGs := fun vs σ G M R => match vs with
  | [] => R σ G M
  | _ => False
def kgsCons (g : KG) (r : KGs) : KGs := fun vs σ G M R => match vs with
  | v :: vs => g.val v σ G M (fun σ G M => r vs σ G M R)
  | [] => False
structure JGs (X : Cx) (ts : List Expr) (g : KGs) (gr : TGs) : Prop where
  pgs : PGs X ts gr
  sim : ∀ vs σ G M R H Q, Hv G M H → g vs σ G M R → (∀ σ' G' M' H', Hv G' M' H' → R σ' G' M' → Q σ' H') → gr vs σ H Q
theorem jgs_nil : JGs X [] kgsNil gNil := ⟨pgs_nil, fun vs σ G M R H Q hv h hR => by
  match vs, h with
  | [], h => exact ⟨rfl, hR _ G M H hv h⟩⟩
theorem jgs_cons {tg : Expr} {ts : List Expr} {g : KG} {r : KGs} {gr : TG} {gs : TGs} (h1 : JG X tg g gr) (hr : JGs X ts r gs)
    (hs : (assignEach (tg :: ts) X.env).map (·.2) = assign tg X.env :: (assignEach ts X.env).map (·.2) := by rfl) : JGs X (tg :: ts) (kgsCons g r) (gCons gr gs) :=
  ⟨pgs_cons h1.pg hr.pgs hs, fun vs σ G M R H Q hv h hR => by
    match vs, h with
    | v :: vs, h => exact ⟨v, vs, rfl, h1.val v σ G M _ H _ hv h fun σ' G' M' H' hv' q => hr.sim vs σ' G' M' R H' Q hv' q hR⟩⟩
def onLen (n : Nat) (g : KGs) : KGs := fun vs σ G M R => match vs.length == n with
  | true => g vs σ G M R
  | false => False
theorem onLen_of {n : Nat} {g : KGs} {vs : List V} {σ : St} {G : Hp} {M : Mem} {R : St → Hp → Mem → Prop} (h : onLen n g vs σ G M R) : vs.length = n ∧ g vs σ G M R := by
  unfold onLen at h
  split at h
  · rename_i e; exact ⟨beq_iff_eq.mp e, h⟩
  · exact h.elim
def kgTup (K : PySem.W.Frag) (n : Nat) (g : KGs) : KG := ⟨fun v σ G M R => match v with
    | .ref a => ∃ xs, SqT K G a xs ∧ onLen n g xs σ G M R
    | _ => False, onLen n g⟩
theorem jg_tup {K : PySem.W.Frag} {ts : List Expr} {g : KGs} {gs : TGs} {n k : Nat} (hc : X.calm = true) (h : JGs X ts g gs) (hK : X.K = K := by rfl) (hn : (assignEach ts X.env).length = n := by rfl) (hst : (assignEach ts X.env).findIdx? (·.1) = none := by rfl) :
    JG X (.Tuple ts k pos) (kgTup K n g) (gTup K n gs) := by
  subst hK
  exact ⟨pg_tup hc h.pgs hn hst, fun v σ G M R H Q hv q hR => by
    match v, q with
    | .ref a, ⟨xs, q1, q2⟩ =>
      obtain ⟨e, q3⟩ := onLen_of q2
      exact ⟨a, xs, rfl, hv.tup q1, e, h.sim xs σ G M R H Q hv q3 hR⟩,
   fun T vs σ G M R H Q hv hT q hR => by
    obtain ⟨e, q3⟩ := onLen_of q
    exact ⟨T, vs, rfl, .inl (.inl upd_same), e, h.sim vs σ G M R _ Q (hv.junk hT) q3 hR⟩⟩
/-- nothing is raised -/
def W0 : WX := fun _ _ _ _ => False
/-- a place of a list as a target -/
def setL (o i v : V) (G : Hp) (M : Mem) (R : Hp → Mem → Prop) : Prop := match o, i with
  | .ref a, .int k => ∃ n xs j, M[n]? = some (a, .lst xs) ∧ ixN xs.length k = some j ∧ R G (M.set n (a, .lst (xs.set j v)))
  | _, _ => False
def kgIx (to ti : KE) : KG := ⟨fun v σ G M R => to σ G M (fun o G M => ti σ G M (fun i G M => setL o i v G M (fun G M => R σ G M)) (fun _ _ _ _ => False)) (fun _ _ _ _ => False), fun _ _ _ _ _ => False⟩
theorem jg_ix {o i : Expr} {to ti : KE} (ho : JE X W0 o to) (hi : JE X W0 i ti)
    (ha : ∀ v, assign (.Subscript o i pos) X.env v = (do
      let ov ← holding [v] (eval o X.env)
      let iv ← holding [v, ov] (eval i X.env)
      standAt pos
      holding [v, ov, iv] (setItem ov iv v)
      release [v, ov, iv] []) := by intro _; rfl) : JG X (.Subscript o i pos) (kgIx to ti) (gSub (upG W0 to) (upG W0 ti) rSetL) :=
  ⟨pg_sub ho hi set_list ha, fun v σ G M R H Q hv q hR => ⟨G, M, _, _, hv, q, fun ov G2 M2 H2 hv2 q2 => ⟨G2, M2, _, _, hv2, q2, fun iv G3 M3 H3 hv3 q3 => by
    match ov, iv, q3 with
    | .ref a, .int k, ⟨n, xs, j, e1, e2, q⟩ => exact ⟨a, xs, k, j, rfl, rfl, hv3.get e1, e2, hR σ G3 _ _ (hv3.set e1) q⟩, fun _ _ _ _ _ _ z => z.elim⟩, fun _ _ _ _ _ _ z => z.elim⟩,
   fun _ _ _ _ _ _ _ _ _ _ z => z.elim⟩
/-- a target of an assignment -/
def kAsg (t : KE) (g : KG) : KS := fun D σ G M => t σ G M (fun v G M => g.val v σ G M D.nx) (D.x σ)
theorem js_asg {tg : Expr} {t : KE} {g : KG} {gr : TG} (he : JE X W e t) (hg : JG X tg g gr) (hs : swapsWithSole [tg] e pos.line X.env = pure false := by rfl) (hw : swappedStores [tg] e X.env = pure none := by rfl)
    (h1 : (assignEach [tg] X.env).map (·.2) = [assign tg X.env] := by rfl) : JS X W (.Assign [tg] e pos) (kAsg t g) := ps_mono (ps_asg he hg.pg hs hw h1) fun D σ H ⟨G, M, d, hv, h, en⟩ =>
  ⟨G, M, _, _, hv, h, fun v G' M' H' hv' q => hg.val v σ G' M' _ H' _ hv' q fun σ' G2 M2 H2 hv2 q2 => en.nx _ G2 M2 H2 hv2 q2, fun c a G' M' H' hv' q => en.xc c a σ G' M' H' hv' q⟩
end
end BT
set_option Elab.async false
set_option linter.all false
set_option maxRecDepth 100000
set_option maxHeartbeats 4000000
namespace BT
open PySem PySem.Spec L2
open PyProof.Rows hiding St
/-! ### what is walked -/
structure Src where
  n : Nat
  get : Nat → V ⊕ List V
  ok : Hp → Mem → Prop
abbrev KI := KK Src
/-- an iterator that gives what the source says -/
structure Goes (src : Src) (J : It) : Prop where
  go : ∀ i G M H, Hv G M H → src.ok G M → i < src.n → J.go i H
  stop : ∀ i G M H, Hv G M H → src.ok G M → src.n ≤ i → J.stop i H
  yld : ∀ i G M H x H', Hv G M H → src.ok G M → i < src.n → J.yld i H x H' → match src.get i with
    | .inl v => x = v ∧ H' = H
    | .inr vs => ∃ T, x = .ref T ∧ H T = none ∧ H' = upd H T (.tup vs)
def upI (W : WX) (t : KI) : TI := fun σ H Q => ∃ G M R E, Hv G M H ∧ t σ G M R E ∧ (∀ src G' M' H', Hv G' M' H' → R src G' M' → ∀ J, Goes src J → Q J H') ∧ (∀ c d G' M' H', Hv G' M' H' → E c d G' M' → W c d σ H')
def JI (X : Cx) (W : WX) (tg it : Expr) (t : KI) : Prop := PI X tg it (upI W t)
theorem pi_mono {X : Cx} {tg it : Expr} {t t' : TI} (h : PI X tg it t) (i : ∀ σ H Q, t' σ H Q → t σ H Q) : PI X tg it t' := ⟨fun pins s σ H Q I q => h.run pins s σ H Q I (i σ H Q q)⟩
def srcL (K : PySem.W.Frag) (a : Addr) (xs : List V) : Src := ⟨xs.length, fun i => .inl (xs.getD i .non), fun G M => LstAt K G M a xs⟩
def srcT (K : PySem.W.Frag) (a : Addr) (xs : List V) : Src := ⟨xs.length, fun i => .inl (xs.getD i .non), fun G M => SqT K G a xs⟩
def srcR (lo : Int) (n : Nat) : Src := ⟨n, fun i => .inl (.int (lo + i)), fun _ _ => True⟩
def srcC (lo c : Int) (n : Nat) : Src := ⟨n, fun i => .inl (.int (lo + (i : Nat) * c)), fun _ _ => True⟩
def srcE (K : PySem.W.Frag) (a : Addr) (xs : List V) : Src := ⟨xs.length, fun i => .inr [.int i, xs.getD i .non], fun G M => LstAt K G M a xs⟩
def srcZ (K : PySem.W.Frag) (a b : Addr) (xs ys : List V) : Src := ⟨min xs.length ys.length, fun i => .inr [xs.getD i .non, ys.getD i .non], fun G M => LstAt K G M a xs ∧ LstAt K G M b ys⟩
def srcV (K : PySem.W.Frag) (a : Addr) (xs : List V) : Src := ⟨xs.length, fun i => .inl (xs.getD (xs.length - 1 - i) .non), fun G M => LstAt K G M a xs⟩
theorem getD_of {xs : List V} {i : Nat} {x : V} (h : xs[i]? = some x) : xs.getD i .non = x := by
  rw [List.getD_eq_getElem?_getD, h]; rfl
theorem get_lt {xs : List V} {i : Nat} (h : i < xs.length) : xs[i]? = some (xs.getD i .non) := by
  rw [List.getD_eq_getElem?_getD, List.getElem?_eq_getElem h]; rfl
theorem goes_L {K : PySem.W.Frag} {a : Addr} {xs : List V} : Goes (srcL K a xs) (Itl K a) where
  go := fun i G M H hv ok hi => ⟨xs, _, hv.lst ok, get_lt hi⟩
  stop := fun i G M H hv ok hi => ⟨xs, hv.lst ok, hi⟩
  yld := fun i G M H x H' hv ok hi y => ⟨(getD_of (y.2 xs (hv.lst ok))).symm, y.1⟩
theorem goes_T {K : PySem.W.Frag} {a : Addr} {xs : List V} : Goes (srcT K a xs) (Itt K a) where
  go := fun i G M H hv ok hi => ⟨xs, _, hv.tup ok, get_lt hi⟩
  stop := fun i G M H hv ok hi => ⟨xs, hv.tup ok, hi⟩
  yld := fun i G M H x H' hv ok hi y => ⟨(getD_of (y.2 xs (hv.tup ok))).symm, y.1⟩
theorem goes_R {lo : Int} {n : Nat} : Goes (srcR lo n) (Itr lo n) where
  go := fun i G M H hv ok hi => hi
  stop := fun i G M H hv ok hi => hi
  yld := fun i G M H x H' hv ok hi y => ⟨y.2, y.1⟩
theorem goes_C {lo c : Int} {n : Nat} : Goes (srcC lo c n) (Itc lo c n) where
  go := fun i G M H hv ok hi => hi
  stop := fun i G M H hv ok hi => hi
  yld := fun i G M H x H' hv ok hi y => ⟨y.2, y.1⟩
theorem goes_E {K : PySem.W.Frag} {a : Addr} {xs : List V} : Goes (srcE K a xs) (Ite K a) where
  go := fun i G M H hv ok hi => ⟨xs, _, hv.lst ok, get_lt hi⟩
  stop := fun i G M H hv ok hi => ⟨xs, hv.lst ok, hi⟩
  yld := fun i G M H x H' hv ok hi y => by
    obtain ⟨T, z, e1, e2, e3, e4⟩ := y
    have e5 := getD_of (e4 xs (hv.lst ok))
    exact ⟨T, e1, e2, by rw [e3, ← e5]⟩
theorem goes_Z {K : PySem.W.Frag} {a b : Addr} {xs ys : List V} : Goes (srcZ K a b xs ys) (Itz K a b) where
  go := fun i G M H hv ok hi => ⟨xs, ys, _, _, hv.lst ok.1, hv.lst ok.2, get_lt (Nat.lt_of_lt_of_le hi (Nat.min_le_left _ _)), get_lt (Nat.lt_of_lt_of_le hi (Nat.min_le_right _ _))⟩
  stop := fun i G M H hv ok hi => ⟨xs, ys, hv.lst ok.1, hv.lst ok.2, by
    have hi : min xs.length ys.length ≤ i := hi
    omega⟩
  yld := fun i G M H x H' hv ok hi y => by
    obtain ⟨T, z, w, e1, e2, e3, e4, e5⟩ := y
    have e6 := getD_of (e4 xs (hv.lst ok.1))
    have e7 := getD_of (e5 ys (hv.lst ok.2))
    exact ⟨T, e1, e2, by rw [e3, ← e6, ← e7]⟩
theorem goes_V {K : PySem.W.Frag} {a : Addr} {xs : List V} : Goes (srcV K a xs) (Itv K a xs.length) where
  go := fun i G M H hv ok hi => ⟨hi, xs, _, hv.lst ok, get_lt (by have hi : i < xs.length := hi; omega)⟩
  stop := fun i G M H hv ok hi => hi
  yld := fun i G M H x H' hv ok hi y => ⟨(getD_of (y.2 xs (hv.lst ok))).symm, y.1⟩
section
variable {X : Cx} {W : WX} {pos p tpos : Pos} {e e2 a b c : Expr} {es : List Expr} {tg : Expr}
def kiSeq (K : PySem.W.Frag) (t : KE) : KI := fun σ G M R E => t σ G M (fun x G M => match x with
  | .ref a => ∃ xs, LstAt K G M a xs ∧ R (srcL K a xs) G M
  | _ => False) E
def kiTup (K : PySem.W.Frag) (t : KE) : KI := fun σ G M R E => t σ G M (fun x G M => match x with
  | .ref a => ∃ xs, SqT K G a xs ∧ R (srcT K a xs) G M
  | _ => False) E
theorem ji_list {t : KE} (h : JE X W e t) : JI X W tg e (kiSeq X.K t) := pi_mono (pi_list h) fun σ H Q ⟨G, M, R, E, hv, h, hR, hE⟩ => ⟨G, M, _, E, hv, h, fun x G1 M1 H1 hv1 q => by
    match x, q with
    | .ref a, ⟨xs, q1, q2⟩ => exact ⟨a, rfl, ⟨xs, hv1.lst q1⟩, hR _ G1 M1 H1 hv1 q2 _ goes_L⟩, hE⟩
theorem ji_tup {t : KE} (h : JE X W e t) : JI X W tg e (kiTup X.K t) := pi_mono (pi_tup h) fun σ H Q ⟨G, M, R, E, hv, h, hR, hE⟩ => ⟨G, M, _, E, hv, h, fun x G1 M1 H1 hv1 q => by
    match x, q with
    | .ref a, ⟨xs, q1, q2⟩ => exact ⟨a, rfl, ⟨xs, hv1.tup q1⟩, hR _ G1 M1 H1 hv1 q2 _ goes_T⟩, hE⟩
/-- range(n), range(a, b), range(a, b, c) -/
def kiR1 (t : KA) : KI := fun σ G M R E => t σ G M (fun vs G M => match vs with
  | [.int j] => (-(2 ^ 62) ≤ j ∧ j < 2 ^ 62) ∧ R (srcR 0 j.toNat) G M
  | _ => False) E
def kiR2 (t : KA) : KI := fun σ G M R E => t σ G M (fun vs G M => match vs with
  | [.int i, .int j] => (-(2 ^ 62) ≤ i ∧ i < 2 ^ 62 ∧ -(2 ^ 62) ≤ j ∧ j < 2 ^ 62) ∧ R (srcR i (j - i).toNat) G M
  | _ => False) E
def kiR3 (t : KA) : KI := fun σ G M R E => t σ G M (fun vs G M => match vs with
  | [.int i, .int j, .int c] => ∃ n, RgC i j c n ∧ R (srcC i c n) G M
  | _ => False) E
theorem ji_range1 {t : KA} (hm : X.mg "range" = none) (ha : JA X W [a] t) (hg : Gl X "range" := by rfl) (hs : starEach [a] X.env = [(false, eval a X.env)] := by rfl) : JI X W tg (.Call (.Name "range" p) [a] [] pos) (kiR1 t) :=
  pi_mono (pi_range1 hg hm ha hs) fun σ H Q ⟨G, M, R, E, hv, h, hR, hE⟩ => ⟨G, M, _, E, hv, h, fun vs G1 M1 H1 hv1 q => by
    match vs, q with
    | [.int j], ⟨⟨q1, q2⟩, q3⟩ => exact ⟨j, rfl, q1, q2, hR _ G1 M1 H1 hv1 q3 _ goes_R⟩, hE⟩
theorem ji_range2 {t : KA} (hm : X.mg "range" = none) (ha : JA X W [a, b] t) (hg : Gl X "range" := by rfl) (hs : starEach [a, b] X.env = [(false, eval a X.env), (false, eval b X.env)] := by rfl) (hs2 : starEach [b] X.env = [(false, eval b X.env)] := by rfl) : JI X W tg (.Call (.Name "range" p) [a, b] [] pos) (kiR2 t) :=
  pi_mono (pi_range2 hg hm ha hs hs2) fun σ H Q ⟨G, M, R, E, hv, h, hR, hE⟩ => ⟨G, M, _, E, hv, h, fun vs G1 M1 H1 hv1 q => by
    match vs, q with
    | [.int i, .int j], ⟨q1, q3⟩ => exact ⟨i, j, rfl, q1, hR _ G1 M1 H1 hv1 q3 _ goes_R⟩, hE⟩
theorem ji_range3 {t : KA} (hm : X.mg "range" = none) (ha : JA X W [a, b, c] t) (hg : Gl X "range" := by rfl) (hs : starEach [a, b, c] X.env = (false, eval a X.env) :: starEach [b, c] X.env := by rfl) (hpl : (backTo pos (starEach [b, c] X.env)).any (·.1) = false := by rfl) : JI X W tg (.Call (.Name "range" p) [a, b, c] [] pos) (kiR3 t) :=
  pi_mono (pi_range3 hg hm ha hs hpl) fun σ H Q ⟨G, M, R, E, hv, h, hR, hE⟩ => ⟨G, M, _, E, hv, h, fun vs G1 M1 H1 hv1 q => by
    match vs, q with
    | [.int i, .int j, .int c], ⟨n, q1, q3⟩ => exact ⟨i, j, c, n, rfl, q1, hR _ G1 M1 H1 hv1 q3 _ goes_C⟩, hE⟩
def kiEnum (K : PySem.W.Frag) (t : KA) : KI := fun σ G M R E => t σ G M (fun vs G M => match vs with
  | [.ref a] => ∃ xs, LstAt K G M a xs ∧ R (srcE K a xs) G M
  | _ => False) E
def kiRev (K : PySem.W.Frag) (t : KA) : KI := fun σ G M R E => t σ G M (fun vs G M => match vs with
  | [.ref a] => ∃ xs, LstAt K G M a xs ∧ R (srcV K a xs) G M
  | _ => False) E
def kiZip (K : PySem.W.Frag) (t : KA) : KI := fun σ G M R E => t σ G M (fun vs G M => match vs with
  | [.ref a, .ref b] => ∃ xs ys, LstAt K G M a xs ∧ LstAt K G M b ys ∧ R (srcZ K a b xs ys) G M
  | _ => False) E
variable {elts : List Expr} {kk : Nat}
theorem ji_enum {t : KA} (hm : X.mg "enumerate" = none) (ha : JA X W [e] t) (hg : Gl X "enumerate" := by rfl) (hs : starEach [e] X.env = [(false, eval e X.env)] := by rfl) : JI X W (.Tuple elts kk tpos) (.Call (.Name "enumerate" p) [e] [] pos) (kiEnum X.K t) :=
  pi_mono (pi_enum hg hm ha hs) fun σ H Q ⟨G, M, R, E, hv, h, hR, hE⟩ => ⟨G, M, _, E, hv, h, fun vs G1 M1 H1 hv1 q => by
    match vs, q with
    | [.ref a], ⟨xs, q1, q3⟩ => exact ⟨a, xs, rfl, hv1.lst q1, hR _ G1 M1 H1 hv1 q3 _ goes_E⟩, hE⟩
theorem ji_rev {t : KA} (hm : X.mg "reversed" = none) (ha : JA X W [e] t) (hg : Gl X "reversed" := by rfl) (hs : starEach [e] X.env = [(false, eval e X.env)] := by rfl) : JI X W tg (.Call (.Name "reversed" p) [e] [] pos) (kiRev X.K t) :=
  pi_mono (pi_reversed hg hm ha hs) fun σ H Q ⟨G, M, R, E, hv, h, hR, hE⟩ => ⟨G, M, _, E, hv, h, fun vs G1 M1 H1 hv1 q => by
    match vs, q with
    | [.ref a], ⟨xs, q1, q3⟩ => exact ⟨a, xs, rfl, hv1.lst q1, hR _ G1 M1 H1 hv1 q3 _ goes_V⟩, hE⟩
theorem ji_zip {t : KA} (hm : X.mg "zip" = none) (ha : JA X W [e, e2] t) (hg : Gl X "zip" := by rfl) (hs : starEach [e, e2] X.env = (false, eval e X.env) :: starEach [e2] X.env := by rfl) (hpl : (backTo pos (starEach [e2] X.env)).any (·.1) = false := by rfl) :
    JI X W (.Tuple elts kk tpos) (.Call (.Name "zip" p) [e, e2] [] pos) (kiZip X.K t) :=
  pi_mono (pi_zip hg hm ha hs hpl) fun σ H Q ⟨G, M, R, E, hv, h, hR, hE⟩ => ⟨G, M, _, E, hv, h, fun vs G1 M1 H1 hv1 q => by
    match vs, q with
    | [.ref a, .ref b], ⟨xs, ys, q1, q2, q3⟩ => exact ⟨a, b, xs, ys, rfl, hv1.lst q1, hv1.lst q2, hR _ G1 M1 H1 hv1 q3 _ goes_Z⟩, hE⟩
/-! ### for -/
def asg (g : KG) (w : V ⊕ List V) : St → Hp → Mem → (St → Hp → Mem → Prop) → Prop := match w with
  | .inl v => g.val v
  | .inr vs => g.tup vs
def wk1 (Pv : St → Hp → Mem → Prop) : St → Hp → Mem → Prop := fun σ G M => ∃ G' M', Wk G M G' M' ∧ Pv σ G' M'
def kFor (ti : KI) (g : KG) (tb : KS) : KS := fun D σ G M => ti σ G M (fun src G M => ∃ Pv : Nat → St → Hp → Mem → Prop, Pv 0 σ G M ∧ (∀ i σ G M, i ≤ src.n → Pv i σ G M → src.ok G M) ∧
  (∀ i σ G M, i < src.n → Pv i σ G M → asg g (src.get i) σ G M (fun σ G M => tb { D with nx := wk1 (Pv (i + 1)), ct := wk1 (Pv (i + 1)), bk := D.nx } σ G M)) ∧ (∀ σ G M, Pv src.n σ G M → D.nx σ G M)) (D.x σ)
theorem asg_sim {g : KG} {gr : TG} (hg : JG X tg g gr) {w : V ⊕ List V} {σ : St} {G : Hp} {M : Mem} {R : St → Hp → Mem → Prop} {H H' : Hp} {x : V} {Q : St → Hp → Prop} (hv : Hv G M H)
    (y : match w with | .inl v => x = v ∧ H' = H | .inr vs => ∃ T, x = .ref T ∧ H T = none ∧ H' = upd H T (.tup vs)) (h : asg g w σ G M R) (hR : ∀ σ' G' M' H', Hv G' M' H' → R σ' G' M' → Q σ' H') : gr x σ H' Q := by
  cases w with
  | inl v =>
    obtain ⟨rfl, rfl⟩ := y
    exact hg.val _ σ G M R _ Q hv h hR
  | inr vs =>
    obtain ⟨T, rfl, hT, rfl⟩ := y
    exact hg.tup T vs σ G M R H Q hv hT h hR
theorem js_for {it : Expr} {body : List Stmt} {ti : KI} {g : KG} {gr : TG} {tb : KS} (hp : PassesOwn (model X.prog X.w) X.A X.env X.xe) (hc : X.calm = true) (hi : JI X W tg it ti) (hg : JG X tg g gr) (hb : JSs X W body tb)
    (hs : ∀ x, foldedSetIterable it X.env x = pure x := by intro _; rfl) : JS X W (.For tg it body [] pos) (kFor ti g tb) := ps_mono (ps_for hp hc hi hg.pg hb hs) fun D σ H ⟨G, M, d, hv, h, en⟩ => by
  refine ⟨G, M, _, _, hv, h, fun src G1 M1 H1 hv1 q J go => ?_, fun c a G' M' H' hv' q => en.xc c a σ G' M' H' hv' q⟩
  obtain ⟨Pv, p0, pok, pst, pend⟩ := q
  refine ⟨fun i m σ H => m = src.n - i ∧ i ≤ src.n ∧ ∃ G M, Hv G M H ∧ Pv i σ G M, ⟨src.n, by simp, Nat.zero_le _, G1, M1, hv1, p0⟩, ?_⟩
  rintro i m σ2 H2 ⟨rfl, hi2, G2, M2, hv2, p2⟩
  have ok := pok i σ2 G2 M2 hi2 p2
  by_cases hlt : i < src.n
  · refine .inr ⟨go.go i G2 M2 H2 hv2 ok hlt, fun σ' H' => ∃ G M, Hv G M H' ∧ Pv (i + 1) σ' G M, fun σ' H' ⟨G3, M3, hv3, p3⟩ => ⟨src.n - (i + 1), by omega, rfl, hlt, G3, M3, hv3, p3⟩, fun x H' y => ?_⟩
    refine asg_sim hg hv2 (go.yld i G2 M2 H2 x H' hv2 ok hlt y) (pst i σ2 G2 M2 hlt p2) fun σ3 G3 M3 H3 hv3 q3 => ?_
    have e1 : ∀ σ G M H, Hv G M H → wk1 (Pv (i + 1)) σ G M → ∃ G M, Hv G M H ∧ Pv (i + 1) σ G M := fun σ G M H hv ⟨G', M', wk, q⟩ => ⟨G', M', wk H hv, q⟩
    exact ⟨G3, M3, _, hv3, q3, ⟨e1, en.rt, en.nx, e1, en.xc⟩⟩
  · have e : i = src.n := by omega
    subst e
    exact .inl ⟨go.stop _ G2 M2 H2 hv2 ok (Nat.le_refl _), en.nx _ G2 M2 H2 hv2 (pend σ2 G2 M2 p2)⟩
/-! ### while -/
def kWhile (c : KT) (tb : KS) : KS := fun D σ G M => ∃ Pv : Nat → St → Hp → Mem → Prop, (∃ m, Pv m σ G M) ∧ ∀ m σ G M, Pv m σ G M →
  c σ G M (fun b G M => if b = true then tb { D with nx := fun σ G M => ∃ m', m' < m ∧ wk1 (Pv m') σ G M, ct := fun σ G M => ∃ m', m' < m ∧ wk1 (Pv m') σ G M, bk := D.nx } σ G M else D.nx σ G M) (D.x σ)
theorem js_while {c : Expr} {body : List Stmt} {tc : KT} {tb : KS} (hp : PassesOwn (model X.prog X.w) X.A X.env X.xe) (hc : JT X W c tc) (hb : JSs X W body tb) : JS X W (.While c body [] pos) (kWhile tc tb) := ps_mono (ps_while hp hc hb) fun D σ H ⟨G, M, d, hv, ⟨Pv, ⟨m0, p0⟩, st⟩, en⟩ => by
  refine ⟨fun m σ H => ∃ G M, Hv G M H ∧ Pv m σ G M, ⟨m0, G, M, hv, p0⟩, ?_⟩
  rintro m σ1 H1 ⟨G1, M1, hv1, p1⟩
  refine ⟨G1, M1, _, _, hv1, st m σ1 G1 M1 p1, fun b G2 M2 H2 hv2 q2 => ?_, fun c a G' M' H' hv' q => en.xc c a σ1 G' M' H' hv' q⟩
  cases b with
  | true =>
    rw [if_pos rfl] at q2 ⊢
    refine ⟨fun σ' H' => ∃ m', m' < m ∧ ∃ G M, Hv G M H' ∧ Pv m' σ' G M, fun σ' H' h => h, ?_⟩
    have e1 : ∀ σ G M H, Hv G M H → (∃ m', m' < m ∧ wk1 (Pv m') σ G M) → ∃ m', m' < m ∧ ∃ G M, Hv G M H ∧ Pv m' σ G M := fun σ G M H hv ⟨m', l, G', M', wk, q⟩ => ⟨m', l, G', M', wk H hv, q⟩
    exact ⟨G2, M2, _, hv2, q2, ⟨e1, en.rt, en.nx, e1, en.xc⟩⟩
  | false =>
    rw [if_neg Bool.false_ne_true] at q2 ⊢
    exact en.nx _ G2 M2 H2 hv2 q2
/-! ### list comprehensions -/
def E0 : KX := fun _ _ _ _ => False
def kYes : KT := fun _ G M R _ => R true G M
def JTs (X : Cx) (W : WX) (es : List Expr) (t : KT) : Prop := PTs X es (upG W t)
theorem jts_nil : JTs X W [] kYes := ⟨fun pins s σ H Q I ⟨G, M, R, E, hv, h, hR, _⟩ => pts_nil.run pins s σ H Q I (hR _ G M H hv h)⟩
theorem jts_one {t : KT} (h : JT X W c t) : JTs X W [c] t := pts_one h
def kComp (ti : KI) (g : KG) (tt : KT) (te : KE) (own : List Nat) : KE := fun σ G M R E => ti σ G M (fun src G M => src.n ≤ sizeLine ∧ ∃ Pv : Nat → List V → Hp → Mem → Prop, Pv 0 [] G M ∧ (∀ i acc G M, i ≤ src.n → Pv i acc G M → src.ok G M) ∧
  (∀ i acc G M D, i < src.n → acc.length ≤ i → Pv i acc G M → Fr G M D → asg g (src.get i) (wipe σ own) G ((D, .lst acc) :: M) (fun σ2 G M => wipe σ2 own = wipe σ own ∧ tt σ2 G M (fun b G M =>
    if b = true then te σ2 G M (fun y G M => ∃ G' M', Wk G M G' ((D, .lst acc) :: M') ∧ Pv (i + 1) (acc ++ [y]) G' M') E0 else ∃ G' M', Wk G M G' ((D, .lst acc) :: M') ∧ Pv (i + 1) acc G' M') E0)) ∧
  (∀ acc G M p, Pv src.n acc G M → acc.length ≤ src.n → Fr G M p → R (.ref p) G ((p, .lst acc) :: M))) E
theorem comp_sim {K : PySem.W.Frag} {ti : KI} {g : KG} {gr : TG} {tt : KT} {te : KE} {own : List Nat} {σ : St} {H : Hp} {Q : VK}
    (hgv : ∀ v σ G M R H Q, Hv G M H → g.val v σ G M R → (∀ σ' G' M' H', Hv G' M' H' → R σ' G' M' → Q σ' H') → gr v σ H Q)
    (hgt : ∀ T vs σ G M R H Q, Hv G M H → H T = none → g.tup vs σ G M R → (∀ σ' G' M' H', Hv G' M' H' → R σ' G' M' → Q σ' H') → gr (.ref T) σ (upd H T (.tup vs)) Q)
    (h : upG W (kComp ti g tt te own) σ H Q) : tLc (upI W ti) gr (upG W0 tt) (upG W0 te) own σ H Q := by
  obtain ⟨G, M, R, E, hv, h, hR, hE⟩ := h
  refine ⟨G, M, _, E, hv, h, fun src G1 M1 H1 hv1 q J go => ?_, hE⟩
  obtain ⟨hn, Pv, p0, pok, pst, pend⟩ := q
  intro D hD
  refine ⟨fun i m H => m = src.n - i ∧ i ≤ src.n ∧ ∃ acc G M, acc.length ≤ i ∧ Hv G ((D, .lst acc) :: M) H ∧ Pv i acc G M, ⟨src.n, by simp, Nat.zero_le _, [], G1, M1, Nat.le_refl _, hv1.newM hD, p0⟩, ?_⟩
  rintro i m H2 ⟨rfl, hi2, acc, G2, M2, hacc, hv2, p2⟩
  have hv2' : Hv G2 M2 H2 := Wk.drop0 H2 hv2
  have ok := pok i acc G2 M2 hi2 p2
  have fD : Fr G2 M2 D := by
    refine ⟨hv2.dj (D, .lst acc) List.mem_cons_self, fun x hx e => ?_⟩
    have nd := hv2.nd
    rw [List.map_cons, List.nodup_cons] at nd
    exact nd.1 (by rw [← e]; exact List.mem_map.mpr ⟨x, hx, rfl⟩)
  by_cases hlt : i < src.n
  · refine .inr ⟨go.go i G2 M2 H2 hv2' ok hlt, fun H' => ∃ acc G M, acc.length ≤ i + 1 ∧ Hv G ((D, .lst acc) :: M) H' ∧ Pv (i + 1) acc G M, fun H' ⟨acc', G3, M3, l3, hv3, p3⟩ => ⟨src.n - (i + 1), by omega, rfl, hlt, acc', G3, M3, l3, hv3, p3⟩, fun x H' y => ?_⟩
    have step := pst i acc G2 M2 D hlt hacc p2 fD
    have yy := go.yld i G2 M2 H2 x H' hv2' ok hlt y
    have fin : ∀ σ3 G3 M3 H3, Hv G3 M3 H3 → (wipe σ3 own = wipe σ own ∧ tt σ3 G3 M3 (fun b G M =>
        if b = true then te σ3 G M (fun y G M => ∃ G' M', Wk G M G' ((D, .lst acc) :: M') ∧ Pv (i + 1) (acc ++ [y]) G' M') E0 else ∃ G' M', Wk G M G' ((D, .lst acc) :: M') ∧ Pv (i + 1) acc G' M') E0) →
        (wipe σ3 own = wipe σ own ∧ upG W0 tt σ3 H3 fun b H3 => if b = true then upG W0 te σ3 H3 fun y H4 => ∃ acc, H4 D = some (.lst acc) ∧ acc.length < sizeLine ∧ (∃ acc' G M, acc'.length ≤ i + 1 ∧ Hv G ((D, .lst acc') :: M) (upd H4 D (.lst (acc ++ [y]))) ∧ Pv (i + 1) acc' G M) else ∃ acc' G M, acc'.length ≤ i + 1 ∧ Hv G ((D, .lst acc') :: M) H3 ∧ Pv (i + 1) acc' G M) := by
      rintro σ3 G3 M3 H3 hv3 ⟨ew, q3⟩
      refine ⟨ew, G3, M3, _, _, hv3, q3, fun b G4 M4 H4 hv4 q4 => ?_, fun _ _ _ _ _ _ z => z.elim⟩
      cases b with
      | true =>
        rw [if_pos rfl] at q4 ⊢
        refine ⟨G4, M4, _, _, hv4, q4, fun y G5 M5 H5 hv5 ⟨G6, M6, wk, p6⟩ => ?_, fun _ _ _ _ _ _ z => z.elim⟩
        have hv6 := wk H5 hv5
        refine ⟨acc, hv6.mu (D, .lst acc) List.mem_cons_self, by omega, acc ++ [y], G6, M6, by rw [List.length_append]; exact Nat.succ_le_succ hacc, ?_, p6⟩
        exact hv6.set (n := 0) (o' := .lst (acc ++ [y])) rfl
      | false =>
        rw [if_neg Bool.false_ne_true] at q4 ⊢
        obtain ⟨G6, M6, wk, p6⟩ := q4
        exact ⟨acc, G6, M6, by omega, wk H4 hv4, p6⟩
    revert yy step
    cases src.get i with
    | inl v =>
      rintro step ⟨rfl, rfl⟩
      exact hgv _ _ G2 _ _ _ _ hv2 step fin
    | inr vs =>
      rintro step ⟨T, rfl, hT, rfl⟩
      exact hgt T vs _ G2 _ _ _ _ hv2 hT step fin
  · have e : i = src.n := by omega
    subst e
    exact .inl ⟨go.stop _ G2 M2 H2 hv2' ok (Nat.le_refl _), hR _ _ _ _ hv2 (pend acc G2 M2 D p2 hacc fD)⟩
variable {elt it : Expr} {ifs : List Expr} {scope : Scope} {own : List (Str × Nat)} {spos py : Pos}
theorem je_comp {ti : KI} {g : KG} {gr : TG} {tt : KT} {te : KE} (hc : X.calm = true) (hN : X.N.Nodup) (hi : JI X W tg it ti) (ok : BlkOk X.N X.env.scope scope own)
    (hg : ∀ (s : Shared) (H : Hp) (C : Addr) (cl : List (Str × Addr)) (fp : List Addr), JG (X.blk s H scope (compEnvC scope cl C X.env) fp) tg g gr) (ht : ∀ (s : Shared) (H : Hp) (C : Addr) (cl : List (Str × Addr)) (fp : List Addr), JTs (X.blk s H scope (compEnvC scope cl C X.env) fp) W0 ifs tt)
    (he : ∀ (s : Shared) (H : Hp) (C : Addr) (cl : List (Str × Addr)) (fp : List Addr), JE (X.blk s H scope (compEnvC scope cl C X.env) fp) W0 elt te) (hs : ∀ x, foldedSetIterable it X.env x = pure x := by intro _; rfl) :
    JE X W (.ListComp elt [⟨tg, it, ifs, 0⟩] scope pos) (kComp ti g tt te (own.map (·.2))) :=
  pe_mono (pe_lc hc hN hi ok (fun s H C cl fp => (hg s H C cl fp).pg) ht he hs) fun σ H Q h =>
    comp_sim (K := X.K) (fun v σ G M R H Q hv => ((hg X.s_0 H 0 [] []).val v σ G M R H Q hv)) (fun T vs σ G M R H Q hv => ((hg X.s_0 H 0 [] []).tup T vs σ G M R H Q hv)) h
theorem js_setComp {i : Nat} {y : Str} {ti : KI} {g : KG} {gr : TG} {tt : KT} {te : KE} (hc : X.calm = true) (hN : X.N.Nodup) (hsw : swapsWith (.ListComp elt [⟨tg, it, ifs, 0⟩] scope pos) (some (.Name y py)) spos.line X.env = pure true) (hi : JI X W tg it ti) (ok : BlkOk X.N X.env.scope scope own)
    (hg : ∀ (s : Shared) (H : Hp) (C : Addr) (cl : List (Str × Addr)) (fp : List Addr), JG (X.blk s H scope (compEnvC scope cl C X.env) fp) tg g gr) (ht : ∀ (s : Shared) (H : Hp) (C : Addr) (cl : List (Str × Addr)) (fp : List Addr), JTs (X.blk s H scope (compEnvC scope cl C X.env) fp) W0 ifs tt)
    (he : ∀ (s : Shared) (H : Hp) (C : Addr) (cl : List (Str × Addr)) (fp : List Addr), JE (X.blk s H scope (compEnvC scope cl C X.env) fp) W0 elt te) (hy : X.N[i]? = some y := by rfl) (hyl : X.env.scope.names.lookup y = some .local := by rfl) (hs : ∀ x, foldedSetIterable it X.env x = pure x := by intro _; rfl) :
    JS X W (.Assign [.Name y py] (.ListComp elt [⟨tg, it, ifs, 0⟩] scope pos) spos) (kSet i (kComp ti g tt te (own.map (·.2)))) :=
  ps_mono (ps_setLc hc hN hy hyl hsw hi ok (fun s H C cl fp => (hg s H C cl fp).pg) ht he hs) fun D σ H ⟨G, M, d, hv, h, en⟩ =>
    comp_sim (K := X.K) (fun v σ G M R H Q hv => ((hg X.s_0 H 0 [] []).val v σ G M R H Q hv)) (fun T vs σ G M R H Q hv => ((hg X.s_0 H 0 [] []).tup T vs σ G M R H Q hv))
      ⟨G, M, _, _, hv, h, fun v G' M' H' hv' q => en.nx _ G' M' H' hv' q, fun c a G' M' H' hv' q => en.xc c a σ G' M' H' hv' q⟩
end
/-! ### a def -/
/-- what is known may be weakened at the end -/
def wkR (R : KR) : KR := fun v G M => ∀ H, Hv G M H → ∃ G' M', Hv G' M' H ∧ R v G' M'
def wkX (Z : KX) : KX := fun c d G M => ∃ G' M', Wk G M G' M' ∧ Z c d G' M'
theorem ret0 {R : KR} {v : V} {G : Hp} {M : Mem} (h : R v G M) : wkR R v G M := fun _ hv => ⟨G, M, hv, h⟩
theorem retW {R : KR} {v : V} {G G' : Hp} {M M' : Mem} (w : Wk G M G' M') (h : R v G' M') : wkR R v G M := fun H hv => ⟨G', M', w H hv, h⟩
theorem wkR_wk {R : KR} {v : V} {G G' : Hp} {M M' : Mem} (w : Wk G M G' M') (h : wkR R v G' M') : wkR R v G M := fun H hv => h H (w H hv)
section
variable {P : Program} {w : World} {K : PySem.W.Frag} {mg : Str → Option Value} {base : Heap}
theorem fn_ok {x qual : Str} {st : Stmt} {f : Addr} {fd : FuncData} {N ps : List Str} {k : Nat} {S : KSp} (F : Fun K x qual st f fd) (sc : FnScope N ps (defScope st)) (len : ∀ vs G M R X, S vs G M R X → vs.length = ps.length)
    (hbody : ∀ (cdv : Value) (A : Around) (outer : List Env) (s : Shared) (H : Hp) (E : XK), Room k (A.deeper (envOfC qual (defScope st) s.heap.objs.size f cdv)) →
      ∃ t, JSs (cxOf (L2.CX P w) P w K mg base N qual (defScope st) f cdv A outer s H E) (fun c d _ H => E c d H) (defBody st) t ∧
        ∀ vs G M R Z, S vs G M R Z → t { nx := fun _ G M => wkR R .non G M, rt := wkR R, xc := fun c d _ G M => wkX Z c d G M } (start N vs) G M) : FnOk P w K mg base (L2.CX P w) (k + 1) f fd ps (lift S) := by
  refine F.okX sc (fun vs H Q E ⟨G, M, R, Z, _, h, _⟩ => len vs G M R Z h) fun cdv A outer s H vs Q E hr ⟨G, M, R, Z, hv, h, hR, hZ⟩ => ?_
  obtain ⟨t, j, q⟩ := hbody cdv A outer s H E hr
  exact ⟨_, j, G, M, _, hv, q vs G M R Z h, ⟨fun σ G M H hv h => (h H hv).elim fun G' h => h.elim fun M' h => hR _ G' M' H h.1 h.2, fun v G M H hv h => (h H hv).elim fun G' h => h.elim fun M' h => hR _ G' M' H h.1 h.2, fun _ _ _ _ _ z => z.elim, fun _ _ _ _ _ z => z.elim, fun c a σ G M H hv ⟨G', M', w, q⟩ => hZ c a G' M' H (w H hv) q⟩⟩
/-- a def that keeps its promise -/
structure Def (P : Program) (w : World) (K : PySem.W.Frag) (mg : Str → Option Value) (base : Heap) (lev : Nat) (x : Str) (ps : List Str) (S : KSp) : Prop where
  ex : ∃ f fd, FnOk P w K mg base (L2.CX P w) lev f fd ps (lift S) ∧ mg x = some (.ref f) ∧ PySem.W.keepIn K (.ref f) = true ∧ Binds K fd ps []
end
section
variable {X : Cx} {W : WX} {pos p : Pos} {e : Expr} {es : List Expr} {x : Str} {k lev : Nat} {ps : List Str} {S : KSp} {t : KA}
theorem je_callD (D : Def X.prog X.w X.K X.mg X.base lev x ps S) (hr : Room k X.A) (tk : Takes X W) (ha : JA X W (e :: es) t) (hl : lev ≤ k := by decide) (hg : Gl X x := by rfl)
    (hdb : (x == ("__debug__" : Str)) = false := by decide) (he : starEach (e :: es) X.env = (false, eval e X.env) :: starEach es X.env := by rfl) (hpl : (backTo pos (starEach es X.env)).any (·.1) = false := by rfl) :
    JE X W (.Call (.Name x p) (e :: es) [] pos) (kCall S t) := by
  obtain ⟨f, fd, F, hm, hk, hb⟩ := D.ex
  exact je_call (F.mono hl) hr tk hm hk hb ha hg hdb he hpl
end
end BT
set_option Elab.async false
set_option linter.all false
set_option maxRecDepth 100000
set_option maxHeartbeats 4000000
namespace BT
open PySem PySem.Spec L2
open PyProof.Rows hiding St
/-! ### promises by the number of arguments -/
def sp1 (f : V → Hp → Mem → KR → KX → Prop) : KSp := fun vs G M R Z => match vs with
  | [x] => f x G M R Z
  | _ => False
def sp2 (f : V → V → Hp → Mem → KR → KX → Prop) : KSp := fun vs G M R Z => match vs with
  | [x, y] => f x y G M R Z
  | _ => False
def sp3 (f : V → V → V → Hp → Mem → KR → KX → Prop) : KSp := fun vs G M R Z => match vs with
  | [x, y, z] => f x y z G M R Z
  | _ => False
def sp4 (f : V → V → V → V → Hp → Mem → KR → KX → Prop) : KSp := fun vs G M R Z => match vs with
  | [x, y, z, u] => f x y z u G M R Z
  | _ => False
def sp5 (f : V → V → V → V → V → Hp → Mem → KR → KX → Prop) : KSp := fun vs G M R Z => match vs with
  | [x, y, z, u, t] => f x y z u t G M R Z
  | _ => False
section
variable {vs : List V} {G : Hp} {M : Mem} {R : KR} {Z : KX}
theorem sp1_of {f} (h : sp1 f vs G M R Z) : ∃ x, vs = [x] ∧ f x G M R Z := by
  match vs, h with
  | [x], h => exact ⟨x, rfl, h⟩
theorem sp2_of {f} (h : sp2 f vs G M R Z) : ∃ x y, vs = [x, y] ∧ f x y G M R Z := by
  match vs, h with
  | [x, y], h => exact ⟨x, y, rfl, h⟩
theorem sp3_of {f} (h : sp3 f vs G M R Z) : ∃ x y z, vs = [x, y, z] ∧ f x y z G M R Z := by
  match vs, h with
  | [x, y, z], h => exact ⟨x, y, z, rfl, h⟩
theorem sp4_of {f} (h : sp4 f vs G M R Z) : ∃ x y z u, vs = [x, y, z, u] ∧ f x y z u G M R Z := by
  match vs, h with
  | [x, y, z, u], h => exact ⟨x, y, z, u, rfl, h⟩
theorem sp5_of {f} (h : sp5 f vs G M R Z) : ∃ x y z u t, vs = [x, y, z, u, t] ∧ f x y z u t G M R Z := by
  match vs, h with
  | [x, y, z, u, t], h => exact ⟨x, y, z, u, t, rfl, h⟩
theorem sp_len1 {f} (h : sp1 f vs G M R Z) : vs.length = 1 := by obtain ⟨_, rfl, _⟩ := sp1_of h; rfl
theorem sp_len2 {f} (h : sp2 f vs G M R Z) : vs.length = 2 := by obtain ⟨_, _, rfl, _⟩ := sp2_of h; rfl
theorem sp_len3 {f} (h : sp3 f vs G M R Z) : vs.length = 3 := by obtain ⟨_, _, _, rfl, _⟩ := sp3_of h; rfl
theorem sp_len4 {f} (h : sp4 f vs G M R Z) : vs.length = 4 := by obtain ⟨_, _, _, _, rfl, _⟩ := sp4_of h; rfl
theorem sp_len5 {f} (h : sp5 f vs G M R Z) : vs.length = 5 := by obtain ⟨_, _, _, _, _, rfl, _⟩ := sp5_of h; rfl
end
/-- what a body has at its ends -/
abbrev ends (R : KR) (Z : KX) : Kd := { nx := fun _ G M => wkR R .non G M, rt := wkR R, xc := fun c d _ G M => wkX Z c d G M }
/-! ### small helps -/
section
variable {K : PySem.W.Frag} {G : Hp} {M : Mem} {a p : Addr} {xs : List V} {o : HO} {n : Nat}
theorem lst_n (h : M[n]? = some (a, .lst xs)) : SeqAt' K G M a xs := .inl (.inl (List.mem_of_getElem? h))
theorem lat_n (h : M[n]? = some (a, .lst xs)) : LstAt K G M a xs := .inl (List.mem_of_getElem? h)
theorem lst_g (h : SqL K G a xs) : SeqAt' K G M a xs := .inl (.inr h)
theorem lat_g (h : SqL K G a xs) : LstAt K G M a xs := .inr h
theorem tup_g (h : SqT K G a xs) : SeqAt' K G M a xs := .inr h
theorem at_n (h : M[n]? = some (a, o)) : At G M a o := .inl (List.mem_of_getElem? h)
theorem set_n {x : Addr × HO} (h : M[n]? = some (p, o)) : (M.set n x)[n]? = some x := List.getElem?_set_self (List.getElem?_eq_some_iff.mp h).1
theorem sqt_new {xs : List V} : SqT K (upd G p (.tup xs)) p xs := .inl (.inl upd_same)
theorem sql_new {xs : List V} : SqL K (upd G p (.lst xs)) p xs := .inl (.inl upd_same)
theorem ite2' {c : Bool} {A B : Prop} (h1 : c = true → A) (h2 : c = false → B) : if c = true then A else B := by
  cases c with
  | true => rw [if_pos rfl]; exact h1 rfl
  | false => rw [if_neg Bool.false_ne_true]; exact h2 rfl
theorem sz {n : Nat} (h : n ≤ 16777216) : n ≤ sizeLine := h
theorem tyl_n (h : M[n]? = some (a, .lst xs)) : ∀ H, Hv G M H → tyV K "list" (.ref a) H := fun H hv => .inl ⟨rfl, xs, .inl (.inl (hv.get h))⟩
theorem tyl_g (h : SqL K G a xs) : ∀ H, Hv G M H → tyV K "list" (.ref a) H := fun H hv => .inl ⟨rfl, xs, ex_l hv.exx h⟩
end
/-! ### the law's pool of numbers -/
def pool (c s : Int) : HO := .lst [.int c, .int s]
def PoolOk (s : Int) : Prop := 0 ≤ s ∧ s < 2147483647
def S_law_take (K : PySem.W.Frag) : KSp := sp2 fun x y G M R Z => ∃ (p : Addr) (m : Int) (n : Nat) (c s : Int), x = .ref p ∧ y = .int m ∧ M[n]? = some (p, pool c s) ∧ PoolOk s ∧ 0 < m ∧ m < 2 ^ 200 ∧
  ∀ r c' s', 0 ≤ r → r < m → PoolOk s' → R (.int r) G (M.set n (p, pool c' s'))
def S_law_pool (K : PySem.W.Frag) : KSp := sp2 fun x y G M R Z => ∃ (a : Addr) (ns : List Int) (k : Int), x = .ref a ∧ y = .int k ∧ SqL K G a (ns.map V.int) ∧ 0 ≤ k ∧ k ≤ 100 ∧ ns.length ≤ 63 ∧
  ∀ p c s, Fr G M p → PoolOk s → R (.ref p) G ((p, pool c s) :: M)
end BT
set_option Elab.async false
set_option linter.all false
set_option maxRecDepth 100000
set_option maxHeartbeats 4000000
namespace BT
open PySem PySem.Spec L2
open PyProof.Rows hiding St
/-! ### shapes of data -/
inductive Shp : Nat → PyData → Prop
  | non {n} : Shp n .none
  | bl {n b} : Shp n (.bool b)
  | int {n i} : Shp n (.int i)
  | str {n x} : PyData.strOk x = true → Shp n (.str x)
  | list {n ds} : (∀ d, d ∈ ds → Shp n d) → Shp (n + 1) (.list ds)
  | tuple {n ds} : (∀ d, d ∈ ds → Shp n d) → Shp (n + 1) (.tuple ds)
theorem shp_all {n : Nat} (ih : ∀ d, Shp n d → d.canLay0 = true ∧ d.depth ≤ n) : ∀ ds : List PyData, (∀ d, d ∈ ds → Shp n d) → PyData.canLayAll0 ds = true ∧ PyData.depthAll ds ≤ n
  | [], _ => by
    refine ⟨by simp [PyData.canLayAll0], by simp [PyData.depthAll]⟩
  | d :: ds, h => by
    obtain ⟨a, b⟩ := ih d (h d List.mem_cons_self)
    obtain ⟨c, e⟩ := shp_all ih ds fun x hx => h x (List.mem_cons_of_mem _ hx)
    refine ⟨by simp [PyData.canLayAll0, a, c], ?_⟩
    show max d.depth (PyData.depthAll ds) ≤ n
    omega
theorem shp_of : ∀ (n : Nat) (d : PyData), Shp n d → d.canLay0 = true ∧ d.depth ≤ n
  | n, _, .non => by refine ⟨by simp [PyData.canLay0], by simp [PyData.depth]⟩
  | n, _, .bl => by refine ⟨by simp [PyData.canLay0], by simp [PyData.depth]⟩
  | n, _, .int => by refine ⟨by simp [PyData.canLay0], by simp [PyData.depth]⟩
  | n, _, .str h => by refine ⟨by simp [PyData.canLay0, h], by simp [PyData.depth]⟩
  | n + 1, .list ds, .list h => by
    obtain ⟨a, b⟩ := shp_all (shp_of n) ds h
    refine ⟨by simp [PyData.canLay0, a], ?_⟩
    show PyData.depthAll ds + 1 ≤ n + 1
    omega
  | n + 1, .tuple ds, .tuple h => by
    obtain ⟨a, b⟩ := shp_all (shp_of n) ds h
    refine ⟨by simp [PyData.canLay0, a], ?_⟩
    show PyData.depthAll ds + 1 ≤ n + 1
    omega
theorem Shp.shaped {n : Nat} {d : PyData} (h : Shp n d) (hn : n ≤ 64) : SeqAt.shaped d = true := by
  obtain ⟨a, b⟩ := shp_of n d h
  unfold SeqAt.shaped
  rw [a, decide_eq_true (Nat.le_trans b hn)]; rfl
theorem Shp.refl {n : Nat} {d : PyData} (h : Shp n d) : PyData.eqv d d = true := by
  obtain ⟨a, b⟩ := shp_of n d h
  exact SeqAt.eqv_refl d a
theorem shp_ints {n : Nat} (ns : List Int) : Shp (n + 1) (.list (ns.map .int)) := .list fun d hd => by
  obtain ⟨i, _, rfl⟩ := List.mem_map.mp hd
  exact .int
/-! ### data known -/
section
variable {K : PySem.W.Frag} {G G' : Hp} {M : Mem} {a : Addr} {v : V} {d : PyData} {vs : List V} {ds : List PyData}
def DatAll (K : PySem.W.Frag) (G : Hp) (M : Mem) (vs : List V) (ds : List PyData) : Prop := ∀ H, Hv G M H → DpAll K H vs ds
theorem dat_g (h : Dp K G v d) : DatAt K G M v d := fun H hv => ex_d hv.exx d h
theorem dats_g (h : DpAll K G vs ds) : DatAll K G M vs ds := fun H hv => ex_ds hv.exx ds h
theorem dat_list (h : LstAt K G M a vs) (hs : DatAll K G M vs ds) : DatAt K G M (.ref a) (.list ds) := fun H hv => .lst (hv.lst h) (hs H hv)
theorem dat_tup (h : SqT K G a vs) (hs : DatAll K G M vs ds) : DatAt K G M (.ref a) (.tuple ds) := fun H hv => .tup (hv.tup h) (hs H hv)
theorem dat_int {i : Int} : DatAt K G M (.int i) (.int i) := fun H hv => .int i
theorem dat_bl {i : Bool} : DatAt K G M (.bl i) (.bool i) := fun H hv => .bl i
theorem dat_non : DatAt K G M .non .none := fun H hv => .non
theorem dat_str {i : Str} : DatAt K G M (.str i) (.str i) := fun H hv => .str i
theorem dats_nil : DatAll K G M [] [] := fun H hv => .nil
theorem dats_cons (h : DatAt K G M v d) (hs : DatAll K G M vs ds) : DatAll K G M (v :: vs) (d :: ds) := fun H hv => .cons (h H hv) (hs H hv)
theorem dpall_ints : ∀ ns : List Int, DpAll K G (ns.map V.int) (ns.map PyData.int)
  | [] => .nil
  | n :: ns => .cons (.int n) (dpall_ints ns)
theorem dats_ints {ns : List Int} : DatAll K G M (ns.map V.int) (ns.map PyData.int) := fun H hv => dpall_ints ns
theorem dat_ints {ns : List Int} (h : LstAt K G M a (ns.map V.int)) : DatAt K G M (.ref a) (.list (ns.map .int)) := dat_list h dats_ints
theorem dp_ints {ns : List Int} (h : SqL K G a (ns.map V.int)) : Dp K G (.ref a) (.list (ns.map .int)) := .lst h (dpall_ints ns)
theorem dpall_snoc : ∀ {vs : List V} {ds : List PyData}, DpAll K G vs ds → Dp K G v d → DpAll K G (vs ++ [v]) (ds ++ [d])
  | _, _, .nil, h => .cons h .nil
  | _, _, .cons a b, h => .cons a (dpall_snoc b h)
theorem dpall_len : ∀ {vs : List V} {ds : List PyData}, DpAll K G vs ds → vs.length = ds.length
  | _, _, .nil => rfl
  | _, _, .cons _ b => by simp [dpall_len b]
theorem dpall_get : ∀ {vs : List V} {ds : List PyData} {i : Nat} {d : PyData}, DpAll K G vs ds → ds[i]? = some d → ∃ v, vs[i]? = some v ∧ Dp K G v d
  | _, _, _, _, .nil, e => by simp at e
  | _, _, 0, _, .cons a _, e => by
    rw [List.getElem?_cons_zero] at e
    cases e; exact ⟨_, rfl, a⟩
  | _, _, i + 1, d, .cons _ b, e => by
    obtain ⟨v, h1, h2⟩ := dpall_get (i := i) (d := d) b (by simpa using e)
    exact ⟨v, by simpa using h1, h2⟩
theorem dpall_get' : ∀ {vs : List V} {ds : List PyData} {i : Nat} {v : V}, DpAll K G vs ds → vs[i]? = some v → ∃ d, ds[i]? = some d ∧ Dp K G v d
  | _, _, _, _, .nil, e => by simp at e
  | _, _, 0, _, .cons a _, e => by
    rw [List.getElem?_cons_zero] at e
    cases e; exact ⟨_, rfl, a⟩
  | _, _, i + 1, d, .cons _ b, e => by
    obtain ⟨v, h1, h2⟩ := dpall_get' (i := i) (v := d) b (by simpa using e)
    exact ⟨v, by simpa using h1, h2⟩
theorem dpall_one {x : V} {i : PyData} (h : DpAll K G [x] [i]) : Dp K G x i := by
  cases h with
  | cons a b => exact a
theorem dp_int_inv {i : Int} (h : Dp K G v (.int i)) : v = .int i := by cases h; rfl
theorem dp_tup_inv (h : Dp K G v (.tuple ds)) : ∃ t xs, v = .ref t ∧ SqT K G t xs ∧ DpAll K G xs ds := by
  cases h with
  | tup s a => exact ⟨_, _, rfl, s, a⟩
theorem dp_list_inv (h : Dp K G v (.list ds)) : ∃ t xs, v = .ref t ∧ SqL K G t xs ∧ DpAll K G xs ds := by
  cases h with
  | lst s a => exact ⟨_, _, rfl, s, a⟩
theorem dpall_ints_inv : ∀ {vs : List V} {ns : List Int}, DpAll K G vs (ns.map .int) → vs = ns.map V.int
  | _, [], h => by cases h; rfl
  | _, n :: ns, h => by
    cases h with
    | cons a b =>
      have e := dp_int_inv a
      subst e
      rw [dpall_ints_inv b]; rfl
end
/-! ### pairs of ints -/
def prD (p : Int × Int) : PyData := .tuple [.int p.1, .int p.2]
theorem dp_pr_inv {K : PySem.W.Frag} {G : Hp} {v : V} {p : Int × Int} (h : Dp K G v (prD p)) : ∃ t, v = .ref t ∧ SqT K G t [.int p.1, .int p.2] := by
  obtain ⟨t, xs, rfl, s, a⟩ := dp_tup_inv h
  have e : xs = [V.int p.1, V.int p.2] := dpall_ints_inv (ns := [p.1, p.2]) a
  rw [e] at s
  exact ⟨t, rfl, s⟩
theorem dp_pr {K : PySem.W.Frag} {G : Hp} {t : Addr} {a b : Int} (h : SqT K G t [.int a, .int b]) : Dp K G (.ref t) (prD (a, b)) := .tup h (.cons (.int a) (.cons (.int b) .nil))
theorem shp_prs {n : Nat} (ps : List (Int × Int)) : Shp (n + 2) (.list (ps.map prD)) := .list fun d hd => by
  obtain ⟨p, _, rfl⟩ := List.mem_map.mp hd
  refine .tuple fun d hd => ?_
  rcases List.mem_cons.mp hd with rfl | hd
  · exact .int
  · rcases List.mem_cons.mp hd with rfl | hd
    · exact .int
    · cases hd
/-! ### lists of ints by place -/
section
theorem atI_int {ns : List Int} {k : Int} (h0 : 0 ≤ k) (h1 : k < ns.length) : atI (ns.map V.int) k = some (.int (ns.getD k.toNat 0)) := by
  obtain ⟨j, rfl⟩ : ∃ j : Nat, k = j := ⟨k.toNat, by omega⟩
  have hj : j < ns.length := by omega
  refine atI_nat ?_
  rw [List.getElem?_map, List.getElem?_eq_getElem hj, Int.toNat_natCast, List.getD_eq_getElem?_getD, List.getElem?_eq_getElem hj]; rfl
theorem ixN_int {n : Nat} {k : Int} (h0 : 0 ≤ k) (h1 : k < n) : ixN n k = some k.toNat := by
  unfold ixN
  rw [if_pos h0, if_pos h1]
theorem map_set_int {ns : List Int} {j : Nat} {i : Int} : (ns.map V.int).set j (.int i) = (ns.set j i).map V.int := by rw [List.map_set]
theorem lat_cons {K : PySem.W.Frag} {G : Hp} {M : Mem} {a : Addr} {xs : List V} {x : Addr × HO} (h : LstAt K G M a xs) : LstAt K G (x :: M) a xs := by
  rcases h with h | h
  · exact .inl (List.mem_cons_of_mem _ h)
  · exact .inr h
theorem lat_ex {K : PySem.W.Frag} {G G' : Hp} {M : Mem} {a : Addr} {xs : List V} (e : Ex G G') (h : LstAt K G M a xs) : LstAt K G' M a xs := by
  rcases h with h | h
  · exact .inl h
  · exact .inr (ex_l e h)
theorem lat_0 {K : PySem.W.Frag} {G : Hp} {M : Mem} {a : Addr} {xs : List V} : LstAt K G ((a, .lst xs) :: M) a xs := .inl List.mem_cons_self
theorem seq_0 {K : PySem.W.Frag} {G : Hp} {M : Mem} {a : Addr} {xs : List V} : SeqAt' K G ((a, .lst xs) :: M) a xs := .inl lat_0
theorem isi_list {K : PySem.W.Frag} {G : Hp} {M : Mem} {a : Addr} {xs : List V} {R : KR} {n : Nat} (h : M[n]? = some (a, .lst xs)) (q : R (.bl true) G M) : kIsi K [.ref a, .ty "list"] G M R :=
  ⟨.type "list", .type "list", true, .ty "list", fun H hv => .base (.lst (hv.get h)), kit_ty (by decide +kernel), q⟩
theorem mul_l {i j : Int} (h0 : -(2 ^ 64) < i) (h1 : i < 2 ^ 64) : MulOk i j := .inl (.inl ⟨h0, h1⟩)
theorem mul_r {i j : Int} (h0 : -(2 ^ 64) < j) (h1 : j < 2 ^ 64) : MulOk i j := .inl (.inr ⟨h0, h1⟩)
theorem divW {m : Int} (h0 : 0 < m) (h1 : m < 2 ^ 200) (c : Int) : CDivW c m := wide_div (b := 200) h0 (by omega) (by decide) (by decide)
theorem sz0 : (0 : Nat) ≤ sizeLine := by decide
theorem sz1 : (1 : Nat) ≤ sizeLine := by decide
theorem sz2 : (2 : Nat) ≤ sizeLine := by decide
theorem sz3 : (3 : Nat) ≤ sizeLine := by decide
theorem sz4 : (4 : Nat) ≤ sizeLine := by decide
theorem sz5 : (5 : Nat) ≤ sizeLine := by decide
theorem sz6 : (6 : Nat) ≤ sizeLine := by decide
theorem sz7 : (7 : Nat) ≤ sizeLine := by decide
theorem sz8 : (8 : Nat) ≤ sizeLine := by decide
theorem pow10_18 : CPow 10 18 := ⟨by decide, by decide, by decide⟩
end
end BT
namespace BT
open PySem PySem.Spec L2
section
variable {K : PySem.W.Frag} {G : Hp} {M : Mem} {a b : Addr} {vs ws : List V} {i : Nat} {v u : V} {g : KG} {σ : St} {R : St → Hp → Mem → Prop}
theorem asg_L (h : vs[i]? = some v) (q : g.val v σ G M R) : asg g ((srcL K a vs).get i) σ G M R := by
  show g.val (vs.getD i .non) σ G M R
  rw [getD_of h]; exact q
theorem asg_T (h : vs[i]? = some v) (q : g.val v σ G M R) : asg g ((srcT K a vs).get i) σ G M R := by
  show g.val (vs.getD i .non) σ G M R
  rw [getD_of h]; exact q
theorem asg_V (h : vs[vs.length - 1 - i]? = some v) (q : g.val v σ G M R) : asg g ((srcV K a vs).get i) σ G M R := by
  show g.val (vs.getD (vs.length - 1 - i) .non) σ G M R
  rw [getD_of h]; exact q
theorem asg_E (h : vs[i]? = some v) (q : g.tup [.int i, v] σ G M R) : asg g ((srcE K a vs).get i) σ G M R := by
  show g.tup [.int i, vs.getD i .non] σ G M R
  rw [getD_of h]; exact q
theorem asg_Z (h : vs[i]? = some v) (h2 : ws[i]? = some u) (q : g.tup [v, u] σ G M R) : asg g ((srcZ K a b vs ws).get i) σ G M R := by
  show g.tup [vs.getD i .non, ws.getD i .non] σ G M R
  rw [getD_of h, getD_of h2]; exact q
theorem dpall_at {ds : List PyData} {d : PyData} (h : DpAll K G vs ds) (e : ds[i]? = some d) : ∃ v, vs[i]? = some v ∧ Dp K G v d := dpall_get h e
end
end BT
namespace BT
open PySem PySem.Spec L2
/-- a cell becomes frozen -/
theorem frz {G : Hp} {M : Mem} {p : Addr} (o : HO) (h : Fr G M p) : ∃ G', Ex G G' ∧ G' p = some o ∧ Wk G ((p, o) :: M) G' M ∧ ∀ q M0, Fr G M0 q → q ≠ p → Fr G' M0 q :=
  ⟨upd G p o, Ex.new h, upd_same, Wk.frz0, fun q M0 f hq => ⟨by rw [upd_ne hq]; exact f.1, f.2⟩⟩
theorem Wk.nil' {G : Hp} {M : Mem} : Wk G M G [] := fun H h => ⟨h.ex, fun _ z => (nomatch z), List.nodup_nil, fun _ z => (nomatch z)⟩
theorem sql_of {K : PySem.W.Frag} {G : Hp} {a : Addr} {xs : List V} (h : G a = some (.lst xs)) : SqL K G a xs := .inl (.inl h)
theorem sqt_of {K : PySem.W.Frag} {G : Hp} {a : Addr} {xs : List V} (h : G a = some (.tup xs)) : SqT K G a xs := .inl (.inl h)
theorem Fr.cons {G : Hp} {M : Mem} {p : Addr} {x : Addr × HO} (h : Fr G (x :: M) p) : Fr G M p := ⟨h.1, fun y hy => h.2 y (List.mem_cons_of_mem _ hy)⟩
end BT
set_option Elab.async false
set_option linter.all false
set_option maxRecDepth 100000
set_option maxHeartbeats 4000000
namespace BT
open PySem PySem.Spec L2
open PyProof.Rows hiding St
/-- the slots at a body's start -/
def sta (n : Nat) (vs : List V) : St := vs.map some ++ List.replicate (n - vs.length) none
/-! ### ranges with a step -/
theorem rg_up {i j c : Int} (hc : 0 < c) (hc2 : c < 1000000) (hi : -1000000000000 < i) (hi2 : i < 1000000000000) (hj : -1000000000000 < j) (hj2 : j < 1000000000000) :
    RgC i j c (if i < j then ((j - i - 1) / c + 1).toNat else 0) := by
  have e : Builtin.Range.rangeSize i j c = if i < j then (j - i - 1) / c + 1 else 0 := by
    unfold Builtin.Range.rangeSize
    rw [if_pos hc]
  have hb : 0 ≤ (j - i - 1) / c ∨ ¬ i < j := by
    by_cases h : i < j
    · exact .inl (Int.ediv_nonneg (by omega) (by omega))
    · exact .inr h
  have hb2 : (j - i - 1) / c ≤ 2000000000000 ∨ ¬ i < j := by
    by_cases h : i < j
    · left
      have := Int.ediv_le_self c (show 0 ≤ j - i - 1 by omega)
      omega
    · exact .inr h
  refine ⟨by omega, by omega, ?_, ?_⟩
  · unfold Builtin.Range.small
    rw [e]
    simp only [Builtin.Range.rangeFitsLong, Bool.and_eq_true, Bool.or_eq_true, decide_eq_true_eq, beq_iff_eq, hc, gt_iff_lt, if_true]
    by_cases h : i < j
    · rw [if_pos h]; omega
    · rw [if_neg h]; omega
  · rw [e]
    by_cases h : i < j
    · rw [if_pos h, if_pos h]; omega
    · rw [if_neg h, if_neg h]; rfl
theorem rg_down {i j : Int} (hi : -1000000000000 < i) (hi2 : i < 1000000000000) (hj : -1000000000000 < j) (hj2 : j < 1000000000000) : RgC i j (-1) (i - j).toNat :=
  RgC.neg (by omega) (by omega) (by omega) (by omega)
section
variable {X : Cx} {W : WX} {pos : Pos} {a b c e : Expr} {es : List Expr}
/-! ### sorted, xs[::-1] -/
def kSorted (K : PySem.W.Frag) : KC := fun vs G M R => match vs with
  | [.ref a] => ∃ ns : List Int, LstAt K G M a (ns.map V.int) ∧ ∀ (ns' : List Int) (p : Addr), ns'.Perm ns → ns'.Pairwise (· ≤ ·) → Fr G M p → R (.ref p) G ((p, .lst (ns'.map V.int)) :: M)
  | _ => False
theorem kc_sorted : KCall X (.builtin "sorted") (kSorted X.K) := kcall_of cr_sortedI fun vs G M R H Q hv h hR => by
  match vs, h with
  | [.ref a], ⟨ns, h1, h2⟩ => exact ⟨a, ns, rfl, hv.lst h1, fun ns' p q1 q2 q3 => hR _ G _ _ (hv.newM q3) (h2 ns' p q1 q2 (hv.fr q3))⟩
def kRevL (K : PySem.W.Frag) : V → Hp → Mem → KR → Prop := fun x G M R => match x with
  | .ref a => ∃ xs, LstAt K G M a xs ∧ ∀ p, Fr G M p → R (.ref p) G ((p, .lst xs.reverse) :: M)
  | _ => False
theorem je_revl {t : KE} {k : Nat} {p1 p2 p3 : Pos} (he : JE X W e t) : JE X W (.Subscript e (.Slice none none (some (.UnaryOp .USub (.Constant (.int 1) k p1) p2)) p3) pos) (kUn (kRevL X.K) t) :=
  pe_mono (pe_revL he) fun σ H Q ⟨G, M, R, E, hv, h, hR, hE⟩ => ⟨G, M, _, E, hv, h, fun x G1 M1 H1 hv1 h1 => by
    match x, h1 with
    | .ref a, ⟨xs, q1, q2⟩ => exact ⟨a, xs, rfl, hv1.lst q1, fun p hp => hR _ G1 _ _ (hv1.newM hp) (q2 p (hv1.fr hp))⟩, hE⟩
/-! ### in, not in: flat things in a list or a tuple -/
def kIn (neg : Bool) (K : PySem.W.Frag) : KR2 := fun x y G M R => match y with
  | .ref a => ∃ xs, SeqAt' K G M a xs ∧ flatV x = true ∧ xs.all flatV = true ∧ R (.bl (if neg then !inV x xs else inV x xs)) G M
  | _ => False
theorem kop_in : KOp X (compareOp .In) (kIn false X.K) := kop_of op_in_seq fun x y G M R H Q hv h hR => by
  match y, h with
  | .ref a, ⟨xs, h1, h2, h3, h4⟩ => exact ⟨a, xs, rfl, h1.elim (fun q => .inl (hv.lst q)) (fun q => .inr (hv.tup q)), h2, h3, hR _ G M H hv h4⟩
theorem kop_notin : KOp X (compareOp .NotIn) (kIn true X.K) := kop_of op_notIn_seq fun x y G M R H Q hv h hR => by
  match y, h with
  | .ref a, ⟨xs, h1, h2, h3, h4⟩ => exact ⟨a, xs, rfl, h1.elim (fun q => .inl (hv.lst q)) (fun q => .inr (hv.tup q)), h2, h3, hR _ G M H hv h4⟩
/-! ### list.index, list.insert, tuple(xs), bool(x), list(range) -/
def kIndex (K : PySem.W.Frag) : KM := fun x vs G M R => match x, vs with
  | .ref a, [y] => ∃ ys j z, LstAt K G M a ys ∧ flatV y = true ∧ ys.all flatV = true ∧ ys[j]? = some z ∧ eqV z y = true ∧ (∀ m z', m < j → ys[m]? = some z' → eqV z' y = false) ∧ R (.int (j : Nat)) G M
  | _, _ => False
end
end BT
namespace BT
open PySem PySem.Spec L2
open PyProof.Rows hiding St
theorem rg_mul {i c : Int} {n : Nat} (hc : 0 < c) (hc2 : c < 1000000) (hi : -1000000000 < i) (hi2 : i < 1000000000) (hn : n < 100000) : RgC i (i + c * n) c n := by
  have hm : c * n < 100000000000 := by
    have h1 : c * (n : Int) ≤ 1000000 * (n : Int) := Int.mul_le_mul_of_nonneg_right (by omega) (by omega)
    omega
  have hm0 : 0 ≤ c * n := Int.mul_nonneg (by omega) (by omega)
  have q := rg_up (i := i) (j := i + c * n) hc hc2 (by omega) (by omega) (by omega) (by omega)
  have e : (if i < i + c * n then ((i + c * n - i - 1) / c + 1).toNat else 0) = n := by
    cases n with
    | zero => rw [if_neg (by simp)]
    | succ k =>
      have hk : 0 < c * ((k + 1 : Nat) : Int) := Int.mul_pos hc (by omega)
      rw [if_pos (by omega)]
      have e1 : i + c * ((k + 1 : Nat) : Int) - i - 1 = (c - 1) + c * (k : Int) := by
        rw [show ((k + 1 : Nat) : Int) = (k : Int) + 1 by omega, Int.mul_add]; omega
      rw [e1, ((Int.ediv_emod_unique hc).mpr ⟨rfl, by omega, by omega⟩).1]
      omega
  rw [e] at q
  exact q
theorem fn_false {P : Program} {w : World} {K : PySem.W.Frag} {mg : Str → Option Value} {base : Heap} {CX : CXT} {k : Nat} {f : Addr} {fd : FuncData} {ps : List Str} {S : KSp} (h : ∀ vs G M R Z, ¬ S vs G M R Z) : FnOk P w K mg base CX k f fd ps (lift S) :=
  ⟨fun vs H Q E ⟨G, M, R, Z, _, q, _⟩ => (h vs G M R Z q).elim, fun A outer s H args us vs Q E _ _ _ _ ⟨G, M, R, Z, _, q, _⟩ => (h vs G M R Z q).elim⟩
theorem cx_none {P : Program} {w : World} {l : List Env} {H : Hp} {s : Shared} {e : Value} {s' : Shared} (h : L2.CX P w l H s (fun _ _ _ => False) e s') : False := by
  obtain ⟨_, _, _, _, _, _, _, _, _, _, _, _, z⟩ := h
  exact z.elim
/-- a law's promise -/
def S_law (K : PySem.W.Frag) : KSp := sp1 fun x G M R Z => ∃ (a : Addr) (ns : List Int), x = .ref a ∧ SqL K G a (ns.map V.int) ∧ ns.length ≤ 63 ∧ ∀ G' M', R (.bl true) G' M'
theorem law_start {K : PySem.W.Frag} {H : Hp} {a : Addr} {ns : List Int} (hl : ns.length ≤ 63) (hS : SqL K H a (ns.map V.int)) : lift (S_law K) [.ref a] H (fun v _ => v = .bl true) fun _ _ _ => False :=
  ⟨H, [], fun v _ _ => v = .bl true, fun _ _ _ _ => False, Hv.self H, ⟨a, ns, rfl, hS, hl, fun _ _ => rfl⟩, fun _ _ _ _ _ h => h, fun _ _ _ _ _ _ z => z⟩
end BT
namespace BT
open PySem PySem.Spec L2
open PyProof.Rows hiding St
/-! ### is of None and of truths -/
def kIs2 (neg : Bool) : KR2 := fun x y G M R => match x, y with
  | .bl a, .bl b => R (.bl (if neg then !decide (a = b) else decide (a = b))) G M
  | x, .non => R (.bl (if neg then !decide (x = .non) else decide (x = .non))) G M
  | _, _ => False
theorem kop_is2 {X : Cx} : KOp X (compareOp .Is) (kIs2 false) := fun pins s σ H x y v u Q G M R I rx ry hv h hR => by
  cases y <;> cases x <;> first
    | exact op_isBl pins s σ H _ _ v u Q I rx ry ⟨_, _, rfl, rfl, hR _ G M H hv h⟩
    | exact op_isN pins s σ H _ _ v u Q I rx ry ⟨rfl, hR _ G M H hv h⟩
    | exact h.elim
theorem kop_isnot2 {X : Cx} : KOp X (compareOp .IsNot) (kIs2 true) := fun pins s σ H x y v u Q G M R I rx ry hv h hR => by
  cases y <;> cases x <;> first
    | exact op_notBl pins s σ H _ _ v u Q I rx ry ⟨_, _, rfl, rfl, hR _ G M H hv h⟩
    | exact op_notN pins s σ H _ _ v u Q I rx ry ⟨rfl, hR _ G M H hv h⟩
    | exact h.elim
/-! ### types of values -/
inductive PT | int | bool | non | str | list | tuple | dict
  deriving DecidableEq
def PT.name : PT → String
  | .int => "int" | .bool => "bool" | .non => "NoneType" | .str => "str" | .list => "list" | .tuple => "tuple" | .dict => "dict"
def TyK (K : PySem.W.Frag) (G : Hp) (M : Mem) (x : V) (T : PT) : Prop := ∀ H, Hv G M H → TyX K H x (.type T.name)
section
variable {K : PySem.W.Frag} {G : Hp} {M : Mem} {a : Addr} {xs : List V} {n : Nat}
theorem ty_int {i : Int} : TyK K G M (.int i) .int := fun H hv => .base (.int i)
theorem ty_bl {i : Bool} : TyK K G M (.bl i) .bool := fun H hv => .base (.bl i)
theorem ty_non : TyK K G M .non .non := fun H hv => .base .non
theorem ty_str {i : Str} : TyK K G M (.str i) .str := fun H hv => .base (.str i)
theorem ty_lst (h : LstAt K G M a xs) : TyK K G M (.ref a) .list := fun H hv => by
  rcases hv.lst h with (z | ⟨o, z⟩) | ⟨o, its, m, z1, z2, _⟩
  · exact .base (.lst z)
  · exact .base (.frz z)
  · exact .kList z1 z2
theorem ty_tup (h : SqT K G a xs) : TyK K G M (.ref a) .tuple := fun H hv => by
  rcases hv.tup h with (z | ⟨o, z⟩) | ⟨o, its, m, z1, z2, _⟩
  · exact .base (.tup z)
  · exact .fTuple z
  · exact .kTuple z1 z2
theorem ty_dict {kvs : List (Key × V)} (h : At G M a (.dK kvs)) : TyK K G M (.ref a) .dict := fun H hv => .base (.dK (hv.at h))
/-- isinstance(x, T): both answers -/
def isaB (T U : PT) : Bool := T == U || (T == .bool && U == .int)
theorem kit_pt (T U : PT) : PySem.W.kitOne K (.type T.name) (.type U.name) = some (isaB T U) := by
  cases T <;> cases U <;> exact kit_ty (by decide +kernel)
theorem isi_pt {x : V} {T : PT} {R : KR} (U : PT) (h : TyK K G M x T) (q : R (.bl (isaB T U)) G M) : kIsi K [x, .ty U.name] G M R :=
  ⟨.type T.name, .type U.name, _, .ty U.name, h, kit_pt T U, q⟩
end
end BT
namespace BT
open PySem PySem.Spec L2
/-! ### steps by name -/
section
variable {D : Kd} {σ : St} {G : Hp} {M : Mem} {i : Nat} {te ta tb : KE}
theorem kset_of (h : te σ G M (fun v G M => D.nx (σ.set i (some v)) G M) (D.x σ)) : kSet i te D σ G M := h
theorem kret_of (h : te σ G M D.rt (D.x σ)) : kRet te D σ G M := h
theorem kexpr_of (h : te σ G M (fun _ G M => D.nx σ G M) (D.x σ)) : kExpr te D σ G M := h
theorem kbin_of {β : Type} {k : V → V → Hp → Mem → (β → Hp → Mem → Prop) → Prop} {R : β → Hp → Mem → Prop} {E : KX} (h : ta σ G M (fun x G M => tb σ G M (fun y G M => k x y G M R) E) E) : kBin k ta tb σ G M R E := h
theorem kcb_of {k : KC} {t : KA} {R : KR} {E : KX} (h : t σ G M (fun vs G M => k vs G M R) E) : kCB k t σ G M R E := h
theorem kcons_of {t : KE} {u : KA} {R : List V → Hp → Mem → Prop} {E : KX} (h : t σ G M (fun x G M => u σ G M (fun xs G M => R (x :: xs) G M) E) E) : kCons t u σ G M R E := h
end
end BT
set_option Elab.async false
set_option linter.all false
set_option maxRecDepth 100000
set_option maxHeartbeats 4000000
namespace BT
open PySem PySem.Spec L2
open PyProof.Rows hiding St
/-! ### own errors: raised, caught, held -/
/-- the address of a class, by its name -/
def cl (K : PySem.W.Frag) (x : Str) : Addr := match PySem.W.nsIn K mainGlobals x with
  | some (some (.ref a)) => a
  | _ => 0
theorem cl_of {K : PySem.W.Frag} {x : Str} {C : Addr} (a : PySem.W.nsIn K mainGlobals x = some (some (.ref C))) : cl K x = C := by
  unfold cl
  rw [a]
/-- a class that is known -/
structure XG (K : PySem.W.Frag) (mg : Str → Option Value) (x : Str) : Prop where
  g : mg x = some (.ref (cl K x))
  k : PySem.W.keepIn K (.ref (cl K x)) = true
/-- a class without own __init__ under ValueError, to be raised -/
structure XR (K : PySem.W.Frag) (x : Str) : Prop where
  n : PySem.W.excIn K (cl K x) [.type "ValueError", .type "Exception", .type "BaseException", .type "object"] "ValueError.__new__" = true
  b : PySem.W.subIn K (.ref (cl K x)) (.type "BaseException") = some true
  t : PySem.W.typeIn K (.ref (cl K x)) = some (.type "type")
theorem xg_mk {K : PySem.W.Frag} {mg : Str → Option Value} {h : Heap} {x : Str} {C : Addr} (X : K.In h) (G : h.Ns mainGlobals mg) (a : PySem.W.nsIn K mainGlobals x = some (some (.ref C))) (k : PySem.W.keepIn K (.ref C) = true) : XG K mg x := by
  have e := cl_of a
  exact ⟨by rw [e]; exact PySem.W.mg_of X G a, by rw [e]; exact k⟩
theorem xr_mk {K : PySem.W.Frag} {x : Str} {C : Addr} (a : PySem.W.nsIn K mainGlobals x = some (some (.ref C)))
    (q : PySem.W.excIn K C [.type "ValueError", .type "Exception", .type "BaseException", .type "object"] "ValueError.__new__" = true)
    (b : PySem.W.subIn K (.ref C) (.type "BaseException") = some true) (t : PySem.W.typeIn K (.ref C) = some (.type "type")) : XR K x := by
  have e := cl_of a
  exact ⟨by rw [e]; exact q, by rw [e]; exact b, by rw [e]; exact t⟩
theorem xe_mk {K : PySem.W.Frag} {x : Str} {C : Addr} (a : PySem.W.nsIn K mainGlobals x = some (some (.ref C))) (q : ExcC K C) : ExcC K (cl K x) := by
  rw [cl_of a]
  exact q
section
variable {X : Cx} {W : WX} {pos : Pos}
/-- raise C('m') -/
def kRaise (K : PySem.W.Frag) (x : Str) : KS := fun D σ G M => D.xc (.ref (cl K x)) none σ G M
theorem js_raise {x m : Str} {j : Nat} {p p2 pos2 : Pos} (g : XG X.K X.mg x) (r : XR X.K x) (tk : Takes X W) (hc : X.calm = true := by rfl) (hg : Gl X x := by rfl) (hdb : (x == ("__debug__" : Str)) = false := by decide) :
    JS X W (.Raise (some (.Call (.Name x p) [.Constant (.str m) j p2] [] pos2)) none pos) (kRaise X.K x) :=
  ps_mono (ps_raise hc tk (pmk_own PySem.F.excBase_ValueError r.n g.g g.k (raises_own r.b r.t) hg hdb)) fun D σ H ⟨G, M, d, hv, h, en⟩ => en.xc _ _ _ _ _ _ hv h

/-- a caught error that is held: its class and its dict -/
def ExT (cls : Value) (d : Option Addr) (a : Addr) : HO := .ext fun h => ∃ (oe : Obj) (vs : Array Value), h.get? a = some oe ∧ Zc cls d oe ∧ oe.data = .fields vs
theorem exT_ok {P : Program} {w : World} {H : Hp} {h : Heap} {a : Addr} {cls : Value} {d : Option Addr} {oe : Obj} {vs : Array Value} (e : h.get? a = some oe) (z : Zc cls d oe) (q : oe.data = .fields vs) : ObjOk P w H h a (ExT cls d a) :=
  ⟨⟨oe, vs, e, z, q⟩, ⟨oe, e⟩, fun _ _ ⟨o, v, q, r⟩ k => ⟨o, v, k o q, r⟩⟩
/-- an object that nobody tracked is tracked from here on -/
theorem inv_track {pins : List (Addr × Obj)} {σ : St} {H : Hp} {s : Shared} {a : Addr} {o : HO} (I : Inv X pins σ H s) (n : H a = none) (n0 : X.s_0.heap.get? a = none) (nl : a ≠ X.env.locals)
    (nc : ∀ y c, X.env.cells.lookup y = some c → c ≠ a) (np : ∀ p ∈ X.pn ++ pins, p.1 ≠ a) (new : ObjOk X.prog X.w (upd H a o) s.heap a o) : Inv X pins σ (upd H a o) s := by
  have ne : ∀ b u, H b = some u → b ≠ a := fun b u e z => by
    rw [z, n] at e
    cases e
  refine ⟨I.ok, I.os, I.bare, ⟨I.base.keep, I.base.slot, fun b u e m x => ?_, I.base.there, fun b xs e => ?_, fun b u v e => ?_, fun b ps e => ?_⟩, I.loc, I.cell, ?_, fun y c e => ?_, fun p hp => ?_, fun b u e => ?_, I.len⟩
  · rw [upd_ne (fun z => by rw [z, n0] at e; cases e)]
    exact I.base.free b u e m x
  · have q := I.base.tups b xs e
    rw [upd_ne (ne b _ q)]
    exact q
  · have q := I.base.frzs b u v e
    rw [upd_ne (ne b _ q)]
    exact q
  · obtain ⟨m, q⟩ := I.base.tbls b ps e
    exact ⟨m, by rw [upd_ne (ne b _ q)]; exact q⟩
  · rw [upd_ne (Ne.symm nl)]
    exact I.free
  · rw [upd_ne (nc y c e)]
    exact I.freeC y c e
  · obtain ⟨p1, p2, p3, p4, p5⟩ := I.pin p hp
    exact ⟨p1, by rw [upd_ne (np p hp)]; exact p2, p3, p4, p5⟩
  · by_cases hb : b = a
    · subst hb
      rw [upd_same] at e
      cases e
      exact new
    · rw [upd_ne hb] at e
      exact (I.hok b u e).stay (fun c v _ q => q) (fun c q => by rw [upd_ne (ne c _ q)]; exact q) fun c xs q => by rw [upd_ne (ne c _ q)]; exact q
end

/-- what 'except x as n: y = n' wishes of an error of the body -/
def wKeep (K : PySem.W.Frag) (c : Value) (i j : Nat) (Wout : WX) (D : Ends) : WX := fun cls d σ H => ∃ b, PySem.W.exmOne K cls c = some b ∧
  (b = true → ∀ a, H a = none → D.nx (((σ.set i (some (.ref a))).set j (some (.ref a))).set i none) (upd H a (ExT cls d a))) ∧ (b = false → Wout cls d σ H)
section
variable {X : Cx} {x n y : Str} {c : Value} {i j : Nat} {body : List Stmt} {np pos pos' q1 q2 q3 : Pos} {tb : WX → TS} {Wout : WX}
theorem ps_try_keep (hs : X.stack = X.env :: X.outer) (hf : X.env.frame = some X.env.locals) (hx : X.ex = []) (hN : X.N.Nodup) (hi : X.N[i]? = some n) (hj : X.N[j]? = some y) (hln : X.env.kindOf n = some .local) (hlj : Loc X.env.scope y) (hij : i ≠ j)
    (hfy : X.fn y = true ∨ X.env.scope.names.lookup y = some .local) (hdn : (n == ("__debug__" : Str)) = false) (hcn : (n == ("__classdict__" : Str)) = false)
    (hsw : swapsWith (.Name n q2) (some (.Name y q1)) q3.line X.env = pure false) (hc : Names X x c) (tk : Takes X Wout)
    (hb : ∀ (W : WX) (pn : List (Addr × Obj)) (xe : Value → Shared → Prop), Takes (X.tr pn xe) W → PassesOwn (model X.prog X.w) X.A X.env xe → PSs (X.tr pn xe) body (tb W)) :
    PS X (.Try body [.ExceptHandler (some (.Name x np)) (some n) [.Assign [.Name y q1] (.Name n q2) q3] pos'] [] [] pos) (fun D σ H => tb (wKeep X.K c i j Wout D) D σ H) := by
  refine ⟨fun pins s σ H D I h => ?_⟩
  have ok := I.ok
  have fr0 : X.A.frames = some (X.env :: X.outer) := by rw [ok.frames, hs]
  refine wpAny_Try_except ?_
  refine wpAny_mono ((hb (wKeep X.K c i j Wout D) (X.pn ++ pins) _ (fun u s' xx => ?_) PassesOwn.looking).run [] s σ H D (I.toTry _) h) (fun f s1 hsp => ?_) (fun e s1 he => he)
  · obtain ⟨a, B, sI, pins', σ', H', cls, d, rfl, J', nb, up, sky, na, os, ag, b, hb1, hyes, hno⟩ := xx
    have J : Inv X pins σ' H' sI := J'.ofTry ok
    have sky2 : Sky B (X.env :: X.outer) a (Zc cls d) X.env.locals s'.heap := by
      rw [← hs]
      exact sky
    show wpAny (model X.prog X.w) X.A (noteFrame (.ref a) X.env) _ _ _
    refine Sky.land Zc.steady fr0 hf sky2 fun h3 fl3 up3 => ?_
    have J3 : Inv X pins σ' H' { s' with heap := h3 } := J.landed nb fl3.1 (up.trans up3) os ag
    obtain ⟨oe3, vs3, he3, hz3, hd3⟩ := fl3.there
    have nfr : a ∉ frs (X.env :: X.outer) := fun hm => by
      obtain ⟨_, o', e', hnf⟩ := fl3.2.2.1.mem hm
      rw [he3] at e'
      cases e'
      exact hnf _ hd3
    have nL : a ≠ X.env.locals := fun z => nfr (List.mem_filterMap.mpr ⟨X.env, List.mem_cons_self, by rw [hf, z]⟩)
    have nF : a ∉ X.fs := fun hm => by
      obtain ⟨e, he, q⟩ := List.mem_filterMap.mp hm
      exact nfr (List.mem_filterMap.mpr ⟨e, List.mem_cons_of_mem _ he, q⟩)
    have nI : sI.heap.get? a = none := by
      cases e : sI.heap.get? a with
      | none => rfl
      | some o =>
        have z := nb a o e (by rw [hs]; exact nfr)
        rw [fl3.2.1] at z
        cases z
    have n0 : X.s_0.heap.get? a = none := by
      cases e : X.s_0.heap.get? a with
      | none => rfl
      | some o =>
        obtain ⟨o', z⟩ := J.base.there a o e (by rw [hx]; exact fun z => nomatch z)
        rw [nI] at z
        cases z
    have nc : ∀ w c, X.env.cells.lookup w = some c → c ≠ a := fun w c e z => by
      obtain ⟨v, o, ho, _⟩ := J.cell w c e
      rw [z, nI] at ho
      cases ho
    have npn : ∀ p ∈ X.pn ++ pins, p.1 ≠ a := fun p hp z => by
      obtain ⟨q, _⟩ := J.pin p hp
      rw [z, nI] at q
      cases q
    have S3 := J3.suite he3 hd3 na nL nF
    refine wpAny_handleBy_cons (codeAny_handlers_test ?_) (by intro q; cases q)
    have LT : PySem.W.Looks (model X.prog X.w) h3 (typeOf (.ref a)) cls := fun A Q E s k q => wpAny_typeOf_ref (k _ _ he3) (by rw [hz3.1]; exact q)
    have LM := PySem.W.exm_one (M := model X.prog X.w) (J3.kIn) LT hb1
    have look : ∀ {Q : Value → Shared → Prop} {E : Value → Shared → Prop}, Q c { s' with heap := h3 } → wpAny (model X.prog X.w) (X.A.mark (some (.ref a))) (eval (.Name x np) X.env) Q E { s' with heap := h3 } := fun {Q E} q => by
      obtain ⟨hg, hdbg, hm | ⟨hm, hv, hnn⟩⟩ := hc
      · exact ld_glob (X := X.suite a ((a, oe3) :: (X.pn ++ pins))) S3 hg hm q hdbg
      · exact ld_blt (X := X.suite a ((a, oe3) :: (X.pn ++ pins))) S3 hg hm hv q hnn hdbg
    refine look (LM.here ?_)
    cases b with
    | true =>
      refine codeAny_handlers_suite_as ?_
      refine HandSPX.lands_againZ fl3 fun h4 fl4 up4 => ?_
      have J4 : Inv X pins σ' H' { s' with heap := h4 } := J.landed nb fl4.1 ((up.trans up3).trans up4) os ag
      obtain ⟨oe4, vs4, he4, hz4, hd4⟩ := fl4.there
      have S4 := J4.suite he4 hd4 na nL nF
      refine store_ok (X := X.suite a ((a, oe4) :: (X.pn ++ pins))) (v := .ref a) S4 hN hi (.inl hln) rfl (fun s5 S5 => ?_) (.inr hln)
      have lenσ : σ'.length = X.N.length := J.len
      have hiσ : i < σ'.length := by
        rw [lenσ]
        exact (List.getElem?_eq_some_iff.mp hi).1
      have P1 : PSs (X.suite a ((a, oe4) :: (X.pn ++ pins))) [.Assign [.Name y q1] (.Name n q2) q3] (tSeq (tAsg (tVar i) (gName j)) tNext) :=
        pss_cons (ps_set hN hj hlj (pe_var hi (.inl hln) hdn hcn) hsw hfy) pss_nil
      refine wpAny_mono (P1.run [] s5 (σ'.set i (some (.ref a))) H' { nx := fun σ6 H6 => σ6 = (σ'.set i (some (.ref a))).set j (some (.ref a)) ∧ H6 = H', rt := fun _ _ => False, bk := fun _ _ => False, ct := fun _ _ => False } S5 ?_) (fun f s6 hsp => ?_) (fun _ _ z => False.elim z)
      · exact ⟨.ref a, by rw [List.getElem?_set_self hiσ], rfl, rfl⟩
      · cases f with
        | next =>
          obtain ⟨σ6, H6, S6, rfl, rfl⟩ := hsp
          refine gone_ok (X := X.suite a ((a, oe4) :: (X.pn ++ pins))) S6 hN hi hln fun s7 S7 => ?_
          obtain ⟨k1, k2, _⟩ := S7.pin (a, oe4) (List.mem_append.mpr (.inl List.mem_cons_self))
          exact ⟨_, _, inv_track (S7.unsuite ok) na n0 nL nc npn (exT_ok k1 hz4 hd4), hyes rfl a na⟩
        | brk => obtain ⟨_, _, _, z⟩ := hsp; exact z.elim
        | cont => obtain ⟨_, _, _, z⟩ := hsp; exact z.elim
        | ret u => obtain ⟨_, _, _, _, _, z⟩ := hsp; exact z.elim
    | false =>
      show wpAny _ X.A (handleBy (.ref a) X.env []) _ _ _
      refine wpAny_handleBy_nil ?_
      obtain ⟨k1, k2, k3, oe, vs, T, oT, ts', he, hz, hd, h1, hr⟩ := id fl3
      unfold PySem.passOn
      refine wpAny_bind (wpAny_field he hd h1 ?_)
      rw [if_neg (show ¬ ((Value.ref T == Value.none) = true) from by simp)]
      have fin : wpAny (model X.prog X.w) X.A (setFlight (.ref a) X.env.frame) (fun _ s4 => wpAny (model X.prog X.w) X.A (throw (.ref a) : Sem Flow) (SP X pins D) X.xe s4) X.xe { s' with heap := h3 } := by
        rw [hf]
        refine HandSPX.setFlight_upZ fl3 fun h4 hh4 up4 => wpAny_throw (tk _ _ ?_)
        exact ⟨a, B, sI, pins, σ', H', cls, d, rfl, J, nb, (up.trans up3).trans up4, .inr (.inr (by rw [hs]; exact hh4)), na, os, ag, hno rfl⟩
      first
        | exact wpAny_bind (wpAny_pure (wpAny_bind fin))
        | exact wpAny_bind fin
  · cases f with
    | next => obtain ⟨σ', H', J', q⟩ := hsp; exact wpAny_execs_nil ⟨σ', H', J'.ofTry ok, q⟩
    | brk => obtain ⟨σ', H', J', q⟩ := hsp; exact ⟨σ', H', J'.ofTry ok, q⟩
    | cont => obtain ⟨σ', H', J', q⟩ := hsp; exact ⟨σ', H', J'.ofTry ok, q⟩
    | ret u => obtain ⟨v, σ', H', J', r, q⟩ := hsp; exact ⟨v, σ', H', J'.ofTry ok, r, q⟩
end
/-! ### the readings -/
/-- an error of the class named x, held at a -/
def ErA (K : PySem.W.Frag) (x : Str) (d : Option Addr) (a : Addr) : HO := ExT (.ref (cl K x)) d a
/-- try: t, except C as n (slot i): y = n (slot j); the classes that the law knows, and whether they stand under C -/
def kTry (K : PySem.W.Frag) (tab : List (Str × Bool)) (i j : Nat) (t : KS) : KS := fun D σ G M => t { D with xc := fun c d σ' G' M' => ∃ p ∈ tab, c = .ref (cl K p.1) ∧
  (if p.2 = true then ∀ a, Fr G' M' a → D.nx (((σ'.set i (some (.ref a))).set j (some (.ref a))).set i none) (upd G' a (ErA K p.1 d a)) M' else D.xc c d σ' G' M') } σ G M
section
variable {X : Cx} {W : WX} {pos : Pos}
theorem js_try {K : PySem.W.Frag} {x n y : Str} {i j : Nat} {tab : List (Str × Bool)} {body : List Stmt} {t : KS} {np pos' q1 q2 q3 : Pos} (g : XG X.K X.mg x) (ht : ∀ p ∈ tab, PySem.W.exmOne X.K (.ref (cl X.K p.1)) (.ref (cl X.K x)) = some p.2) (hN : X.N.Nodup) (tk : Takes X W)
    (hb : ∀ (W : WX) (pn : List (Addr × Obj)) (xe : Value → Shared → Prop), Takes (X.tr pn xe) W → PassesOwn (model X.prog X.w) X.A X.env xe → JSs (X.tr pn xe) W body t)
    (hK : X.K = K := by rfl) (hs : X.stack = X.env :: X.outer := by rfl) (hf : X.env.frame = some X.env.locals := by rfl) (hx : X.ex = [] := by rfl) (hi : X.N[i]? = some n := by rfl) (hj : X.N[j]? = some y := by rfl)
    (hln : X.env.kindOf n = some .local := by rfl) (hlj : Loc X.env.scope y := by first | exact Or.inl rfl | exact Or.inr rfl) (hij : i ≠ j := by decide)
    (hfy : X.fn y = true ∨ X.env.scope.names.lookup y = some .local := by first | exact .inl rfl | exact .inr rfl) (hdn : (n == ("__debug__" : Str)) = false := by decide) (hcn : (n == ("__classdict__" : Str)) = false := by decide)
    (hsw : swapsWith (.Name n q2) (some (.Name y q1)) q3.line X.env = pure false := by rfl) (hg : Gl X x := by rfl) (hxd : (x == ("__debug__" : Str)) = false := by decide) :
    JS X W (.Try body [.ExceptHandler (some (.Name x np)) (some n) [.Assign [.Name y q1] (.Name n q2) q3] pos'] [] [] pos) (kTry K tab i j t) := by
  subst hK
  refine ps_mono (ps_try_keep (c := .ref (cl X.K x)) (tb := fun W => upS W t) hs hf hx hN hi hj hln hlj hij hfy hdn hcn hsw ⟨hg, hxd, .inl g.g⟩ tk hb) fun D σ H ⟨G, M, d, hv, h, en⟩ => ?_
  refine ⟨G, M, _, hv, h, ⟨en.nx, en.rt, en.bk, en.ct, fun c e σ' G' M' H' hv' q => ?_⟩⟩
  obtain ⟨p, hp, rfl, q⟩ := q
  refine ⟨p.2, ht p hp, fun hb a na => ?_, fun hb => ?_⟩
  · rw [if_pos hb] at q
    exact en.nx _ _ _ _ (hv'.newG na) (q a (hv'.fr na))
  · rw [if_neg (by rw [hb]; exact Bool.false_ne_true)] at q
    exact en.xc _ _ _ _ _ _ hv' q
/-- isinstance(v, C), where v is an error that is held, or None -/
def kIsX (K : PySem.W.Frag) (c : V) (tab : List (Str × Bool)) : KC := fun vs G M R => match vs with
  | [.non, c'] => c' = c ∧ R (.bl false) G M
  | [.ref a, c'] => c' = c ∧ ∃ p ∈ tab, At G M a (ErA K p.1 none a) ∧ R (.bl p.2) G M
  | _ => False
theorem kc_isX {tab : List (Str × Bool)} {c : V} {cv : Value} (hcv : ClsV c cv) (hn : PySem.W.kitOne X.K (.type "NoneType") cv = some false)
    (ht : ∀ p ∈ tab, ExcC X.K (cl X.K p.1) ∧ PySem.W.kitOne X.K (.ref (cl X.K p.1)) cv = some p.2) : KCall X (.builtin "isinstance") (kIsX X.K c tab) := by
  intro pins s σ H xs us Q I r h
  obtain ⟨G, M, R, hv, h, hR⟩ := h
  match xs, h with
  | [.non, c'], h2 =>
    obtain ⟨rfl, h3⟩ := h2
    exact (call_isi (X := X)) pins s σ H [.non, c'] _ Q I r ⟨_, _, .type "NoneType", _, false, rfl, hcv, .base .non, hn, hR _ _ _ _ hv h3⟩
  | [.ref a, c'], h2 =>
    obtain ⟨rfl, p, hp, ha, h3⟩ := h2
    cases r with
    | cons rx rr =>
      cases rr with
      | cons rt rr =>
        cases rr
        have ec := hcv.eq rt
        subst ec
        cases rx
        obtain ⟨C, e⟩ := ht p hp
        have hH : H a = some (ErA X.K p.1 none a) := hv.at ha
        obtain ⟨⟨oe, vs, hget, hz, hd⟩, _, _⟩ := I.hok a _ hH
        have J : PySem.W.InstAt s.heap a oe (cl X.K p.1) none := by
          obtain ⟨oc, od, oda, osl⟩ := oe
          obtain ⟨h1, h2⟩ := hz
          dsimp only at h1 h2 hd
          subst h1 h2 hd
          exact ⟨hget, rfl, rfl, trivial⟩
        exact PySem.W.kia_one (PySem.W.handS_kitx_exc C.hg C.hk C.hs C.hd C.ha C.hn C.ht C.hm) I.kIn J e (fun z => nomatch z) fun tk => ⟨.bl p.2, H, I.kept (t' := tk) fun _ _ z => z, rfl, hR _ _ _ _ hv h3⟩
/-- the name of an own class -/
theorem je_cls {K : PySem.W.Frag} {x : Str} {pos : Pos} (g : XG X.K X.mg x) (hK : X.K = K := by rfl) (hg : Gl X x := by rfl) (hd : (x == ("__debug__" : Str)) = false := by decide) : JE X W (.Name x pos) (kC (.ref (cl K x))) := by
  subst hK
  exact je_glob g.g rfl hg hd
end
theorem kop_shlW {X : Cx} : KOp X (binaryOp .LShift) (kI CShl fun i j => .int (i * 2 ^ j.toNat)) := kop_I op_shlW
theorem excX {R : KR} {Z : KX} {c : Value} {d : Option Addr} {σ : St} {G : Hp} {M : Mem} (h : Z c d G M) : (ends R Z).xc c d σ G M := ⟨G, M, Wk.refl, h⟩
theorem kit_ref {K : PySem.W.Frag} {t : Value} {C : Addr} {b : Bool} (hc : PySem.W.hasDictIn K C = true) (ht : PySem.W.typeIn K (.ref C) = some (.type "type")) (hs : PySem.W.subIn K (.ref C) (.ref C) = some true) (h : PySem.W.subIn K t (.ref C) = some b) :
    PySem.W.kitOne K t (.ref C) = some b := by
  unfold PySem.W.kitOne
  by_cases e : (t == .ref C) = true
  · rw [if_pos e]
    have e2 : t = .ref C := beq_iff_eq.mp e
    rw [e2, hs] at h
    exact h
  · rw [if_neg e]
    obtain ⟨cd, hcd, _⟩ := PySem.W.any_some hc
    have e1 : ((PySem.W.clsIn K C).isSome && PySem.W.typeIn K (.ref C) == some (.type "type")) = true := by rw [hcd, ht] <;> rfl
    show (if ((PySem.W.clsIn K C).isSome && PySem.W.typeIn K (.ref C) == some (.type "type")) = true then PySem.W.subIn K t (.ref C) else none) = some b
    rw [if_pos e1]
    exact h
theorem kit_tyV {K : PySem.W.Frag} {t : Value} {T : String} {b : Bool} (hm : PySem.W.kitMeta T = true) (hne : (t == .type T) = false) (h : PySem.W.subIn K t (.type T) = some b) : PySem.W.kitOne K t (.type T) = some b := by
  unfold PySem.W.kitOne
  rw [if_neg (by rw [hne]; exact Bool.false_ne_true)]
  show (if PySem.W.kitMeta T = true then PySem.W.subIn K t (.type T) else none) = some b
  rw [if_pos hm]
  exact h
end BT
set_option Elab.async false
set_option linter.all false
set_option maxRecDepth 100000
set_option maxHeartbeats 4000000
namespace BT
open PySem PySem.Spec L2
open PyProof.Rows hiding St
section
variable {X : Cx} {W : WX} {pos p : Pos} {a b : Expr}
/-! ### list(range(..)) -/
def rgL (i j : Int) (G : Hp) (M : Mem) (R : KR) : Prop := RgOk i j ∧ ∀ q, Fr G M q → R (.ref q) G ((q, .lst (rgV i j)) :: M)
def kListR1 (t : KE) : KE := fun σ G M R E => t σ G M (fun x G M => match x with
  | .int n => rgL 0 n G M R
  | _ => False) E
def kListR2 (t u : KE) : KE := fun σ G M R E => t σ G M (fun x G M => u σ G M (fun y G M => match x, y with
  | .int i, .int j => rgL i j G M R
  | _, _ => False) E) E
theorem je_listR1 {t : KE} {p2 pos2 : Pos} (hl : X.mg "list" = none) (hr : X.mg "range" = none) (ha : JE X W a t) (hc : X.calm = true := by rfl) (h1 : Gl X "list" := by rfl) (h2 : Gl X "range" := by rfl)
    (na : starEach [a] X.env = (false, eval a X.env) :: starEach [] X.env := by rfl) (nb : starEach [.Call (.Name "range" p2) [a] [] pos2] X.env = (false, eval (.Call (.Name "range" p2) [a] [] pos2) X.env) :: starEach [] X.env := by rfl) :
    JE X W (.Call (.Name "list" p) [.Call (.Name "range" p2) [a] [] pos2] [] pos) (kListR1 t) :=
  pe_mono (pe_listRg hc h1 hl (prg_1 h2 hr ha na) nb) fun σ H Q ⟨G, M, R, E, hv, h, hR, hE⟩ => ⟨G, M, _, E, hv, h, fun x G1 M1 H1 hv1 q => by
    match x, q with
    | .int n, ⟨q1, q2⟩ => exact ⟨n, rfl, q1, fun w hw => hR _ G1 _ _ (hv1.newM hw) (q2 w (hv1.fr hw))⟩, hE⟩
theorem je_listR2 {t u : KE} {p2 pos2 : Pos} (hl : X.mg "list" = none) (hr : X.mg "range" = none) (ha : JE X W a t) (hb : JE X W b u) (hc : X.calm = true := by rfl) (h1 : Gl X "list" := by rfl) (h2 : Gl X "range" := by rfl)
    (na : starEach [a, b] X.env = (false, eval a X.env) :: starEach [b] X.env := by rfl) (nb : starEach [b] X.env = (false, eval b X.env) :: starEach [] X.env := by rfl) (hp : (backTo pos2 (starEach [b] X.env)).any (·.1) = false := by rfl)
    (nc : starEach [.Call (.Name "range" p2) [a, b] [] pos2] X.env = (false, eval (.Call (.Name "range" p2) [a, b] [] pos2) X.env) :: starEach [] X.env := by rfl) :
    JE X W (.Call (.Name "list" p) [.Call (.Name "range" p2) [a, b] [] pos2] [] pos) (kListR2 t u) :=
  pe_mono (pe_listRg hc h1 hl (prg_2 h2 hr ha hb na nb hp) nc) fun σ H Q ⟨G, M, R, E, hv, h, hR, hE⟩ => ⟨G, M, _, E, hv, h, fun x G1 M1 H1 hv1 q => ⟨G1, M1, _, E, hv1, q, fun y G2 M2 H2 hv2 q => by
    match x, y, q with
    | .int i, .int j, ⟨q1, q2⟩ => exact ⟨i, j, rfl, rfl, q1, fun w hw => hR _ G2 _ _ (hv2.newM hw) (q2 w (hv2.fr hw))⟩, hE⟩, hE⟩
/-! ### an empty dict -/
def kDNew : KE := fun _ G M R _ => ∀ q, Fr G M q → R (.ref q) G ((q, .dK []) :: M)
theorem je_dnew : JE X W (.Dict [] [] pos) kDNew := pe_mono pe_dnewK fun σ H Q ⟨G, M, R, E, hv, h, hR, hE⟩ => fun w hw => hR _ G _ _ (hv.newM hw) (h w (hv.fr hw))
/-! ### constants of the module -/
theorem je_const {x : Str} {v : V} (h : ∃ u, X.mg x = some u ∧ RelV v u) (hg : Gl X x := by rfl) (hd : (x == ("__debug__" : Str)) = false := by decide) : JE X W (.Name x pos) (kC v) := by
  obtain ⟨u, hm, r⟩ := h
  exact je_glob hm r hg hd
/-- a tuple of texts that the module holds -/
def kConT (K : PySem.W.Frag) (x : Str) (xs : List V) : KE := fun _ G M R _ => (∀ H, SqT K H (cl K x) xs) → R (.ref (cl K x)) G M
structure XT (K : PySem.W.Frag) (mg : Str → Option Value) (x : Str) (xs : List V) : Prop where
  g : mg x = some (.ref (cl K x))
  s : ∀ H, SqT K H (cl K x) xs
theorem je_conT {K : PySem.W.Frag} {x : Str} {xs : List V} (h : XT X.K X.mg x xs) (hK : X.K = K := by rfl) (hg : Gl X x := by rfl) (hd : (x == ("__debug__" : Str)) = false := by decide) : JE X W (.Name x pos) (kConT K x xs) := by
  subst hK
  exact pe_mono (je_glob (W := W) (v := .ref (cl X.K x)) h.g rfl hg hd) fun σ H Q ⟨G, M, R, E, hv, q, hR, hE⟩ => ⟨G, M, R, E, hv, q h.s, hR, hE⟩
end
theorem vals_abs : ∀ {us : List Value} {xs : List V}, us.map absV = xs.map some → (∀ x, x ∈ xs → (∃ i, x = .int i) ∨ ∃ s, x = .str s) → Vals xs us
  | [], [], _, _ => .nil
  | [], _ :: _, h, _ => by cases h
  | _ :: _, [], h, _ => by cases h
  | u :: us, x :: xs, h, hx => by
    rw [List.map_cons, List.map_cons] at h
    injection h with h1 h2
    refine .cons ?_ (vals_abs h2 fun y hy => hx y (List.mem_cons_of_mem _ hy))
    rcases hx x List.mem_cons_self with ⟨i, rfl⟩ | ⟨s, rfl⟩
    · cases u <;> simp only [absV] at h1 <;> first | (cases h1; done) | (injection h1 with h1; first | (cases h1; exact ⟨_, rfl⟩) | cases h1)
    · cases u <;> simp only [absV] at h1 <;> first | (cases h1; done) | (injection h1 with h1; first | (cases h1; exact ⟨_, rfl⟩) | cases h1)
theorem xt_mk {K : PySem.W.Frag} {mg : Str → Option Value} {h : Heap} {x : Str} {C : Addr} {xs : List V} {od : Option Addr} {its : Array Value} {n : Nat} {sl : Array (Option Value)} (X : K.In h) (G : h.Ns mainGlobals mg) (a : PySem.W.nsIn K mainGlobals x = some (some (.ref C)))
    (l : K.lookup C = some ⟨.type "tuple", od, .seq its n, sl⟩) (e : its.toList.map absV = xs.map some) (hx : ∀ x, x ∈ xs → (∃ i, x = .int i) ∨ ∃ s, x = .str s) (hs : its.size ≤ 1000) : XT K mg x xs := by
  have ec := cl_of a
  refine ⟨by rw [ec]; exact PySem.W.mg_of X G a, fun H => ?_⟩
  rw [ec]
  exact .inr ⟨_, its, n, l, rfl, rfl, Nat.le_trans hs (by decide), vals_abs e hx⟩
/-! ### sum of a tuple -/
section
variable {prog : Program} {w : World} {A : Around} {E : Value → Shared → Prop} {s : Shared} {l : Addr} {its : List Value} {ns : List Int} {Q : Value → Shared → Prop}
theorem sum_tupT (hh : A.handled = none) (hl : s.heap.IsTuple l its.toArray) (hi : IntsAre its ns)
    (h : ∀ h' tk t', (∀ b o, s.heap.get? b = some o → h'.get? b = some o) → Q (.int ns.sum t') { s with heap := h', toks := tk }) : wpAny (model prog w) A (call (.builtin "sum") [.ref l]) Q E s := by
  obtain ⟨xs, e⟩ := hi.allInts.items
  have hn : numsOf (intItems xs).toList = ns := by rw [← e]; exact hi.numsOf
  rw [nums_intItems] at hn
  rw [e] at hl
  have hlt : l < s.heap.objs.size := by obtain ⟨_, e, _⟩ := hl; exact Heap.lt_size e
  refine call_sum_walkG (wpAny_pyIter_tuple hl ?_)
  refine ⟨_, _, _, _, _, _, numAt xs, rfl, Walks.tuple (A := A.in1) hh _ l (Nat.ne_of_lt hlt) (intItems xs), ⟨⟨_, Heap.get?_push_size _ rfl, rfl, rfl⟩, hl.push _⟩, fun b hb => ?_, (fun _ _ => intItems_at), fun h' tk t' hk => ?_⟩
  · show b < (s.heap.push _).objs.size
    rw [Heap.size_push]
    simp only [List.mem_cons, List.not_mem_nil, or_false] at hb
    rcases hb with z | z
    · rw [z]; exact Nat.lt_succ_self _
    · rw [z]; exact Nat.lt_succ_of_lt hlt
  · have := h h' tk t' fun b o eb => hk b o (fun hm => absurd (Heap.lt_size eb) ((List.mem_singleton.mp hm) ▸ Nat.lt_irrefl _)) (Heap.get?_push_of_some _ eb)
    have e2 : preSum (numAt xs) (intItems xs).size = ns.sum := by
      rw [preSum_eq, List.take_of_length_le (by simp [intItems]), hn]
    rw [e2]; exact this
end
section
variable {X : Cx}
def kSumS (K : PySem.W.Frag) : KC := fun vs G M R => match vs with
  | [.ref a] => ∃ ns : List Int, SeqAt' K G M a (ns.map V.int) ∧ R (.int ns.sum) G M
  | _ => False
theorem kc_sumS (hc : X.calm = true := by rfl) : KCall X (.builtin "sum") (kSumS X.K) := by
  intro pins s σ H vs us Q I r h
  obtain ⟨G, M, R, hv, h, hR⟩ := h
  match vs, h with
  | [.ref a], ⟨ns, h1, h2⟩ =>
    rcases h1 with h1 | h1
    · exact cr_sum hc pins s σ H [.ref a] us Q I r ⟨a, ns, rfl, hv.lst h1, hR _ _ _ _ hv h2⟩
    · obtain ⟨its, rv, ht, _⟩ := I.tuple (ex_t hv.exx h1)
      rw [Vals.ref1 r]
      exact sum_tupT (I.ok.hd hc) ht rv.ints fun h' tk t' hk => ⟨.int _, H, I.kept hk, ⟨_, rfl⟩, hR _ _ _ _ hv h2⟩
end
end BT
set_option Elab.async false
set_option linter.all false
set_option maxRecDepth 100000
set_option maxHeartbeats 4000000
namespace BT
open PySem PySem.Spec L2
open PyProof.Rows hiding St
/-! ### len(set(xs)) of ints -/
theorem dedup_len : ∀ (l acc : List Int), (l.foldl step_dedup acc).length ≤ acc.length + l.length
  | [], acc => Nat.le_refl _
  | x :: l, acc => by
    have h := dedup_len l (step_dedup acc x)
    rw [step_length] at h
    rw [List.foldl_cons, List.length_cons]
    split at h <;> omega
theorem dedup_eq : ∀ (l acc : List Int), (l.foldl step_dedup acc).length = acc.length + l.length ↔ (l.Nodup ∧ ∀ x, x ∈ l → x ∉ acc)
  | [], acc => by simp
  | x :: l, acc => by
    rw [List.foldl_cons, List.length_cons]
    by_cases hx : acc.any (· == x) = true
    · have hm : x ∈ acc := by simpa using hx
      have h := dedup_len l (step_dedup acc x)
      rw [step_length, if_pos hx] at h
      constructor
      · intro e; omega
      · intro e; exact absurd hm (e.2 x List.mem_cons_self)
    · have hm : x ∉ acc := by simpa using hx
      have e1 : step_dedup acc x = acc ++ [x] := by unfold step_dedup; rw [if_neg hx]
      have ih := dedup_eq l (acc ++ [x])
      rw [List.length_append, List.length_singleton] at ih
      rw [e1, show acc.length + (l.length + 1) = acc.length + 1 + l.length by omega, ih, List.nodup_cons]
      constructor
      · rintro ⟨a, b⟩
        refine ⟨⟨fun z => b x z (by simp), a⟩, fun y hy => ?_⟩
        rcases List.mem_cons.mp hy with rfl | hy
        · exact hm
        · exact fun z => b y hy (List.mem_append.mpr (.inl z))
      · rintro ⟨⟨a, b⟩, c⟩
        refine ⟨b, fun y hy z => ?_⟩
        rcases List.mem_append.mp z with z | z
        · exact c y (List.mem_cons_of_mem _ hy) z
        · have : y = x := by simpa using z
          subst this; exact a hy
theorem range_getD (ns : List Int) : (List.range ns.length).map (fun i => ns.getD i 0) = ns := by
  apply List.ext_getElem (by simp)
  intro i h1 h2
  simp [List.getD_eq_getElem?_getD, List.getElem?_eq_getElem h2]
section
variable {X : Cx} {W : WX}
def kLenSet (K : PySem.W.Frag) (t : KE) : KE := fun σ G M R E => t σ G M (fun x G M => match x with
  | .ref a => ∃ ns : List Int, LstAt K G M a (ns.map V.int) ∧ ns.length ≤ 4000 ∧ ∀ m : Nat, m ≤ ns.length → (m = ns.length ↔ ns.Nodup) → R (.int m) G M
  | _ => False) E
theorem je_lenSet {a : Expr} {ta : KE} {p p2 q pos : Pos} (hm : X.mg "len" = none) (hm2 : X.mg "set" = none) (ha : JE X W a ta) (hc : X.calm = true := by rfl) (hg : Gl X "len" := by rfl) (hg2 : Gl X "set" := by rfl)
    (na : starEach [a] X.env = (false, eval a X.env) :: starEach [] X.env := by rfl) : JE X W (.Call (.Name "len" p) [.Call (.Name "set" p2) [a] [] q] [] pos) (kLenSet X.K ta) := by
  refine ⟨fun pins s σ H Q I ⟨G, M, R, E, hv, h, hR, hE⟩ => ?_⟩
  refine Call_ (ld_blt I hg hm PySem.boot_len ?_)
  refine PyProof.Rows.callWith_builtin1 (PyProof.Rows.args_cons ?_ rfl) rfl rfl
  refine Call_ (ld_blt I hg2 hm2 PyProof.Rows.boot_set ?_)
  refine PyProof.Rows.callWith_type1 (PyProof.Rows.args_cons (thn (ha.run pins s σ H (fun x H1 => ∃ (l : Addr) (ns : List Int), x = V.ref l ∧ SqL X.K H1 l (ns.map V.int) ∧ ns.length ≤ 4000 ∧ ∀ m : Nat, m ≤ ns.length → (m = ns.length ↔ ns.Nodup) → Q (.int m) H1) I ?_) fun v s1 ⟨x, H1, I1, r1, q1⟩ => PyProof.Rows.args_nil ?_) na) na rfl
  · refine ⟨G, M, _, E, hv, h, fun x G1 M1 H1 hv1 q => ?_, hE⟩
    match x, q with
    | .ref a, ⟨ns, q1, q2, q3⟩ => exact ⟨a, ns, rfl, hv1.lst q1, q2, fun m e1 e2 => hR _ G1 M1 H1 hv1 (q3 m e1 e2)⟩
  obtain ⟨l, ns, rfl, hq, h1, q1⟩ := q1
  cases r1
  obtain ⟨its, r, pl, hz⟩ := I1.list hq
  have hl : its.toArray.size = ns.length := by rw [List.size_toArray, ← r.length, List.length_map]
  refine call_set_list (I1.ok.hd hc) pl.isList (ns := ns) (by simpa using r.ints) (by unfold scanBound; omega) fun h' tk hS hk => ?_
  rw [hl] at hS
  have em : firstMet (fun i => ns.getD i 0) ns.length = ns.foldl step_dedup [] := by
    unfold firstMet; rw [range_getD]
  rw [em] at hS
  have hle := dedup_len ns []
  have heq := dedup_eq ns []
  rw [List.length_nil, Nat.zero_add] at hle heq
  refine PyProof.Rows.args_nil ?_
  obtain ⟨o, es, ep, t, ho, hex, hd, _, _, _, hf, hn⟩ := hS
  have I2 : Inv X pins σ H1 { s1 with heap := h', toks := tk } := I1.kept fun b o e => hk b o (Heap.lt_size e) e
  refine call_len_set ho hex hd hf (by rw [hn] <;> omega) ⟨.int _, H1, I2.tok _, ⟨_, by rw [hn]⟩, q1 _ hle (heq.trans ⟨fun z => z.1, fun z => ⟨z, fun x _ => by simp⟩⟩)⟩
/-! ### reversed(range(..)) -/
def revR (i j : Int) (R : Src → Hp → Mem → Prop) (G : Hp) (M : Mem) : Prop := (-(2 ^ 62) ≤ i ∧ i < 2 ^ 62 ∧ -(2 ^ 62) ≤ j ∧ j < 2 ^ 62) ∧ R (srcC (i + (((j - i).toNat : Nat) : Int) - 1) (-1) (j - i).toNat) G M
def kiRv1 (t : KE) : KI := fun σ G M R E => t σ G M (fun x G M => match x with
  | .int n => revR 0 n R G M
  | _ => False) E
def kiRv2 (t u : KE) : KI := fun σ G M R E => t σ G M (fun x G M => u σ G M (fun y G M => match x, y with
  | .int i, .int j => revR i j R G M
  | _, _ => False) E) E
theorem ji_rv1 {a tg : Expr} {t : KE} {p p2 pos pos2 : Pos} (hv : X.mg "reversed" = none) (hr : X.mg "range" = none) (ha : JE X W a t) (h1 : Gl X "reversed" := by rfl) (h2 : Gl X "range" := by rfl)
    (na : starEach [a] X.env = (false, eval a X.env) :: starEach [] X.env := by rfl) (nb : starEach [.Call (.Name "range" p2) [a] [] pos2] X.env = (false, eval (.Call (.Name "range" p2) [a] [] pos2) X.env) :: starEach [] X.env := by rfl) :
    JI X W tg (.Call (.Name "reversed" p) [.Call (.Name "range" p2) [a] [] pos2] [] pos) (kiRv1 t) :=
  pi_mono (pi_revR h1 hv (prg_1 h2 hr ha na) nb) fun σ H Q ⟨G, M, R, E, hv, h, hR, hE⟩ => ⟨G, M, _, E, hv, h, fun x G1 M1 H1 hv1 q => by
    match x, q with
    | .int n, ⟨⟨q1, q2, q3, q4⟩, q5⟩ => exact ⟨n, rfl, q1, q2, q3, q4, hR _ G1 M1 H1 hv1 q5 _ goes_C⟩, hE⟩
theorem ji_rv2 {a b tg : Expr} {t u : KE} {p p2 pos pos2 : Pos} (hv : X.mg "reversed" = none) (hr : X.mg "range" = none) (ha : JE X W a t) (hb : JE X W b u) (h1 : Gl X "reversed" := by rfl) (h2 : Gl X "range" := by rfl)
    (na : starEach [a, b] X.env = (false, eval a X.env) :: starEach [b] X.env := by rfl) (nb : starEach [b] X.env = (false, eval b X.env) :: starEach [] X.env := by rfl) (hp : (backTo pos2 (starEach [b] X.env)).any (·.1) = false := by rfl)
    (nc : starEach [.Call (.Name "range" p2) [a, b] [] pos2] X.env = (false, eval (.Call (.Name "range" p2) [a, b] [] pos2) X.env) :: starEach [] X.env := by rfl) :
    JI X W tg (.Call (.Name "reversed" p) [.Call (.Name "range" p2) [a, b] [] pos2] [] pos) (kiRv2 t u) :=
  pi_mono (pi_revR h1 hv (prg_2 h2 hr ha hb na nb hp) nc) fun σ H Q ⟨G, M, R, E, hv, h, hR, hE⟩ => ⟨G, M, _, E, hv, h, fun x G1 M1 H1 hv1 q => ⟨G1, M1, _, E, hv1, q, fun y G2 M2 H2 hv2 q => by
    match x, y, q with
    | .int i, .int j, ⟨⟨q1, q2, q3, q4⟩, q5⟩ => exact ⟨i, j, rfl, rfl, q1, q2, q3, q4, hR _ G2 M2 H2 hv2 q5 _ goes_C⟩, hE⟩, hE⟩
/-! ### index, insert, pop, clear, tuple(), bool() -/
theorem km_index : KMt X "list.index" (kIndex X.K) := kmt_of mt_index fun x vs G M R H Q hv h hR => by
  match x, vs, h with
  | .ref a, [y], ⟨ys, j, z, h1, h2, h3, h4, h5, h6, h7⟩ => exact ⟨a, ys, y, j, z, rfl, rfl, hv.lst h1, h2, h3, h4, h5, h6, hR _ G M H hv h7⟩
def kInsert : KM := fun x vs G M R => match x, vs with
  | .ref a, [.int i, y] => ∃ n xs, M[n]? = some (a, .lst xs) ∧ xs.length < sizeLine ∧ 0 ≤ i ∧ i < 2 ^ 63 ∧ R .non G (M.set n (a, .lst (xs.take i.toNat ++ [y] ++ xs.drop i.toNat)))
  | _, _ => False
theorem km_insert : KMt X "list.insert" kInsert := kmt_of mt_insert fun x vs G M R H Q hv h hR => by
  match x, vs, h with
  | .ref a, [.int i, y], ⟨n, xs, h1, h2, h3, h4, h5⟩ => exact ⟨a, xs, i, y, rfl, rfl, hv.get h1, h2, h3, h4, hR _ G _ _ (hv.set h1) h5⟩
def kTuple (K : PySem.W.Frag) : KC := fun vs G M R => match vs with
  | [.ref a] => (∃ xs, LstAt K G M a xs ∧ ∀ p, Fr G M p → R (.ref p) (upd G p (.tup xs)) M) ∨ ∃ xs, SqT K G a xs ∧ R (.ref a) G M
  | _ => False
theorem kc_tuple : KCall X (.type "tuple") (kTuple X.K) := kcall_of call_tuple_of fun vs G M R H Q hv h hR => by
  match vs, h with
  | [.ref a], .inl ⟨xs, h1, h2⟩ => exact ⟨a, xs, rfl, .inl ⟨hv.lst h1, fun p hp => hR _ _ M _ (hv.newG hp) (h2 p (hv.fr hp))⟩⟩
  | [.ref a], .inr ⟨xs, h1, h2⟩ => exact ⟨a, xs, rfl, .inr ⟨hv.tup h1, hR _ G M H hv h2⟩⟩
def kBool : KC := fun vs G M R => match vs with
  | [.int i] => R (.bl (i != 0)) G M
  | [.bl k] => R (.bl k) G M
  | _ => False
theorem kc_bool : KCall X (.type "bool") kBool := kcall_of call_bool1 fun vs G M R H Q hv h hR => by
  match vs, h with
  | [.int i], h => exact .inl ⟨i, rfl, hR _ G M H hv h⟩
  | [.bl i], h => exact .inr ⟨i, rfl, hR _ G M H hv h⟩
def kPopAt : KM := fun x vs G M R => match x, vs with
  | .ref a, [.int i] => ∃ n xs k y, M[n]? = some (a, .lst xs) ∧ -(2 ^ 63) ≤ i ∧ i < 2 ^ 63 ∧ seqIndex? i xs.length = some k ∧ xs[k]? = some y ∧ R y G (M.set n (a, .lst (xs.eraseIdx k)))
  | _, _ => False
def kPop : KM := fun x vs G M R => match x, vs with
  | .ref a, [] => ∃ n xs y, M[n]? = some (a, .lst xs) ∧ xs[xs.length - 1]? = some y ∧ R y G (M.set n (a, .lst xs.dropLast))
  | _, _ => False
def kClear : KM := fun x vs G M R => match x, vs with
  | .ref a, [] => ∃ n xs, M[n]? = some (a, .lst xs) ∧ R .non G (M.set n (a, .lst []))
  | _, _ => False
theorem km_popAt : KMt X "list.pop" kPopAt := kmt_of mt_popAt fun x vs G M R H Q hv h hR => by
  match x, vs, h with
  | .ref a, [.int i], ⟨n, xs, k, y, h1, h2, h3, h4, h5, h6⟩ => exact ⟨a, xs, i, k, y, rfl, rfl, hv.get h1, h2, h3, h4, h5, hR _ G _ _ (hv.set h1) h6⟩
theorem km_pop : KMt X "list.pop" kPop := kmt_of mt_pop fun x vs G M R H Q hv h hR => by
  match x, vs, h with
  | .ref a, [], ⟨n, xs, y, h1, h2, h3⟩ => exact ⟨a, xs, y, rfl, rfl, hv.get h1, h2, hR _ G _ _ (hv.set h1) h3⟩
theorem km_clear : KMt X "list.clear" kClear := kmt_of mt_clear fun x vs G M R H Q hv h hR => by
  match x, vs, h with
  | .ref a, [], ⟨n, xs, h1, h3⟩ => exact ⟨a, xs, rfl, rfl, hv.get h1, hR _ G _ _ (hv.set h1) h3⟩
/-! ### {k: v, ..} -/
def kPairs : List (KE × KE) → St → Hp → Mem → (List (V × V) → Hp → Mem → Prop) → KX → Prop
  | [], _, G, M, R, _ => R [] G M
  | (tk, tv) :: r, σ, G, M, R, E => tk σ G M (fun x G M => tv σ G M (fun y G M => kPairs r σ G M (fun ps G M => R ((x, y) :: ps) G M) E) E) E
def kDisp (trs : List (KE × KE)) : KE := fun σ G M R E => ∀ p, Fr G M p → kPairs trs σ G ((p, .dK []) :: M) (fun ps G M => ∃ (n : Nat) (kvs : List (Key × V)), M[n]? = some (p, .dK []) ∧ ps = kvs.map (fun kv => (kV kv.1, kv.2)) ∧ kvs.length ≤ 15 ∧ R (.ref p) G (M.set n (p, .dK (mergeK [] kvs)))) E
def JPs (X : Cx) (W : WX) (pos : Pos) (keys : List (Option Expr)) (values : List Expr) (trs : List (KE × KE)) : Prop := PPs X pos keys values (trs.map fun p => (upG W p.1, upG W p.2))
theorem jps_nil {pos : Pos} : JPs X W pos [] [] [] := pps_nil
theorem jps_cons {pos : Pos} {k v : Expr} {ks : List (Option Expr)} {vs : List Expr} {tk tv : KE} {trs : List (KE × KE)} (hk : JE X W k tk) (hv : JE X W v tv) (hr : JPs X W pos ks vs trs) : JPs X W pos (some k :: ks) (v :: vs) ((tk, tv) :: trs) := pps_cons hk hv hr
theorem pairs_sim {σ : St} {E : KX} (hE : ∀ c d G' M' H', Hv G' M' H' → E c d G' M' → W c d σ H') : ∀ (trs : List (KE × KE)) (G : Hp) (M : Mem) (R : List (V × V) → Hp → Mem → Prop) (H : Hp) (Q : List (V × V) → Hp → Prop), Hv G M H → kPairs trs σ G M R E →
    (∀ v G' M' H', Hv G' M' H' → R v G' M' → Q v H') → tPairs (trs.map fun p => (upG W p.1, upG W p.2)) σ H Q
  | [], G, M, R, H, Q, hv, h, hR => hR _ G M H hv h
  | (tk, tv) :: r, G, M, R, H, Q, hv, h, hR => ⟨G, M, _, E, hv, h, fun x G1 M1 H1 hv1 q1 => ⟨G1, M1, _, E, hv1, q1, fun y G2 M2 H2 hv2 q2 => pairs_sim hE r G2 M2 _ H2 _ hv2 q2 fun v G' M' H' hv' q => hR _ G' M' H' hv' q, hE⟩, hE⟩
theorem je_disp {pos : Pos} {keys : List (Option Expr)} {values : List Expr} {trs : List (KE × KE)} (h : JPs X W pos keys values trs) (hall : keys.all (·.isSome) = true := by rfl) (hl : keys.length = values.length := by rfl) (h0 : keys ≠ [] := by exact fun z => nomatch z) (h15 : keys.length ≤ 15 := by decide) :
    JE X W (.Dict keys values pos) (kDisp trs) := pe_mono (pe_disp h hall hl h0 h15) fun σ H Q ⟨G, M, R, E, hv, h, hR, hE⟩ => fun p hp =>
  pairs_sim hE trs G _ _ _ _ (hv.newM hp) (h p (hv.fr hp)) fun ps G' M' H' hv' ⟨n, kvs, q1, q2, q3, q4⟩ => ⟨hv'.get q1, kvs, q2, q3, hR _ G' _ _ (hv'.set q1) q4⟩
end
end BT
namespace BT
open PySem PySem.Spec L2
/-- what is walked, behind which something may be forgotten -/
def kiW (t : KI) : KI := fun σ G M R E => t σ G M (fun src G M => ∃ G' M', Wk G M G' M' ∧ R src G' M') E
theorem ji_w {X : Cx} {W : WX} {tg it : Expr} {t : KI} (h : JI X W tg it t) : JI X W tg it (kiW t) := pi_mono h fun σ H Q ⟨G, M, R, E, hv, h, hR, hE⟩ =>
  ⟨G, M, _, E, hv, h, fun src G1 M1 H1 hv1 ⟨G2, M2, w, q⟩ J go => hR src G2 M2 H1 (w H1 hv1) q J go, hE⟩
end BT
set_option Elab.async false
set_option linter.all false
set_option maxRecDepth 100000
set_option maxHeartbeats 4000000
namespace BT
open PySem PySem.Spec L2
open PyProof.Rows hiding St
/-! ### objects: the program's classes by number, their attributes by place -/
def clsN : Nat → Str × List Str
  | 0 => ("Plain", ["words"])
  | 1 => ("Keeper", ["log"])
  | 2 => ("Shelf", ["keeper", "number", "things"])
  | 3 => ("Scan", ["cells", "limit", "draws", "keeper", "made", "shelf"])
  | 4 => ("Spare", ["cells", "limit", "draws", "keeper", "made", "side", "order", "shelf", "hand"])
  | 5 => ("Stairs", ["cells", "limit", "draws", "keeper", "made", "climb", "hand", "shelves", "orders"])
  | 6 => ("Tree", ["cells", "limit", "draws", "keeper", "made", "body", "table"])
  | 7 => ("Grove", ["cells", "limit", "draws", "keeper", "made", "highs", "bodies", "start", "table"])
  | 8 => ("Body", ["shelf", "high", "firsts", "hand"])
  | 9 => ("Climb", ["cells", "last", "full", "drawn", "home", "held"])
  | 10 => ("Runner", ["program", "slates", "place"])
  | _ => ("Desk", ["stores"])
theorem cls_all {P : Str × List Str → Prop} (h : ∀ k, k < 12 → P (clsN k)) : ∀ k, P (clsN k) := fun k => by
  by_cases e : k < 12
  · exact h k e
  · have : clsN k = clsN 11 := by
      unfold clsN
      split <;> first | omega | rfl
    rw [this]; exact h 11 (by decide)
theorem cls_nodup : ∀ k, (clsN k).2.Nodup := cls_all (P := fun x => x.2.Nodup) (by decide +kernel)
theorem cls_few : ∀ k, (clsN k).2.length < 20 := cls_all (P := fun x => x.2.length < 20) (by decide +kernel)
def Ob (K : PySem.W.Frag) (k : Nat) (dx : Addr) (vs : List V) : HO := .ins (cl K (clsN k).1) dx ((clsN k).2.zip vs)
def putV : Nat → V → List V → List V
  | 0, y, [] => [y]
  | 0, y, _ :: r => y :: r
  | n + 1, y, x :: r => x :: putV n y r
  | _ + 1, _, [] => []
theorem zip_lookup : ∀ (ns : List Str) (vs : List V) (i : Nat) (f : Str), ns.Nodup → ns[i]? = some f → (ns.zip vs).lookup f = vs[i]?
  | [], _, _, _, _, h => by simp at h
  | n :: ns, [], i, f, _, _ => by simp
  | n :: ns, v :: vs, 0, f, _, h => by
    have e : n = f := by simpa using h
    subst e
    simp [List.zip_cons_cons, List.lookup]
  | n :: ns, v :: vs, i + 1, f, hn, h => by
    rw [List.nodup_cons] at hn
    have h2 : ns[i]? = some f := by simpa using h
    have ne : (f == n) = false := by
      rw [beq_eq_false_iff_ne]
      intro z
      exact hn.1 (z ▸ List.mem_of_getElem? h2)
    rw [List.zip_cons_cons, List.lookup, ne]
    simp only []
    rw [zip_lookup ns vs i f hn.2 h2]; simp
theorem zip_none : ∀ (ns : List Str) (vs : List V) (f : Str), f ∉ ns → (ns.zip vs).lookup f = none
  | [], _, _, _ => by simp
  | n :: ns, [], f, _ => by simp
  | n :: ns, v :: vs, f, h => by
    have ne : (f == n) = false := by
      rw [beq_eq_false_iff_ne]
      intro z
      exact h (z ▸ List.mem_cons_self)
    rw [List.zip_cons_cons, List.lookup, ne]
    exact zip_none ns vs f fun z => h (List.mem_cons_of_mem _ z)
theorem zip_put : ∀ (ns : List Str) (vs : List V) (i : Nat) (f : Str) (y : V), ns.Nodup → ns[i]? = some f → i ≤ vs.length → putF f y (ns.zip vs) = ns.zip (putV i y vs)
  | [], _, _, _, _, _, h, _ => by simp at h
  | n :: ns, [], 0, f, y, _, h, _ => by
    have e : n = f := by simpa using h
    subst e
    cases ns <;> rfl
  | n :: ns, [], i + 1, f, y, _, _, h => by simp at h
  | n :: ns, v :: vs, 0, f, y, _, h, _ => by
    have e : n = f := by simpa using h
    subst e
    show putF n y ((n, v) :: ns.zip vs) = _
    unfold putF
    rw [if_pos rfl]; rfl
  | n :: ns, v :: vs, i + 1, f, y, hn, h, hi => by
    rw [List.nodup_cons] at hn
    have h2 : ns[i]? = some f := by simpa using h
    have ne : ¬ n = f := fun z => hn.1 (z ▸ List.mem_of_getElem? h2)
    show putF f y ((n, v) :: ns.zip vs) = _
    unfold putF
    rw [if_neg ne, zip_put ns vs i f y hn.2 h2 (by simpa using hi)]; rfl
/-- what of the text a class must have -/
structure CK (K : PySem.W.Frag) (k : Nat) : Prop where
  cls : Cls K (cl K (clsN k).1)
  na : ∀ f ∈ (clsN k).2, NoAttr K (cl K (clsN k).1) f
theorem lookup_mem {α β : Type} [BEq α] [LawfulBEq α] : ∀ {l : List (α × β)} {a : α} {b : β}, l.lookup a = some b → (a, b) ∈ l
  | [], _, _, h => by simp at h
  | (x, y) :: l, a, b, h => by
    rw [List.lookup] at h
    split at h
    · rename_i e
      have e := eq_of_beq e
      cases h; subst e; exact List.mem_cons_self
    · exact List.mem_cons_of_mem _ (lookup_mem h)
section
variable {X : Cx} {W : WX} {pos : Pos}
/-- e.f; tab: the classes that have it, and its place -/
def kFld (K : PySem.W.Frag) (tab : List (Nat × Nat)) (t : KE) : KE := fun σ G M R E => t σ G M (fun x G M => match x with
  | .ref a => ∃ (k : Nat) (dx : Addr) (vs : List V) (i : Nat) (v : V), At G M a (Ob K k dx vs) ∧ tab.lookup k = some i ∧ vs[i]? = some v ∧ R v G M
  | _ => False) E
theorem je_fld {e : Expr} {f : Str} {tab : List (Nat × Nat)} {t : KE} (he : JE X W e t) (ht : ∀ p ∈ tab, CK X.K p.1 ∧ (clsN p.1).2[p.2]? = some f) (hb : attributeBase e f X.env (eval e X.env) = eval e X.env := by rfl) : JE X W (.Attribute e f pos) (kFld X.K tab t) :=
  pe_mono (pe_fld he hb) fun σ H Q ⟨G, M, R, E, hv, h, hR, hE⟩ => ⟨G, M, _, E, hv, h, fun x G1 M1 H1 hv1 q => by
    match x, q with
    | .ref a, ⟨k, dx, vs, i, v, q1, q2, q3, q4⟩ =>
      obtain ⟨ck, hf⟩ := ht (k, i) (lookup_mem q2)
      exact ⟨a, _, dx, _, v, rfl, hv1.at q1, ck.cls, ck.na f (List.mem_of_getElem? hf), by rw [zip_lookup _ _ i f (cls_nodup k) hf]; exact q3, hR _ G1 M1 H1 hv1 q4⟩, hE⟩
/-- o.f = e -/
def kFSet (K : PySem.W.Frag) (tab : List (Nat × Nat)) (to tv : KE) : KS := fun D σ G M => tv σ G M (fun y G M => to σ G M (fun x G M => match x with
  | .ref a => ∃ (n k : Nat) (dx : Addr) (vs : List V) (i : Nat), M[n]? = some (a, Ob K k dx vs) ∧ tab.lookup k = some i ∧ i ≤ vs.length ∧ D.nx σ G (M.set n (a, Ob K k dx (putV i y vs)))
  | _ => False) (D.x σ)) (D.x σ)
theorem js_fset {o value : Expr} {f : Str} {tab : List (Nat × Nat)} {to tv : KE} {pos' : Pos} (ho : JE X W o to) (hv : JE X W value tv) (ht : ∀ p ∈ tab, CK X.K p.1 ∧ (clsN p.1).2[p.2]? = some f)
    (hs : swapsWith value (some (.Attribute o f pos')) pos.line X.env = pure false := by rfl) : JS X W (.Assign [.Attribute o f pos'] value pos) (kFSet X.K tab to tv) :=
  ps_mono (ps_fld ho hv hs) fun D σ H ⟨G, M, d, hv, h, en⟩ => ⟨G, M, _, _, hv, h, fun y G1 M1 H1 hv1 q => ⟨G1, M1, _, _, hv1, q, fun x G2 M2 H2 hv2 q2 => by
    match x, q2 with
    | .ref a, ⟨n, k, dx, vs, i, q3, q4, q5, q6⟩ =>
      obtain ⟨ck, hf⟩ := ht (k, i) (lookup_mem q4)
      refine ⟨a, _, dx, _, rfl, hv2.get q3, ck.cls, ck.na f (List.mem_of_getElem? hf), ?_, ?_⟩
      · have := cls_few k
        rw [List.length_zip]; omega
      · rw [zip_put _ _ i f y (cls_nodup k) hf q5]
        exact en.nx _ G2 _ _ (hv2.set q3) q6, fun c a G' M' H' hv' q => en.xc c a σ G' M' H' hv' q⟩, fun c a G' M' H' hv' q => en.xc c a σ G' M' H' hv' q⟩
/-- a method that keeps its promise, of the class k -/
structure MDef (P : Program) (w : World) (K : PySem.W.Frag) (mg : Str → Option Value) (base : Heap) (lev : Nat) (k : Nat) (m : Str) (S : KSp) : Prop where
  ex : ∃ f fd ps, FnOk P w K mg base (L2.CX P w) lev f fd ps (lift S) ∧ Meth K (cl K (clsN k).1) m f ∧ Binds K fd ps []
  ck : CK K k
  no : m ∉ (clsN k).2
theorem MDef.mono {P : Program} {w : World} {K : PySem.W.Frag} {mg : Str → Option Value} {base : Heap} {lev lev' k : Nat} {m : Str} {S : KSp} (D : MDef P w K mg base lev k m S) (h : lev ≤ lev') : MDef P w K mg base lev' k m S := by
  obtain ⟨⟨f, fd, ps, F, a, b⟩, c, d⟩ := D
  exact ⟨⟨f, fd, ps, F.mono h, a, b⟩, c, d⟩
def kMeth (K : PySem.W.Frag) (tab : List (Nat × KSp)) (to : KE) (t : KA) : KE := fun σ G M R E => to σ G M (fun x G M => match x with
  | .ref a => ∃ (k : Nat) (dx : Addr) (vs : List V) (S : KSp), At G M a (Ob K k dx vs) ∧ tab.lookup k = some S ∧ t σ G M (fun ws G M => S (.ref a :: ws) G M R E) E
  | _ => False) E
theorem je_meth {pl : Sem Bool} {o e : Expr} {es : List Expr} {m : Str} {apos : Pos} {tab : List (Nat × KSp)} {k : Nat} {to : KE} {t : KA} (D : ∀ p ∈ tab, MDef X.prog X.w X.K X.mg X.base k p.1 m p.2) (hr : Room k X.A) (tk : Takes X W) (ho : JE X W o to) (ha : JA X W (e :: es) t)
    (hst : starEach (e :: es) X.env = (false, eval e X.env) :: starEach es X.env := by rfl) (hpl : (backTo pos (starEach es X.env)).any (·.1) = false := by rfl)
    (ht : eval (.Call (.Attribute o m apos) (e :: es) [] pos) X.env = (do
      let ov ← eval o X.env
      standAt apos.atName
      let (f, first) ← holding [ov] (getMethod ov m pl)
      callWith pos f first (backTo pos (starEach (e :: es) X.env)) (backToKw pos (keywordEach [] X.env))) := by rfl) :
    JE X W (.Call (.Attribute o m apos) (e :: es) [] pos) (kMeth X.K tab to t) := by
  refine ⟨fun pins s σ H Q I ⟨G, M, R, E, hv, h, hR, hE⟩ => ?_⟩
  refine PySem.W.methodCall_KW (pl := pl) (thn (ho.run pins s σ H (fun x H1 => ∃ (a k : Nat) (dx : Addr) (vs : List V) (S : KSp), x = .ref a ∧ H1 a = some (Ob X.K k dx vs) ∧ tab.lookup k = some S ∧ upG W t σ H1 fun ws H2 => lift S (.ref a :: ws) H2 Q (WE W σ)) I ?_) fun u s1 ⟨x, H1, I1, rx, a, k, dx, vs, S, ex, ea, l, q⟩ => ?_) ht
  · refine ⟨G, M, _, E, hv, h, fun x G1 M1 H1 hv1 q => ?_, hE⟩
    match x, q with
    | .ref a, ⟨k, dx, vs, S, q1, q2, q3⟩ => exact ⟨a, k, dx, vs, S, rfl, hv1.at q1, q2, G1, M1, _, E, hv1, q3, fun ws G2 M2 H2 hv2 q4 => ⟨G2, M2, R, E, hv2, q4, hR, hE⟩, hE⟩
  subst ex
  obtain rfl : u = Value.ref a := rx
  obtain ⟨⟨f, fd, ps, F, mt, hb⟩, ck, no⟩ := D (k, S) (lookup_mem l)
  refine getmeth_ok I1 ea ck.cls mt (zip_none _ _ _ no) ?_
  refine PySem.W.callWith_K (first := [.ref a]) (h₀ := X.base) I.ok.mod.kin mt.kp (thn (ha.run pos pins s1 σ H1 _ I1 q) fun us s2 ⟨vs, H2, I2, r, q2⟩ => ⟨I2.kIn, ?_⟩) hst hpl
  exact run_fnS (us := .ref a :: us) (vs := .ref a :: vs) F hr hb (passAt tk σ) I2 (.cons rfl r) q2
theorem je_meth0 {pl : Sem Bool} {o : Expr} {m : Str} {apos : Pos} {tab : List (Nat × KSp)} {k : Nat} {to : KE} (D : ∀ p ∈ tab, MDef X.prog X.w X.K X.mg X.base k p.1 m p.2) (hr : Room k X.A) (tk : Takes X W) (ho : JE X W o to)
    (ht : eval (.Call (.Attribute o m apos) [] [] pos) X.env = (do
      let ov ← eval o X.env
      standAt apos.atName
      let (f, first) ← holding [ov] (getMethod ov m pl)
      callWith pos f first (backTo pos (starEach [] X.env)) (backToKw pos (keywordEach [] X.env))) := by rfl) :
    JE X W (.Call (.Attribute o m apos) [] [] pos) (kMeth X.K tab to kNil) := by
  refine ⟨fun pins s σ H Q I ⟨G, M, R, E, hv, h, hR, hE⟩ => ?_⟩
  refine PySem.W.methodCall_KW (pl := pl) (thn (ho.run pins s σ H (fun x H1 => ∃ (a k : Nat) (dx : Addr) (vs : List V) (S : KSp), x = .ref a ∧ H1 a = some (Ob X.K k dx vs) ∧ tab.lookup k = some S ∧ lift S [.ref a] H1 Q (WE W σ)) I ?_) fun u s1 ⟨x, H1, I1, rx, a, k, dx, vs, S, ex, ea, l, q⟩ => ?_) ht
  · refine ⟨G, M, _, E, hv, h, fun x G1 M1 H1 hv1 q => ?_, hE⟩
    match x, q with
    | .ref a, ⟨k, dx, vs, S, q1, q2, q3⟩ => exact ⟨a, k, dx, vs, S, rfl, hv1.at q1, q2, G1, M1, R, E, hv1, q3, hR, hE⟩
  subst ex
  obtain rfl : u = Value.ref a := rx
  obtain ⟨⟨f, fd, ps, F, mt, hb⟩, ck, no⟩ := D (k, S) (lookup_mem l)
  refine getmeth_ok I1 ea ck.cls mt (zip_none _ _ _ no) ?_
  exact PySem.W.callWith_K0 (first := [.ref a]) I1.kIn mt.kp (run_fnS (us := [.ref a]) (vs := [.ref a]) F hr hb (passAt tk σ) I1 (.cons rfl .nil) q)
/-! C(..) -/
theorem run_makeS {CX : CXT} {k : Nat} {C f : Addr} {fd : FuncData} {ps : List Str} {sp : Sp} {E : XK} {pins : List (Addr × Obj)} {σ : St} {H : Hp} {s : Shared} {Q : VK} {us : List Value} {vs : List V} (M : Mk X.K C f) (F : FnOk X.prog X.w X.K X.mg X.base CX k f fd ps sp) (hr : Room (k + 1) X.A) (hb : Binds X.K fd ps [])
    (hx : PassesAt CX X σ E) (I : Inv X pins σ H s) (r : Vals vs us)
    (h : ∀ x dx, H x = none → H dx = none → dx ≠ x → sp (.ref x :: vs) (upd (upd H dx (.own x)) x (.ins C dx [])) (fun v H2 => v = .non ∧ Q (.ref x) H2) E) :
    wpAny (model X.prog X.w) X.A (call (.ref C) us) (EP X pins σ Q) X.xe s := by
  have hq := h (s.heap.objs.size + 1) s.heap.objs.size (I.hok.fresh (Nat.le_succ _)) (I.hok.fresh (Nat.le_refl _)) (Nat.ne_of_lt (Nat.lt_succ_self _))
  have I2 := Inv.made (C := C) I
  have r2 : Vals (V.ref (s.heap.objs.size + 1) :: vs) (Value.ref (s.heap.objs.size + 1) :: us) := .cons rfl r
  have hl : (Value.ref (s.heap.objs.size + 1) :: us ++ []).length = ps.length := by
    have e := r2.length
    rw [F.len _ _ _ _ hq] at e
    rw [List.append_nil]
    exact e.symm
  have hb2 := hb _ (Value.ref (s.heap.objs.size + 1) :: us) I2.kIn hl
  rw [List.append_nil] at hb2
  refine wpAny_call (make_map (f := f) I.kIn M.makes M.init (beq_iff_eq.mp M.fn) (codeAny_mono (F.run _ X.stack _ _ ⟨Value.ref (s.heap.objs.size + 1) :: us, []⟩ (Value.ref (s.heap.objs.size + 1) :: us) _ _ E (hr.make C us [])
    (I2.env0.make C us []) hb2 r2 hq) fun r s' hq' => ?_))
  cases r with
  | error e => exact hx pins _ _ e s' I2 hq'
  | ok fl =>
    cases fl with
    | ret u =>
      obtain ⟨v, H', I3, rv, ev, q3⟩ := I2.after hq'
      subst ev
      exact ⟨rv, ⟨V.ref (s.heap.objs.size + 1), H', I3, rfl, q3⟩⟩
    | next => exact False.elim hq'
    | brk => exact False.elim hq'
    | cont => exact False.elim hq'
structure CDef (P : Program) (w : World) (K : PySem.W.Frag) (mg : Str → Option Value) (base : Heap) (lev : Nat) (k : Nat) (x : Str) (S : KSp) : Prop where
  ex : ∃ f fd ps, FnOk P w K mg base (L2.CX P w) lev f fd ps (lift S) ∧ Mk K (cl K (clsN k).1) f ∧ Binds K fd ps []
  g : mg x = some (.ref (cl K (clsN k).1))
def kMake (K : PySem.W.Frag) (k : Nat) (S : KSp) (t : KA) : KE := fun σ G M R E => t σ G M (fun vs G M => ∀ x dx, Fr G M x → S (.ref x :: vs) G ((x, Ob K k dx []) :: M) (fun v G M => v = .non ∧ R (.ref x) G M) E) E
theorem ob_nil {K : PySem.W.Frag} {k : Nat} {dx : Addr} : Ob K k dx [] = .ins (cl K (clsN k).1) dx [] := by unfold Ob; rw [List.zip_nil_right]
theorem make_sim {k : Nat} {S : KSp} {σ : St} {vs : List V} {G : Hp} {M : Mem} {R : KR} {E : KX} {H : Hp} {Q : VK} (hv : Hv G M H) (q : ∀ x dx, Fr G M x → S (.ref x :: vs) G ((x, Ob X.K k dx []) :: M) (fun v G M => v = .non ∧ R (.ref x) G M) E)
    (hR : ∀ v G' M' H', Hv G' M' H' → R v G' M' → Q v H') (hE : ∀ c d G' M' H', Hv G' M' H' → E c d G' M' → W c d σ H') (x dx : Addr) (hx : H x = none) (hd : H dx = none) (hne : dx ≠ x) :
    lift S (.ref x :: vs) (upd (upd H dx (.own x)) x (.ins (cl X.K (clsN k).1) dx [])) (fun v H2 => v = .non ∧ Q (.ref x) H2) (WE W σ) := by
  have h1 : Hv G M (upd H dx (.own x)) := hv.junk hd
  have h2 : (upd H dx (.own x)) x = none := by rw [upd_ne (Ne.symm hne)]; exact hx
  refine ⟨G, _, fun v G M => v = .non ∧ R (.ref x) G M, E, h1.newM (o := .ins (cl X.K (clsN k).1) dx []) h2, by rw [← ob_nil]; exact q x dx (hv.fr hx), fun v G' M' H' hv' q => ⟨q.1, hR _ G' M' H' hv' q.2⟩, fun c d G' M' H' hv' q => hE c d G' M' H' hv' q⟩
theorem je_make {k lev cid : Nat} {x : Str} {p : Pos} {e : Expr} {es : List Expr} {S : KSp} {t : KA} (D : CDef X.prog X.w X.K X.mg X.base lev cid x S) (hk : PySem.W.keepIn X.K (.ref (cl X.K (clsN cid).1)) = true) (hr : Room k X.A) (tk : Takes X W) (ha : JA X W (e :: es) t) (hl : lev + 1 ≤ k := by decide) (hg : Gl X x := by rfl)
    (hdb : (x == ("__debug__" : Str)) = false := by decide) (he : starEach (e :: es) X.env = (false, eval e X.env) :: starEach es X.env := by rfl) (hpl : (backTo pos (starEach es X.env)).any (·.1) = false := by rfl) :
    JE X W (.Call (.Name x p) (e :: es) [] pos) (kMake X.K cid S t) := by
  obtain ⟨⟨f, fd, ps, F, mk, hb⟩, hm⟩ := D
  obtain ⟨k', rfl⟩ : ∃ k', k = k' + 1 := ⟨k - 1, by omega⟩
  refine ⟨fun pins s σ H Q I ⟨G, M, R, E, hv, h, hR, hE⟩ => ?_⟩
  refine wpAny_Call_Name_kw (ld_glob I hg hm ?_ hdb)
  refine PySem.W.callWith_K (h₀ := X.base) I.ok.mod.kin hk (thn (ha.run pos pins s σ H (fun vs H1 => ∀ x dx, H1 x = none → H1 dx = none → dx ≠ x → lift S (.ref x :: vs) (upd (upd H1 dx (.own x)) x (.ins (cl X.K (clsN cid).1) dx [])) (fun v H2 => v = .non ∧ Q (.ref x) H2) (WE W σ)) I ?_) fun us s1 ⟨vs, H1, I1, r, q⟩ => ⟨I1.kIn, ?_⟩) he hpl
  · exact ⟨G, M, _, E, hv, h, fun vs G1 M1 H1 hv1 q x dx hx hd hne => make_sim hv1 q hR hE x dx hx hd hne, hE⟩
  · exact run_makeS mk (F.mono (by omega)) hr hb (passAt tk σ) I1 r q
theorem je_make0 {k lev cid : Nat} {x : Str} {p : Pos} {S : KSp} (D : CDef X.prog X.w X.K X.mg X.base lev cid x S) (hk : PySem.W.keepIn X.K (.ref (cl X.K (clsN cid).1)) = true) (hr : Room k X.A) (tk : Takes X W) (hl : lev + 1 ≤ k := by decide) (hg : Gl X x := by rfl)
    (hdb : (x == ("__debug__" : Str)) = false := by decide) : JE X W (.Call (.Name x p) [] [] pos) (kMake X.K cid S kNil) := by
  obtain ⟨⟨f, fd, ps, F, mk, hb⟩, hm⟩ := D
  obtain ⟨k', rfl⟩ : ∃ k', k = k' + 1 := ⟨k - 1, by omega⟩
  refine ⟨fun pins s σ H Q I ⟨G, M, R, E, hv, h, hR, hE⟩ => ?_⟩
  refine wpAny_Call_Name_kw (ld_glob I hg hm ?_ hdb)
  refine PySem.W.callWith_K0 I.kIn hk (run_makeS (us := []) (vs := []) mk (F.mono (by omega)) hr hb (passAt tk σ) I .nil fun x dx hx hd hne => make_sim hv h hR hE x dx hx hd hne)
/-! C.m(self, ..), m a def of the class C -/
structure FDef (P : Program) (w : World) (K : PySem.W.Frag) (mg : Str → Option Value) (base : Heap) (lev : Nat) (x m : Str) (S : KSp) : Prop where
  ex : ∃ f fd ps, FnOk P w K mg base (L2.CX P w) lev f fd ps (lift S) ∧ PySem.W.findCls K (.ref (cl K x)) (.type "type") m = some (.val (.ref f)) ∧ Binds K fd ps [] ∧ PySem.W.keepIn K (.ref f) = true
  g : mg x = some (.ref (cl K x))
  rd : PySem.W.readsIn K (cl K x) (.type "type") = true
  ga : PySem.W.specialIn K (.ref (cl K x)) "__getattribute__" = some (some (.builtin "type.__getattribute__"))
theorem je_clsCall {pl : Sem Bool} {k lev : Nat} {x m : Str} {p apos : Pos} {e : Expr} {es : List Expr} {S : KSp} {t : KA} (D : FDef X.prog X.w X.K X.mg X.base lev x m S) (hr : Room k X.A) (tk : Takes X W) (ha : JA X W (e :: es) t) (hl : lev ≤ k := by decide) (hg : Gl X x := by rfl)
    (hdb : (x == ("__debug__" : Str)) = false := by decide) (hst : starEach (e :: es) X.env = (false, eval e X.env) :: starEach es X.env := by rfl) (hpl : (backTo pos (starEach es X.env)).any (·.1) = false := by rfl)
    (ht : eval (.Call (.Attribute (.Name x p) m apos) (e :: es) [] pos) X.env = (do
      let ov ← eval (.Name x p) X.env
      standAt apos.atName
      let (f, first) ← holding [ov] (getMethod ov m pl)
      callWith pos f first (backTo pos (starEach (e :: es) X.env)) (backToKw pos (keywordEach [] X.env))) := by rfl) :
    JE X W (.Call (.Attribute (.Name x p) m apos) (e :: es) [] pos) (kCall S t) := by
  obtain ⟨⟨f, fd, ps, F, hf, hb, hkp⟩, hm, rd, ga⟩ := D
  refine ⟨fun pins s σ H Q I ⟨G, M, R, E, hv, h, hR, hE⟩ => ?_⟩
  refine PySem.W.methodCall_KW (pl := pl) (ld_glob I hg hm ?_ hdb) ht
  refine PySem.W.method_cls I.kIn ga (PySem.W.cls_value I.kIn rd hf rfl ?_)
  refine PySem.W.callWith_K (first := []) (h₀ := X.base) I.ok.mod.kin hkp (thn (ha.run pos pins _ σ H (fun vs H1 => lift S vs H1 Q (WE W σ)) (I.tok _) ?_) fun us s2 ⟨vs, H2, I2, r, q2⟩ => ⟨I2.kIn, ?_⟩) hst hpl
  · exact ⟨G, M, _, E, hv, h, fun vs G1 M1 H1 hv1 q => ⟨G1, M1, R, E, hv1, q, hR, hE⟩, hE⟩
  · exact run_fnS (us := us) (vs := vs) (F.mono hl) hr hb (passAt tk σ) I2 r q2
end
end BT
namespace BT
open PySem PySem.Spec L2
open PyProof.Rows hiding St
section
variable {P : Program} {w : World} {K : PySem.W.Frag} {mg : Str → Option Value} {base : Heap} {k lev : Nat} {C f : Addr} {fd : FuncData} {ps : List Str} {S : KSp} {x m : Str}
theorem ck_mk (a : PySem.W.nsIn K mainGlobals (clsN k).1 = some (some (.ref C))) (h1 : PySem.W.plainGet K C Str.empty = true) (h2 : PySem.W.hasDictIn K C = true) (h3 : PySem.W.plainOver K C = true)
    (h4 : PySem.W.findIn K (.ref C) "__setattr__" = some (some (.builtin "object.__setattr__"))) (h5 : ∀ f ∈ (clsN k).2, PySem.W.findIn K (.ref C) f = some none) : CK K k := by
  have e := cl_of a
  exact ⟨by rw [e]; exact ⟨h1, h2, h3, h4⟩, by rw [e]; exact h5⟩
theorem keep_mk (a : PySem.W.nsIn K mainGlobals (clsN k).1 = some (some (.ref C))) (h : PySem.W.keepIn K (.ref C) = true) : PySem.W.keepIn K (.ref (cl K (clsN k).1)) = true := by
  rw [cl_of a]; exact h
theorem cd_mk (hx : (clsN k).1 = x) (a : PySem.W.nsIn K mainGlobals (clsN k).1 = some (some (.ref C))) (g : mg x = some (.ref C)) (F : FnOk P w K mg base (L2.CX P w) lev f fd ps (lift S)) (h1 : PySem.W.makesIn K C = true) (h2 : PySem.W.findIn K (.ref C) "__init__" = some (some (.ref f)))
    (h3 : PySem.W.isFn K (.ref f) = true) (h4 : PySem.W.keepIn K (.ref C) = true) (b : Binds K fd ps []) : CDef P w K mg base lev k x S := by
  have e := cl_of a
  exact ⟨⟨f, fd, ps, F, by rw [e]; exact ⟨h1, h2, h3, h4⟩, b⟩, by rw [e]; exact g⟩
theorem md_mk (a : PySem.W.nsIn K mainGlobals (clsN k).1 = some (some (.ref C))) (F : FnOk P w K mg base (L2.CX P w) lev f fd ps (lift S)) (h1 : PySem.W.findIn K (.ref C) m = some (some (.ref f))) (h2 : PySem.W.isFn K (.ref f) = true) (h3 : PySem.W.keepIn K (.ref f) = true) (b : Binds K fd ps [])
    (ck : CK K k) (no : m ∉ (clsN k).2) : MDef P w K mg base lev k m S := by
  have e := cl_of a
  exact ⟨⟨f, fd, ps, F, by rw [e]; exact ⟨h1, h2, h3⟩, b⟩, ck, no⟩
theorem fd_mk (a : PySem.W.nsIn K mainGlobals x = some (some (.ref C))) (g : mg x = some (.ref C)) (F : FnOk P w K mg base (L2.CX P w) lev f fd ps (lift S)) (h1 : PySem.W.findCls K (.ref C) (.type "type") m = some (.val (.ref f))) (b : Binds K fd ps []) (h2 : PySem.W.keepIn K (.ref f) = true)
    (h3 : PySem.W.readsIn K C (.type "type") = true) (h4 : PySem.W.specialIn K (.ref C) "__getattribute__" = some (some (.builtin "type.__getattribute__"))) : FDef P w K mg base lev x m S := by
  have e := cl_of a
  exact ⟨⟨f, fd, ps, F, by rw [e]; exact h1, b, h2⟩, by rw [e]; exact g, by rw [e]; exact h3, by rw [e]; exact h4⟩
end
end BT
set_option Elab.async false
set_option linter.all false
set_option maxRecDepth 100000
set_option maxHeartbeats 4000000
namespace BT
open PySem PySem.Spec L2
open PyProof.Rows hiding St
/-! ### dicts whose keys are ints and texts -/
section
variable {X : Cx} {W : WX} {pos : Pos} {o i e f : Expr}
def kDIn (neg : Bool) (ty td : KE) : KE := fun σ G M R E => ty σ G M (fun y G M => td σ G M (fun x G M => match x with
  | .ref a => ∃ (kvs : List (Key × V)) (k : Key), At G M a (.dK kvs) ∧ y = kV k ∧ R (.bl (if neg then !(valV kvs k).isSome else (valV kvs k).isSome)) G M
  | _ => False) E) E
theorem din_sim {ty td : KE} {σ : St} {H : Hp} {Q : VK} (h : upG W (kDIn false ty td) σ H Q) : tDIn (upG W ty) (upG W td) σ H Q := by
  obtain ⟨G, M, R, E, hv, h, hR, hE⟩ := h
  exact ⟨G, M, _, E, hv, h, fun y G1 M1 H1 hv1 q1 => ⟨G1, M1, _, E, hv1, q1, fun x G2 M2 H2 hv2 q2 => by
    match x, q2 with
    | .ref a, ⟨kvs, k, q3, q4, q5⟩ => subst q4; exact ⟨a, _, rfl, DGet.k (hv2.at q3), hR _ G2 M2 H2 hv2 q5⟩, hE⟩, hE⟩
theorem dnotin_sim {ty td : KE} {σ : St} {H : Hp} {Q : VK} (h : upG W (kDIn true ty td) σ H Q) : tDNotIn (upG W ty) (upG W td) σ H Q := by
  obtain ⟨G, M, R, E, hv, h, hR, hE⟩ := h
  exact ⟨G, M, _, E, hv, h, fun y G1 M1 H1 hv1 q1 => ⟨G1, M1, _, E, hv1, q1, fun x G2 M2 H2 hv2 q2 => by
    match x, q2 with
    | .ref a, ⟨kvs, k, q3, q4, q5⟩ => subst q4; exact ⟨a, _, rfl, DGet.k (hv2.at q3), hR _ G2 M2 H2 hv2 q5⟩, hE⟩, hE⟩
theorem je_din {ty td : KE} (hu : X.A.units + 64 < cLine) (hi : JE X W i ty) (ho : JE X W o td) (hm : behindInMarks .In o = false := by first | rfl | with_unfolding_all rfl) : JE X W (.Compare i [.In] [o] pos) (kDIn false ty td) := pe_mono (pe_cmp (pc_din (by omega) hi ho) hm) fun _ _ _ h => din_sim h
theorem jt_din {ty td : KE} (hu : X.A.units + 64 < cLine) (hi : JE X W i ty) (ho : JE X W o td) (hm : behindInMarks .In o = false := by first | rfl | with_unfolding_all rfl) : JT X W (.Compare i [.In] [o] pos) (kT (kDIn false ty td)) := pt_mono (pt_cmp (pc_din (by omega) hi ho) hm) fun _ _ _ h => din_sim (t_sim h)
theorem je_dnotin {ty td : KE} (hu : X.A.units + 64 < cLine) (hi : JE X W i ty) (ho : JE X W o td) (hm : behindInMarks .NotIn o = false := by first | rfl | with_unfolding_all rfl) : JE X W (.Compare i [.NotIn] [o] pos) (kDIn true ty td) := pe_mono (pe_cmp (pc_dnotin (by omega) hi ho) hm) fun _ _ _ h => dnotin_sim h
theorem jt_dnotin {ty td : KE} (hu : X.A.units + 64 < cLine) (hi : JE X W i ty) (ho : JE X W o td) (hm : behindInMarks .NotIn o = false := by first | rfl | with_unfolding_all rfl) : JT X W (.Compare i [.NotIn] [o] pos) (kT (kDIn true ty td)) := pt_mono (pt_cmp (pc_dnotin (by omega) hi ho) hm) fun _ _ _ h => dnotin_sim (t_sim h)
/-- d[k] -/
def kDGet : KR2 := fun x y G M R => match x with
  | .ref a => ∃ (kvs : List (Key × V)) (k : Key) (v : V), At G M a (.dK kvs) ∧ y = kV k ∧ valV kvs k = some v ∧ R v G M
  | _ => False
theorem je_dget {ta tb : KE} (hu : X.A.units + 64 < cLine) (ha : JE X W o ta) (hb : JE X W i tb) (hs : NoSl i := by exact fun _ _ => rfl) : JE X W (.Subscript o i pos) (kBin kDGet ta tb) :=
  pe_mono (pe_dget (by omega) ha hb hs) fun σ H Q ⟨G, M, R, E, hv, h, hR, hE⟩ => ⟨G, M, _, E, hv, h, fun x G1 M1 H1 hv1 q1 => ⟨G1, M1, _, E, hv1, q1, fun y G2 M2 H2 hv2 q2 => by
    match x, q2 with
    | .ref a, ⟨kvs, k, v, q3, q4, q5, q6⟩ =>
      subst q4
      refine ⟨a, v, rfl, ?_, hR _ G2 M2 H2 hv2 q6⟩
      rw [← q5]; exact DGet.k (hv2.at q3), hE⟩, hE⟩
/-- d[k] = v -/
def kDSet (td ty tv : KE) : KS := fun D σ G M => tv σ G M (fun v G M => td σ G M (fun x G M => ty σ G M (fun y G M => match x with
  | .ref a => ∃ (n : Nat) (kvs : List (Key × V)) (k : Key), M[n]? = some (a, .dK kvs) ∧ y = kV k ∧ kvs.length < sizeLine ∧ D.nx σ G (M.set n (a, .dK (putK kvs k v)))
  | _ => False) (D.x σ)) (D.x σ)) (D.x σ)
theorem js_dset {td ty tv : KE} {value : Expr} {pos' : Pos} (hu : X.A.units + 64 < cLine) (ho : JE X W o td) (hi : JE X W i ty) (hv : JE X W value tv) (hs : swapsWith value (some (.Subscript o i pos')) pos.line X.env = pure false := by rfl) :
    JS X W (.Assign [.Subscript o i pos'] value pos) (kDSet td ty tv) := ps_mono (ps_dput (by omega) ho hi hv hs) fun D σ H ⟨G, M, d, hv, h, en⟩ =>
  ⟨G, M, _, _, hv, h, fun v G1 M1 H1 hv1 q => ⟨G1, M1, _, _, hv1, q, fun x G2 M2 H2 hv2 q2 => ⟨G2, M2, _, _, hv2, q2, fun y G3 M3 H3 hv3 q3 => by
    match x, q3 with
    | .ref a, ⟨n, kvs, k, q4, q5, q6, q7⟩ => subst q5; exact ⟨a, _, rfl, DPut.k (hv3.get q4) q6, en.nx _ G3 _ _ (hv3.set q4) q7⟩, fun c a G' M' H' hv' q => en.xc c a σ G' M' H' hv' q⟩, fun c a G' M' H' hv' q => en.xc c a σ G' M' H' hv' q⟩, fun c a G' M' H' hv' q => en.xc c a σ G' M' H' hv' q⟩
/-- d.get(k, x), d.get(k) -/
def kDGet2 (td ty tx : KE) : KE := fun σ G M R E => td σ G M (fun x G M => match x with
  | .ref a => (∃ kvs, At G M a (.dK kvs)) ∧ ty σ G M (fun y G M => tx σ G M (fun z G M => ∃ (kvs : List (Key × V)) (k : Key), At G M a (.dK kvs) ∧ y = kV k ∧ R ((valV kvs k).getD z) G M) E) E
  | _ => False) E
theorem je_dget2 {td ty tx : KE} {apos cpos : Pos} (hu : X.A.units + 64 < cLine) (ho : JE X W o td) (he : JE X W e ty) (hf : JE X W f tx) (m : M2 X o "get" apos e f cpos := by exact ⟨rfl, rfl, rfl, rfl⟩) : JE X W (.Call (.Attribute o "get" apos) [e, f] [] cpos) (kDGet2 td ty tx) :=
  pe_mono (pe_dget2 (by omega) ho he hf m) fun σ H Q ⟨G, M, R, E, hv, h, hR, hE⟩ => ⟨G, M, _, E, hv, h, fun x G1 M1 H1 hv1 q1 => by
    match x, q1 with
    | .ref a, ⟨⟨kvs, q2⟩, q3⟩ => exact ⟨a, rfl, .inl ⟨kvs, .inl (hv1.at q2)⟩, G1, M1, _, E, hv1, q3, fun y G2 M2 H2 hv2 q4 => ⟨G2, M2, _, E, hv2, q4, fun z G3 M3 H3 hv3 q5 => by
        obtain ⟨kvs, k, q6, q7, q8⟩ := q5
        subst q7
        exact ⟨_, DGet.k (hv3.at q6), hR _ G3 M3 H3 hv3 q8⟩, hE⟩, hE⟩, hE⟩
def kDGet1 (td ty : KE) : KE := fun σ G M R E => td σ G M (fun x G M => match x with
  | .ref a => (∃ kvs, At G M a (.dK kvs)) ∧ ty σ G M (fun y G M => ∃ (kvs : List (Key × V)) (k : Key), At G M a (.dK kvs) ∧ y = kV k ∧ R ((valV kvs k).getD .non) G M) E
  | _ => False) E
theorem je_dget1 {td ty : KE} {apos cpos : Pos} (hu : X.A.units + 64 < cLine) (ho : JE X W o td) (he : JE X W e ty) (m : M1 X o "get" apos e cpos := by exact ⟨rfl, rfl, rfl, rfl⟩) : JE X W (.Call (.Attribute o "get" apos) [e] [] cpos) (kDGet1 td ty) :=
  pe_mono (pe_dget1 (by omega) ho he m) fun σ H Q ⟨G, M, R, E, hv, h, hR, hE⟩ => ⟨G, M, _, E, hv, h, fun x G1 M1 H1 hv1 q1 => by
    match x, q1 with
    | .ref a, ⟨⟨kvs, q2⟩, q3⟩ => exact ⟨a, rfl, .inl ⟨kvs, .inl (hv1.at q2)⟩, G1, M1, _, E, hv1, q3, fun y G2 M2 H2 hv2 q5 => by
        obtain ⟨kvs, k, q6, q7, q8⟩ := q5
        subst q7
        exact ⟨_, DGet.k (hv2.at q6), hR _ G2 M2 H2 hv2 q8⟩, hE⟩, hE⟩
/-- d.pop(k, x), d.pop(k) -/
def kDPop2 (td ty tx : KE) : KE := fun σ G M R E => td σ G M (fun x G M => match x with
  | .ref a => (∃ kvs, At G M a (.dK kvs)) ∧ ty σ G M (fun y G M => tx σ G M (fun z G M => ∃ (n : Nat) (kvs : List (Key × V)) (k : Key), M[n]? = some (a, .dK kvs) ∧ y = kV k ∧ (∀ v, valV kvs k = some v → R v G (M.set n (a, .dK (dropK kvs k)))) ∧ (valV kvs k = none → R z G M)) E) E
  | _ => False) E
theorem je_dpop2 {td ty tx : KE} {apos cpos : Pos} (ho : JE X W o td) (he : JE X W e ty) (hf : JE X W f tx) (m : M2 X o "pop" apos e f cpos := by exact ⟨rfl, rfl, rfl, rfl⟩) : JE X W (.Call (.Attribute o "pop" apos) [e, f] [] cpos) (kDPop2 td ty tx) :=
  pe_mono (pe_dpop2 ho he hf m) fun σ H Q ⟨G, M, R, E, hv, h, hR, hE⟩ => ⟨G, M, _, E, hv, h, fun x G1 M1 H1 hv1 q1 => by
    match x, q1 with
    | .ref a, ⟨⟨kvs, q2⟩, q3⟩ => exact ⟨a, rfl, .inl ⟨kvs, .inl (hv1.at q2)⟩, G1, M1, _, E, hv1, q3, fun y G2 M2 H2 hv2 q4 => ⟨G2, M2, _, E, hv2, q4, fun z G3 M3 H3 hv3 q5 => by
        obtain ⟨n, kvs, k, q6, q7, q8, q9⟩ := q5
        exact ⟨kvs, k, hv3.get q6, q7, fun v hv => hR _ G3 _ _ (hv3.set q6) (q8 v hv), fun hv => hR _ G3 M3 H3 hv3 (q9 hv)⟩, hE⟩, hE⟩, hE⟩
def kDPop1 (td ty : KE) : KE := fun σ G M R E => td σ G M (fun x G M => match x with
  | .ref a => (∃ kvs, At G M a (.dK kvs)) ∧ ty σ G M (fun y G M => ∃ (n : Nat) (kvs : List (Key × V)) (k : Key) (v : V), M[n]? = some (a, .dK kvs) ∧ y = kV k ∧ valV kvs k = some v ∧ R v G (M.set n (a, .dK (dropK kvs k)))) E
  | _ => False) E
theorem je_dpop1 {td ty : KE} {apos cpos : Pos} (ho : JE X W o td) (he : JE X W e ty) (m : M1 X o "pop" apos e cpos := by exact ⟨rfl, rfl, rfl, rfl⟩) : JE X W (.Call (.Attribute o "pop" apos) [e] [] cpos) (kDPop1 td ty) :=
  pe_mono (pe_dpop1 ho he m) fun σ H Q ⟨G, M, R, E, hv, h, hR, hE⟩ => ⟨G, M, _, E, hv, h, fun x G1 M1 H1 hv1 q1 => by
    match x, q1 with
    | .ref a, ⟨⟨kvs, q2⟩, q3⟩ => exact ⟨a, rfl, .inl ⟨kvs, .inl (hv1.at q2)⟩, G1, M1, _, E, hv1, q3, fun y G2 M2 H2 hv2 q5 => by
        obtain ⟨n, kvs, k, v, q6, q7, q8, q9⟩ := q5
        exact ⟨kvs, k, v, hv2.get q6, q7, q8, hR _ G2 _ _ (hv2.set q6) q9⟩, hE⟩, hE⟩
/-- d.setdefault(k, x) -/
def kDSetd (td ty tx : KE) : KE := fun σ G M R E => td σ G M (fun x G M => match x with
  | .ref a => (∃ kvs, At G M a (.dK kvs)) ∧ ty σ G M (fun y G M => tx σ G M (fun z G M => ∃ (n : Nat) (kvs : List (Key × V)) (k : Key), M[n]? = some (a, .dK kvs) ∧ y = kV k ∧ kvs.length < sizeLine ∧ (∀ v, valV kvs k = some v → R v G M) ∧ (valV kvs k = none → R z G (M.set n (a, .dK (putK kvs k z))))) E) E
  | _ => False) E
theorem je_dsetd {td ty tx : KE} {apos cpos : Pos} (ho : JE X W o td) (he : JE X W e ty) (hf : JE X W f tx) (m : M2 X o "setdefault" apos e f cpos := by exact ⟨rfl, rfl, rfl, rfl⟩) : JE X W (.Call (.Attribute o "setdefault" apos) [e, f] [] cpos) (kDSetd td ty tx) :=
  pe_mono (pe_dsetd ho he hf m) fun σ H Q ⟨G, M, R, E, hv, h, hR, hE⟩ => ⟨G, M, _, E, hv, h, fun x G1 M1 H1 hv1 q1 => by
    match x, q1 with
    | .ref a, ⟨⟨kvs, q2⟩, q3⟩ => exact ⟨a, rfl, .inl ⟨kvs, .inl (hv1.at q2)⟩, G1, M1, _, E, hv1, q3, fun y G2 M2 H2 hv2 q4 => ⟨G2, M2, _, E, hv2, q4, fun z G3 M3 H3 hv3 q5 => by
        obtain ⟨n, kvs, k, q6, q7, q8, q9, q10⟩ := q5
        exact ⟨kvs, k, hv3.get q6, q7, q8, fun v hv => hR _ G3 M3 H3 hv3 (q9 v hv), fun hv => hR _ G3 _ _ (hv3.set q6) (q10 hv)⟩, hE⟩, hE⟩, hE⟩
/-- sorted(d), list(d), len(d) -/
def kSortedD : KC := fun vs G M R => match vs with
  | [.ref a] => ∃ (kvs : List (Key × V)) (ks : List Int), At G M a (.dK kvs) ∧ kvs.map (·.1) = ks.map Sum.inl ∧ ks.length < 64 ∧ ∀ (ys : List Int) (p : Addr), ys.Perm ks → ys.Pairwise (· ≤ ·) → Fr G M p → R (.ref p) G ((p, .lst (ys.map V.int)) :: M)
  | _ => False
theorem kc_sortedD (hc : X.calm = true := by rfl) : KCall X (.builtin "sorted") kSortedD := kcall_of (call_sortedDI hc) fun vs G M R H Q hv h hR => by
  match vs, h with
  | [.ref a], ⟨kvs, ks, h1, h2, h3, h4⟩ => exact ⟨a, kvs, ks, rfl, .inl (hv.at h1), h2, h3, fun ys p q1 q2 q3 => hR _ G _ _ (hv.newM q3) (h4 ys p q1 q2 (hv.fr q3))⟩
def kListD : KC := fun vs G M R => match vs with
  | [.ref a] => ∃ kvs : List (Key × V), At G M a (.dK kvs) ∧ ∀ p, Fr G M p → R (.ref p) G ((p, .lst (kvs.map fun kv => kV kv.1)) :: M)
  | _ => False
theorem kc_listD (hc : X.calm = true := by rfl) : KCall X (.type "list") kListD := kcall_of (call_listD hc) fun vs G M R H Q hv h hR => by
  match vs, h with
  | [.ref a], ⟨kvs, h1, h2⟩ => exact ⟨a, kvs, rfl, .inl (hv.at h1), fun p q3 => hR _ G _ _ (hv.newM q3) (h2 p (hv.fr q3))⟩
def kLenD : KC := fun vs G M R => match vs with
  | [.ref a] => ∃ kvs : List (Key × V), At G M a (.dK kvs) ∧ R (.int kvs.length) G M
  | _ => False
theorem kc_lenD : KCall X (.builtin "len") kLenD := kcall_of call_lenD fun vs G M R H Q hv h hR => by
  match vs, h with
  | [.ref a], ⟨kvs, h1, h2⟩ => exact ⟨a, kvs, rfl, hv.at h1, hR _ G M H hv h2⟩
/-- x, y = a, b, two local names -/
def kPar (i j : Nat) (t : KA) : KS := fun D σ G M => t σ G M (fun vs G M => match vs with
  | [v, w] => D.nx ((σ.set i (some v)).set j (some w)) G M
  | _ => False) (D.x σ)
theorem js_par {i j : Nat} {x y : Str} {a b : Expr} {ta : KA} {px py pt : Pos} {kt k2 pt2} (hN : X.N.Nodup) (ha : JA X W [a, b] ta) (hc : X.calm = true := by rfl) (hi : X.N[i]? = some x := by rfl) (hj : X.N[j]? = some y := by rfl) (hij : i ≠ j := by decide)
    (hx : X.env.scope.names.lookup x = some .local := by rfl) (hy : X.env.scope.names.lookup y = some .local := by rfl)
    (hw : swappedStores [.Tuple [.Name x px, .Name y py] kt pt] (.Tuple [a, b] k2 pt2) X.env = pure (some [x, y]) := by rfl)
    (hs : swapsWithSole [.Tuple [.Name x px, .Name y py] kt pt] (.Tuple [a, b] k2 pt2) pos.line X.env = pure false := by rfl) :
    JS X W (.Assign [.Tuple [.Name x px, .Name y py] kt pt] (.Tuple [a, b] k2 pt2) pos) (kPar i j ta) :=
  ps_mono (ps_par hc hN hi hj hij hx hy ha hw hs) fun D σ H ⟨G, M, d, hv, h, en⟩ => ⟨G, M, _, _, hv, h, fun vs G1 M1 H1 hv1 q => by
    match vs, q with
    | [v, w], q => exact ⟨v, w, rfl, en.nx _ G1 M1 H1 hv1 q⟩, fun c a G' M' H' hv' q => en.xc c a σ G' M' H' hv' q⟩
end
end BT
set_option Elab.async false
set_option linter.all false
set_option maxRecDepth 100000
set_option maxHeartbeats 4000000
namespace BT
open PySem PySem.Spec L2
open PyProof.Rows hiding St
/-! ### slices and sums of tuples, unpacked lists -/
section
variable {X : Cx} {W : WX} {pos : Pos} {o i e f : Expr}
/-- a tuple's slice; the whole of it is the tuple itself -/
def cutT (K : PySem.W.Frag) (x : V) (lo hi : Option Int) (G : Hp) (M : Mem) (R : KR) : Prop := match x with
  | .ref a => ∃ xs, SqT K G a xs ∧ (HT.sIx xs.length 0 lo = 0 ∧ HT.sIx xs.length xs.length hi = xs.length → R (.ref a) G M) ∧ (¬ (HT.sIx xs.length 0 lo = 0 ∧ HT.sIx xs.length xs.length hi = xs.length) → ∀ p, Fr G M p → R (.ref p) (upd G p (.tup (cutV xs lo hi))) M)
  | _ => False
def kSlT (K : PySem.W.Frag) (t : KE) (tl th : KO) : KE := fun σ G M R E => t σ G M (fun x G M => tl σ G M (fun l G M => th σ G M (fun u G M => cutT K x l u G M R) E) E) E
theorem je_slT {t : KE} {lo hi : Option Expr} {tl th : KO} {p2 : Pos} (he : JE X W e t) (hl : JO X W lo tl) (hu : JO X W hi th) : JE X W (.Subscript e (.Slice lo hi none p2) pos) (kSlT X.K t tl th) :=
  pe_mono (pe_slice sl_tupA he hl hu) fun σ H Q ⟨G, M, R, E, hv, h, hR, hE⟩ => ⟨G, M, _, E, hv, h, fun x G1 M1 H1 hv1 h1 => ⟨G1, M1, _, E, hv1, h1, fun l G2 M2 H2 hv2 h2 => ⟨G2, M2, _, E, hv2, h2, fun u G3 M3 H3 hv3 h3 => by
    match x, h3 with
    | .ref a, ⟨xs, q1, q2, q3⟩ => exact ⟨_, xs, rfl, hv3.tup q1, fun z => hR _ G3 M3 H3 hv3 (q2 z), fun z p hp => hR _ _ _ _ (hv3.newG hp) (q3 z p (hv3.fr hp))⟩, hE⟩, hE⟩, hE⟩
/-- (a, b, ..) = a list of that length -/
def kgUnl (K : PySem.W.Frag) (n : Nat) (g : KGs) : KG := ⟨fun v σ G M R => match v with
    | .ref a => ∃ xs, LstAt K G M a xs ∧ onLen n g xs σ G M R
    | _ => False, fun _ _ _ _ _ => False⟩
theorem jg_unl {K : PySem.W.Frag} {ts : List Expr} {g : KGs} {gs : TGs} {n k : Nat} (hc : X.calm = true) (h : JGs X ts g gs) (hK : X.K = K := by rfl) (hn : (assignEach ts X.env).length = n := by rfl) (hst : (assignEach ts X.env).findIdx? (·.1) = none := by rfl) :
    JG X (.Tuple ts k pos) (kgUnl K n g) (gUnl K n gs) := by
  subst hK
  exact ⟨pg_unl hc h.pgs hn hst, fun v σ G M R H Q hv q hR => by
    match v, q with
    | .ref a, ⟨xs, q1, q2⟩ =>
      obtain ⟨e, q3⟩ := onLen_of q2
      exact ⟨a, xs, rfl, hv.lst q1, e, h.sim xs σ G M R H Q hv q3 hR⟩,
   fun T vs σ G M R H Q hv hT q hR => q.elim⟩
/-- the sum of two tuples -/
def kCat (K : PySem.W.Frag) : KR2 := fun x y G M R => match x, y with
  | .ref a, .ref b => ∃ xs ys, SqT K G a xs ∧ SqT K G b ys ∧ xs.length + ys.length ≤ sizeLine ∧ (xs = [] → R (.ref b) G M) ∧ (xs ≠ [] → ys = [] → R (.ref a) G M) ∧ (xs ≠ [] → ys ≠ [] → ∀ p, Fr G M p → R (.ref p) (upd G p (.tup (xs ++ ys))) M)
  | _, _ => False
theorem kop_cat : KOp X (binaryOp .Add) (kCat X.K) := kop_of op_catA fun x y G M R H Q hv h hR => by
  match x, y, h with
  | .ref a, .ref b, ⟨xs, ys, h1, h2, h3, h4, h5, h6⟩ => exact ⟨a, b, xs, ys, rfl, rfl, hv.tup h1, hv.tup h2, h3, fun z => hR _ G M H hv (h4 z), fun z w => hR _ G M H hv (h5 z w), fun z w p hp => hR _ _ _ _ (hv.newG hp) (h6 z w p (hv.fr hp))⟩
end
end BT
set_option Elab.async false
set_option linter.all false
set_option maxRecDepth 100000
set_option maxHeartbeats 4000000
namespace BT
open PySem PySem.Spec L2
open PyProof.Rows hiding St
/-! ### isinstance(err, (C, D, ..)); except C without a name -/
def orTab (a b : List (Str × Bool)) : List (Str × Bool) := a.zipWith (fun p q => (p.1, p.2 || q.2)) b
theorem orTab_mem : ∀ {a b : List (Str × Bool)}, a.map (·.1) = b.map (·.1) → ∀ p, p ∈ orTab a b → ∃ x y, (p.1, x) ∈ a ∧ (p.1, y) ∈ b ∧ p.2 = (x || y)
  | [], _, _, p, h => by simp [orTab] at h
  | _ :: _, [], _, p, h => by simp [orTab] at h
  | u :: a, v :: b, e, p, h => by
    have e1 : u.1 = v.1 := by simpa using (List.cons.inj e).1
    rcases List.mem_cons.mp (show p ∈ (u.1, u.2 || v.2) :: orTab a b from h) with rfl | h
    · exact ⟨u.2, v.2, List.mem_cons_self, by rw [e1]; exact List.mem_cons_self, rfl⟩
    · obtain ⟨x, y, h1, h2, h3⟩ := orTab_mem (List.cons.inj e).2 p h
      exact ⟨x, y, List.mem_cons_of_mem _ h1, List.mem_cons_of_mem _ h2, h3⟩
structure IsT (K : PySem.W.Frag) (cs : List V) (us : List Value) (tab : List (Str × Bool)) : Prop where
  p : Paired ClsV cs us
  n : PySem.W.kitAny K (.type "NoneType") us = some false
  t : ∀ p ∈ tab, ExcC K (cl K p.1) ∧ PySem.W.kitAny K (.ref (cl K p.1)) us = some p.2
theorem IsT.cons {K : PySem.W.Frag} {c : V} {u : Value} {cs : List V} {us : List Value} {tab tab1 : List (Str × Bool)} (hc : ClsV c u) (hn : PySem.W.kitOne K (.type "NoneType") u = some false)
    (ht : ∀ p ∈ tab1, ExcC K (cl K p.1) ∧ PySem.W.kitOne K (.ref (cl K p.1)) u = some p.2) (h : IsT K cs us tab) (e : tab1.map (·.1) = tab.map (·.1) := by rfl) : IsT K (c :: cs) (u :: us) (orTab tab1 tab) :=
  ⟨.cons hc h.p, kitAny_cons hn (fun _ => h.n) (fun z => nomatch z), fun p hp => by
    obtain ⟨x, y, h1, h2, h3⟩ := orTab_mem e p hp
    obtain ⟨q1, q2⟩ := ht _ h1
    refine ⟨q1, kitAny_cons q2 (fun z => ?_) (fun z => ?_)⟩
    · rw [h3, show x = false from z]
      exact (h.t _ h2).2
    · rw [h3, show x = true from z]; rfl⟩
theorem IsT.one {K : PySem.W.Frag} {c : V} {u : Value} {tab1 : List (Str × Bool)} (hc : ClsV c u) (hn : PySem.W.kitOne K (.type "NoneType") u = some false)
    (ht : ∀ p ∈ tab1, ExcC K (cl K p.1) ∧ PySem.W.kitOne K (.ref (cl K p.1)) u = some p.2) : IsT K [c] [u] tab1 :=
  ⟨.cons hc .nil, kitAny_cons hn (fun _ => rfl) (fun z => nomatch z), fun p hp => by
    obtain ⟨q1, q2⟩ := ht p hp
    exact ⟨q1, kitAny_cons q2 (fun z => by rw [z]; rfl) (fun z => z)⟩⟩
section
variable {X : Cx} {W : WX} {pos : Pos}
def kIsXT (K : PySem.W.Frag) (cs : List V) (tab : List (Str × Bool)) : KC := fun vs G M R => match vs with
  | [.non, .ref t] => G t = some (.tup cs) ∧ R (.bl false) G M
  | [.ref a, .ref t] => G t = some (.tup cs) ∧ ∃ p ∈ tab, At G M a (ErA K p.1 none a) ∧ R (.bl p.2) G M
  | _ => False
theorem kc_isXT {tab : List (Str × Bool)} {cs : List V} {us : List Value} (T : IsT X.K cs us tab) : KCall X (.builtin "isinstance") (kIsXT X.K cs tab) := by
  intro pins s σ H xs ws Q I r h
  obtain ⟨G, M, R, hv, h, hR⟩ := h
  match xs, h with
  | [.non, .ref t], h2 =>
    obtain ⟨ht, h3⟩ := h2
    exact (call_isiT (X := X)) pins s σ H [.non, .ref t] _ Q I r ⟨_, t, cs, .type "NoneType", us, false, rfl, hv.ex _ _ ht, T.p, .base .non, T.n, hR _ _ _ _ hv h3⟩
  | [.ref a, .ref t], h2 =>
    obtain ⟨ht, p, hp, ha, h3⟩ := h2
    obtain ⟨C, e⟩ := T.t p hp
    obtain ⟨u1, u2, rfl, r1, r2⟩ := vals2 r
    cases (show u2 = Value.ref t from r2)
    cases (show u1 = Value.ref a from r1)
    have hH : H a = some (ErA X.K p.1 none a) := hv.at ha
    obtain ⟨⟨oe, vs, hget, hz, hd⟩, _, _⟩ := I.hok a _ hH
    have J : PySem.W.InstAt s.heap a oe (cl X.K p.1) none := by
      obtain ⟨oc, od, oda, osl⟩ := oe
      obtain ⟨h1, h2⟩ := hz
      dsimp only at h1 h2 hd
      subst h1 h2 hd
      exact ⟨hget, rfl, rfl, trivial⟩
    obtain ⟨_, its, rv, o, h1, h2, n, h3'⟩ := (show ObjOk X.prog X.w H s.heap t (.tup cs) from I.hok t _ (hv.ex _ _ ht))
    have e3 := ClsV.all T.p rv
    subst e3
    obtain ⟨oc, od, dt, sl⟩ := o
    simp only at h2 h3'
    subst h2 h3'
    exact PySem.W.kia_tup (PySem.W.handS_kitx_exc C.hg C.hk C.hs C.hd C.ha C.hn C.ht C.hm) I.kIn J h1 e (fun z => nomatch z) fun tk => ⟨.bl p.2, H, I.kept (t' := tk) fun _ _ z => z, rfl, hR _ _ _ _ hv h3⟩
/-- try: t, except C: u -/
def kTryO (K : PySem.W.Frag) (tab : List (Str × Bool)) (t u : KS) : KS := fun D σ G M => t { D with xc := fun c d σ' G' M' => ∃ p ∈ tab, c = .ref (cl K p.1) ∧
  (if p.2 = true then u { D with xc := fun _ _ _ _ _ => False } σ' G' M' else D.xc c d σ' G' M') } σ G M
theorem js_tryO {K : PySem.W.Frag} {x : Str} {tab : List (Str × Bool)} {body suite : List Stmt} {b0 : Stmt} {t u : KS} {np pos' : Pos} (g : XG X.K X.mg x) (ht : ∀ p ∈ tab, PySem.W.exmOne X.K (.ref (cl X.K p.1)) (.ref (cl X.K x)) = some p.2) (tk : Takes X W)
    (hb : ∀ (W : WX) (pn : List (Addr × Obj)) (xe : Value → Shared → Prop), Takes (X.tr pn xe) W → PassesOwn (model X.prog X.w) X.A X.env xe → JSs (X.tr pn xe) W body t)
    (hsu : ∀ (a : Addr) (oe : Obj) (pn : List (Addr × Obj)), JSs (X.suite a ((a, oe) :: pn)) W0 (b0 :: suite) u)
    (hK : X.K = K := by rfl) (hs : X.stack = X.env :: X.outer := by rfl) (hf : X.env.frame = some X.env.locals := by rfl) (hg : Gl X x := by rfl) (hxd : (x == ("__debug__" : Str)) = false := by decide) :
    JS X W (.Try body [.ExceptHandler (some (.Name x np)) none (b0 :: suite) pos'] [] [] pos) (kTryO K tab t u) := by
  subst hK
  refine ps_mono (ps_try_only (c := .ref (cl X.K x)) (tb := fun W => upS W t) (ts := fun _ _ _ => upS W0 u) hs hf ⟨hg, hxd, .inl g.g⟩ tk hb (fun a oe cls d pn _ _ => hsu a oe pn)) fun D σ H ⟨G, M, d, hv, h, en⟩ => ?_
  refine ⟨G, M, _, hv, h, ⟨en.nx, en.rt, en.bk, en.ct, fun c e σ' G' M' H' hv' q => ?_⟩⟩
  obtain ⟨p, hp, rfl, q⟩ := q
  refine ⟨p.2, ht p hp, fun hb a na => ?_, fun hb => ?_⟩
  · rw [if_pos hb] at q
    exact ⟨G', M', _, hv', q, ⟨en.nx, en.rt, en.bk, en.ct, fun _ _ _ _ _ _ _ z => z.elim⟩⟩
  · rw [if_neg (by rw [hb]; exact Bool.false_ne_true)] at q
    exact en.xc _ _ _ _ _ _ hv' q
end
end BT
namespace PySem.SeqAt
open AutoSeq1 (wpAny_loadPart')
open MeetsSeq
theorem bt_str_eq_declines (b : Str) (u : Tok) (l : Addr) (c : Value) (es : _) (ep : _) (dd : Option Addr) (sl : Array (Option Value)) :
    Meets (Builtin.«str.__eq__» ⟨[.str b u, .ref l], []⟩) (fun _ R s => s.heap.get? l = some ⟨c, dd, .dict es ep, sl⟩ ∧ R (.ok (.ret .notImplemented)) s) :=
  .of_wp fun prog w A R s h => by obtain ⟨hp, g, d, tk, os⟩ := s; obtain ⟨hl, h⟩ := h; wp_walk using wpAny_loadPart' hl, wpAny_load hl; exact ⟨_, rfl, h⟩
theorem bt_dict_eq_declines (l : Addr) (es : _) (ep : _) (dd : Option Addr) (sl : Array (Option Value)) (b : Str) (u : Tok) :
    Meets (Builtin.«dict.__eq__» ⟨[.ref l, .str b u], []⟩) (fun _ R s => s.heap.get? l = some ⟨.type "dict", dd, .dict es ep, sl⟩ ∧ R (.ok (.ret .notImplemented)) s) :=
  .of_wp fun prog w A R s h => by obtain ⟨hp, g, d, tk, os⟩ := s; obtain ⟨hl, h⟩ := h; have f1 := F.sub_str_dict; wp_walk using wpAny_loadPart' hl, wpAny_load hl; exact ⟨_, rfl, h⟩
theorem bt_dict_str {A : Around} {s : Shared} {l : Addr} {o : Obj} {es : _} {ep : _} (b : Str) (u : Tok) (ho : s.heap.get? l = some o) (hx : o.ExactDict) (hd : o.data = .dict es ep) (hu : A.units < cLine) : RcAt A s (.ref l) (.str b u) false := fun prog w E Q h => by
  obtain ⟨cls, dd, data, sl⟩ := o
  obtain ⟨hc, h2, h3⟩ := hx
  simp only at hc hd
  subst hc hd
  exact rc_eq_decline_or (k := false) ⟨_, ho, rfl⟩ (typeIs_str s b u) (by decide) F.sub_str_dict F.slot_dict_eq F.slot_str_eq_refl
    (fun _ hq => call_meets F.slot_dict_eq ⟨_, ho, rfl⟩ F.entry_dict_eq (F.args_dict_eq_2 _ _) (bt_dict_eq_declines l es ep dd sl b u) ⟨ho, hq⟩)
    (fun _ hq => call_meets F.slot_str_eq_refl (typeIs_str s b u) F.entry_str_eq (F.args_str_eq_2 _ _) (bt_str_eq_declines b u l (.type "dict") es ep dd sl) ⟨ho, hq⟩)
    (fun _ hq => wpAny_of_eq (rfl : isSame (.ref l) (.str b u) = pure false) hq) (.inr hu) h
end PySem.SeqAt
namespace BT
open PySem PySem.Spec L2
open PyProof.Rows hiding St
/-- == of what may be a dict, and a text -/
def kEqD (K : PySem.W.Frag) : KR2 := fun x y G M R => kEqv false K x y G M R ∨ ∃ (a : Addr) (s : Str) (kvs : List (Key × V)), x = .ref a ∧ y = .str s ∧ At G M a (.dK kvs) ∧ R (.bl false) G M
theorem kop_eqD {X : Cx} (hu : X.A.units + 64 < cLine) : KOp X (compareOp .Eq) (kEqD X.K) := fun pins s σ H x y v u Q G M R I rx ry hv h hR => by
  rcases h with h | ⟨a, t, kvs, rfl, rfl, ha, h⟩
  · exact kop_eq hu pins s σ H x y v u Q G M R I rx ry hv h hR
  · cases (show v = Value.ref a from rx)
    obtain ⟨tk, e⟩ := (show ∃ t', u = Value.str t t' from ry)
    subst e
    obtain ⟨_, _, vs, _, o, es, ep, h1, h2, h3, _⟩ := (show ObjOk X.prog X.w H s.heap a (.dK kvs) from I.hok a _ (hv.at ha))
    exact SeqAt.bt_dict_str t tk h1 h2 h3 (by omega) _ _ _ _ ⟨.bl false, H, I, rfl, hR _ G M H hv h⟩
end BT
set_option Elab.async false
set_option linter.all false
set_option maxRecDepth 100000
set_option maxHeartbeats 4000000
namespace BT
open PySem PySem.Spec L2
open PyProof.Rows hiding St
/-! ### written data: what a display of constants lays -/
inductive XD where
  | non
  | bl (b : Bool)
  | int (i : Int)
  | str (s : Str)
  | list (l : List XD)
  | tup (l : List XD)
  | dict
mutual
inductive Rp (K : PySem.W.Frag) (G : Hp) (Mx : Mem) : V → XD → Prop where
  | non : Rp K G Mx .non .non
  | bl (b : Bool) : Rp K G Mx (.bl b) (.bl b)
  | int (i : Int) : Rp K G Mx (.int i) (.int i)
  | str (s : Str) : Rp K G Mx (.str s) (.str s)
  | list {a : Addr} {vs : List V} {ds : List XD} : ((a, HO.lst vs) ∈ Mx ∨ G a = some (.lst vs)) → RpA K G Mx vs ds → Rp K G Mx (.ref a) (.list ds)
  | tup {a : Addr} {vs : List V} {ds : List XD} : SqT K G a vs → RpA K G Mx vs ds → Rp K G Mx (.ref a) (.tup ds)
  | dict {a : Addr} : ((a, HO.dK []) ∈ Mx ∨ G a = some (.dK [])) → Rp K G Mx (.ref a) .dict
inductive RpA (K : PySem.W.Frag) (G : Hp) (Mx : Mem) : List V → List XD → Prop where
  | nil : RpA K G Mx [] []
  | cons {v : V} {d : XD} {vs : List V} {ds : List XD} : Rp K G Mx v d → RpA K G Mx vs ds → RpA K G Mx (v :: vs) (d :: ds)
end
section
variable {K : PySem.W.Frag} {G G' : Hp} {Mx My M : Mem}
mutual
theorem Rp.mono (f : ∀ a o, ((a, o) ∈ Mx ∨ G a = some o) → ((a, o) ∈ My ∨ G' a = some o)) (e : Ex G G') : ∀ {v : V} {d : XD}, Rp K G Mx v d → Rp K G' My v d
  | _, _, .non => .non
  | _, _, .bl b => .bl b
  | _, _, .int b => .int b
  | _, _, .str b => .str b
  | _, _, .list h hs => .list (f _ _ h) (RpA.mono f e hs)
  | _, _, .tup h hs => .tup (ex_t e h) (RpA.mono f e hs)
  | _, _, .dict h => .dict (f _ _ h)
theorem RpA.mono (f : ∀ a o, ((a, o) ∈ Mx ∨ G a = some o) → ((a, o) ∈ My ∨ G' a = some o)) (e : Ex G G') : ∀ {vs : List V} {ds : List XD}, RpA K G Mx vs ds → RpA K G' My vs ds
  | _, _, .nil => .nil
  | _, _, .cons h hs => .cons (Rp.mono f e h) (RpA.mono f e hs)
end
theorem Rp.up {v : V} {d : XD} (e : Ex G G') (s : ∀ x, x ∈ Mx → x ∈ My) (h : Rp K G Mx v d) : Rp K G' My v d := h.mono (fun a o q => q.elim (fun z => .inl (s _ z)) (fun z => .inr (e _ _ z))) e
theorem RpA.up {v : List V} {d : List XD} (e : Ex G G') (s : ∀ x, x ∈ Mx → x ∈ My) (h : RpA K G Mx v d) : RpA K G' My v d := h.mono (fun a o q => q.elim (fun z => .inl (s _ z)) (fun z => .inr (e _ _ z))) e
theorem Rp.ex {v : V} {d : XD} (e : Ex G G') (h : Rp K G Mx v d) : Rp K G' Mx v d := h.up e fun _ z => z
theorem RpA.ex {v : List V} {d : List XD} (e : Ex G G') (h : RpA K G Mx v d) : RpA K G' Mx v d := h.up e fun _ z => z
theorem RpA.len : ∀ {vs : List V} {ds : List XD}, RpA K G Mx vs ds → vs.length = ds.length
  | _, _, .nil => rfl
  | _, _, .cons _ hs => by rw [List.length_cons, List.length_cons, hs.len]
theorem RpA.app : ∀ {vs ws : List V} {ds es : List XD}, RpA K G Mx vs ds → RpA K G Mx ws es → RpA K G Mx (vs ++ ws) (ds ++ es)
  | _, _, _, _, .nil, h => h
  | _, _, _, _, .cons a b, h => .cons a (b.app h)
theorem RpA.get : ∀ {vs : List V} {ds : List XD} {i : Nat}, RpA K G Mx vs ds → i < vs.length → ∃ v d, vs[i]? = some v ∧ ds[i]? = some d ∧ Rp K G Mx v d
  | _, _, _, .nil, h => by simp at h
  | _, _, 0, .cons a _, _ => ⟨_, _, rfl, rfl, a⟩
  | _, _, i + 1, .cons _ b, h => by
    obtain ⟨v, d, h1, h2, h3⟩ := RpA.get (i := i) b (by simpa using h)
    exact ⟨v, d, by simpa using h1, by simpa using h2, h3⟩
/-- cells of its own -/
def NewC (G : Hp) (Mx : Mem) : Prop := (∀ x, x ∈ Mx → G x.1 = none) ∧ (Mx.map (·.1)).Nodup
theorem NewC.nil : NewC G [] := ⟨fun _ z => (nomatch z), List.nodup_nil⟩
def frzA (G : Hp) (Mx : Mem) : Hp := Mx.foldr (fun x g => upd g x.1 x.2) G
theorem frzA_wk : ∀ (Mx : Mem) (G : Hp) (M : Mem), Wk G (Mx ++ M) (frzA G Mx) M
  | [], G, M => Wk.refl
  | x :: Mx, G, M => by
    refine Wk.trans (Wk.perm (M' := Mx ++ x :: M) ?_) ((frzA_wk Mx G (x :: M)).trans Wk.frz0)
    exact List.perm_middle
theorem frzA_ne : ∀ {Mx : Mem} {G : Hp} {a : Addr}, (∀ x, x ∈ Mx → x.1 ≠ a) → frzA G Mx a = G a
  | [], _, _, _ => rfl
  | x :: Mx, G, a, h => by
    show upd (frzA G Mx) x.1 x.2 a = _
    rw [upd_ne (Ne.symm (h x List.mem_cons_self))]
    exact frzA_ne fun y hy => h y (List.mem_cons_of_mem _ hy)
theorem frzA_ex (h : NewC G Mx) : Ex G (frzA G Mx) := fun a o e => by
  rw [frzA_ne]
  · exact e
  · intro x hx z
    rw [← z, h.1 x hx] at e
    cases e
theorem frzA_at : ∀ {Mx : Mem} {G : Hp}, (Mx.map (·.1)).Nodup → ∀ x, x ∈ Mx → frzA G Mx x.1 = some x.2
  | [], _, _, _, h => nomatch h
  | y :: Mx, G, hn, x, h => by
    rw [List.map_cons, List.nodup_cons] at hn
    show upd (frzA G Mx) y.1 y.2 x.1 = _
    rcases List.mem_cons.mp h with rfl | h
    · exact upd_same
    · rw [upd_ne (fun z => hn.1 (by rw [← z]; exact List.mem_map.mpr ⟨x, h, rfl⟩))]
      exact frzA_at hn.2 x h
theorem Rp.frz {v : V} {d : XD} (n : NewC G Mx) (h : Rp K G Mx v d) : Rp K (frzA G Mx) [] v d := h.mono (fun a o q => q.elim (fun z => .inr (frzA_at n.2 (a, o) z)) (fun z => .inr (frzA_ex n _ _ z))) (frzA_ex n)
theorem RpA.frz {v : List V} {d : List XD} (n : NewC G Mx) (h : RpA K G Mx v d) : RpA K (frzA G Mx) [] v d := h.mono (fun a o q => q.elim (fun z => .inr (frzA_at n.2 (a, o) z)) (fun z => .inr (frzA_ex n _ _ z))) (frzA_ex n)
theorem frzA_fr {p : Addr} (h : Fr G (Mx ++ M) p) : Fr (frzA G Mx) M p := ⟨by rw [frzA_ne (fun x hx => h.2 x (List.mem_append.mpr (.inl hx)))]; exact h.1, fun x hx => h.2 x (List.mem_append.mpr (.inr hx))⟩
/-- a cell more, a tuple more -/
theorem NewC.cell {p : Addr} {o : HO} (h : NewC G Mx) (f : Fr G (Mx ++ M) p) : NewC G ((p, o) :: Mx) := by
  refine ⟨fun x hx => ?_, ?_⟩
  · rcases List.mem_cons.mp hx with rfl | hx
    · exact f.1
    · exact h.1 x hx
  · rw [List.map_cons, List.nodup_cons]
    refine ⟨fun z => ?_, h.2⟩
    obtain ⟨y, hy, e⟩ := List.mem_map.mp z
    exact f.2 y (List.mem_append.mpr (.inl hy)) e
theorem NewC.tup {p : Addr} {o : HO} (h : NewC G Mx) (f : Fr G (Mx ++ M) p) : NewC (upd G p o) Mx :=
  ⟨fun x hx => by rw [upd_ne (f.2 x (List.mem_append.mpr (.inl hx)))]; exact h.1 x hx, h.2⟩
/-- an expression that lays written data -/
def LitOk (K : PySem.W.Frag) (te : KE) (σ : St) (G : Hp) (d : XD) : Prop := ∀ (G0 : Hp) (My M : Mem) (R : KR) (E : KX), Ex G G0 → NewC G0 My → (∀ v G' Mx, Ex G0 G' → NewC G' (Mx ++ My) → Rp K G' Mx v d → R v G' (Mx ++ (My ++ M))) → te σ G0 (My ++ M) R E
def LitsOk (K : PySem.W.Frag) (ta : KA) (σ : St) (G : Hp) (ds : List XD) : Prop := ∀ (G0 : Hp) (My M : Mem) (R : List V → Hp → Mem → Prop) (E : KX), Ex G G0 → NewC G0 My → (∀ vs G' Mx, Ex G0 G' → NewC G' (Mx ++ My) → RpA K G' Mx vs ds → R vs G' (Mx ++ (My ++ M))) → ta σ G0 (My ++ M) R E
end
section
variable {K : PySem.W.Frag} {σ : St} {G : Hp} {te ta tb : KE} {tas : KA} {ds es : List XD} {d : XD}
theorem lit_pure {v : V} (h : ∀ G0 M R E, Ex G G0 → R v G0 M → te σ G0 M R E) (r : Rp K G [] v d) : LitOk K te σ G d := fun G0 My M R E e n q => h G0 _ R E e (q v G0 [] Ex.refl n (r.ex e))
theorem lit_int {i : Int} : LitOk K (kC (.int i)) σ G (.int i) := lit_pure (fun _ _ _ _ _ q => q) (.int i)
theorem lit_bl {i : Bool} : LitOk K (kC (.bl i)) σ G (.bl i) := lit_pure (fun _ _ _ _ _ q => q) (.bl i)
theorem lit_str {i : Str} : LitOk K (kC (.str i)) σ G (.str i) := lit_pure (fun _ _ _ _ _ q => q) (.str i)
theorem lit_non : LitOk K (kC .non) σ G .non := lit_pure (fun _ _ _ _ _ q => q) .non
theorem lit_neg {i : Int} : LitOk K (kUn kNeg (kC (.int i))) σ G (.int (-i)) := lit_pure (fun _ _ _ _ _ q => q) (.int _)
theorem lit_var {i : Nat} {v : V} (h : σ[i]? = some (some v)) (r : Rp K G [] v d) : LitOk K (kVar i) σ G d := lit_pure (v := v) (fun _ _ _ _ _ q => by unfold kVar; rw [h]; exact q) r
theorem lit_dict : LitOk K kDNew σ G .dict := fun G0 My M R E e n q p fp => q _ G0 [(p, .dK [])] Ex.refl (n.cell fp) (.dict (.inl List.mem_cons_self))
theorem lits_nil : LitsOk K kNil σ G [] := fun G0 My M R E e n q => q [] G0 [] Ex.refl n .nil
theorem lits_cons (h : LitOk K te σ G d) (hs : LitsOk K tas σ G ds) : LitsOk K (kCons te tas) σ G (d :: ds) := fun G0 My M R E e n q =>
  h G0 My M _ E e n fun v G1 Mx e1 n1 r1 => by
    rw [← List.append_assoc]
    refine hs G1 (Mx ++ My) M _ E (e.trans e1) n1 fun vs G2 Mz e2 n2 r2 => ?_
    have := q (v :: vs) G2 (Mz ++ Mx) (e1.trans e2) (by rw [List.append_assoc]; exact n2) (.cons (r1.up e2 fun x hx => List.mem_append.mpr (.inr hx)) (r2.up Ex.refl fun x hx => List.mem_append.mpr (.inl hx)))
    simpa [List.append_assoc] using this
theorem lit_tup (h : LitsOk K tas σ G ds) (hl : ds.length ≤ 1000) : LitOk K (kTup tas) σ G (.tup ds) := fun G0 My M R E e n q =>
  h G0 My M _ E e n fun vs G1 Mx e1 n1 r1 => ⟨Nat.le_trans (by rw [r1.len]; exact hl) (by decide), fun p fp => by
    rw [← List.append_assoc] at fp
    exact q _ _ Mx (e1.trans (Ex.new fp)) (n1.tup fp) (.tup sqt_new (r1.ex (Ex.new fp)))⟩
theorem lit_lst (h : LitsOk K tas σ G ds) (hl : ds.length ≤ 1000) : LitOk K (kLst tas) σ G (.list ds) := fun G0 My M R E e n q =>
  h G0 My M _ E e n fun vs G1 Mx e1 n1 r1 => ⟨Nat.le_trans (by rw [r1.len]; exact hl) (by decide), fun p fp => by
    rw [← List.append_assoc] at fp
    exact q _ _ ((p, .lst vs) :: Mx) e1 (n1.cell fp) (.list (.inl List.mem_cons_self) (r1.up Ex.refl fun x hx => List.mem_cons_of_mem _ hx))⟩
theorem lit_add (h1 : LitOk K ta σ G (.list ds)) (h2 : LitOk K tb σ G (.list es)) (hl : (ds ++ es).length ≤ 1000) : LitOk K (kBin kAdd ta tb) σ G (.list (ds ++ es)) := fun G0 My M R E e n q =>
  h1 G0 My M _ E e n fun v G1 Mx e1 n1 r1 => by
    rw [← List.append_assoc]
    refine h2 G1 (Mx ++ My) M _ E (e.trans e1) n1 fun u G2 Mz e2 n2 r2 => ?_
    cases r1 with
    | @list a xs _ a1 s1 =>
      cases r2 with
      | @list b ys _ a2 s2 =>
        have l1 := s1.len
        have l2 := s2.len
        refine ⟨xs, ys, ?_, ?_, Nat.le_trans (m := 1000) (by rw [List.length_append] at hl; omega) (by decide), fun p fp => ?_⟩
        · rcases a1 with z | z
          · exact .inl (by simp [z])
          · exact .inr (e2 _ _ z)
        · rcases a2 with z | z
          · exact .inl (by simp [z])
          · exact .inr z
        · have fp' : Fr G2 ((Mz ++ (Mx ++ My)) ++ M) p := by simpa [List.append_assoc] using fp
          have := q (.ref p) G2 ((p, .lst (xs ++ ys)) :: (Mz ++ Mx)) (e1.trans e2) (by
            have := n2.cell (o := .lst (xs ++ ys)) fp'
            simpa [List.append_assoc] using this) (.list (.inl List.mem_cons_self) ((s1.up e2 fun x hx => by simp [hx]).app (s2.up Ex.refl fun x hx => by simp [hx])))
          simpa [List.append_assoc] using this
theorem lit_pow {i j : Int} (h : CPow i j) : LitOk K (kBin (kI CPow fun i j => .int (i ^ j.toNat)) (kC (.int i)) (kC (.int j))) σ G (.int (i ^ j.toNat)) := lit_pure (v := .int (i ^ j.toNat)) (fun _ _ _ _ _ q => ⟨h, q⟩) (.int _)
/-- one of written things is picked by a draw -/
theorem lit_pick {M : Mem} {R : KR} {E : KX} {i n : Nat} {p : Addr} {c s L : Int} (h : LitOk K te σ G (.list ds)) (hv : σ[i]? = some (some (.ref p))) (hn : M[n]? = some (p, pool c s)) (hs : PoolOk s) (hL : L = ds.length) (h0 : 0 < ds.length) (h1 : ds.length ≤ 1000)
    (q : ∀ v d G' Mx c' s', Ex G G' → NewC G' Mx → d ∈ ds → Rp K G' Mx v d → PoolOk s' → R v G' (Mx ++ M.set n (p, pool c' s'))) : kBin (kIx K) te (kCall (S_law_take K) (kCons (kVar i) (kCons (kC (.int L)) kNil))) σ G M R E := by
  refine h G [] M _ E Ex.refl NewC.nil fun v G1 Mx e1 n1 r1 => ?_
  rw [List.append_nil] at n1
  cases r1 with
  | @list a vs _ ha hs1 =>
    have hl := hs1.len
    rw [List.nil_append]
    simp only [kCall, kCons, kVar, hv]
    have hn2 : (Mx ++ M)[Mx.length + n]? = some (p, pool c s) := by rw [List.getElem?_append_right (by omega), Nat.add_sub_cancel_left]; exact hn
    refine ⟨p, L, Mx.length + n, c, s, rfl, rfl, hn2, hs, by omega, by omega, fun r c' s' r0 r1 hs' => ?_⟩
    obtain ⟨j, rfl⟩ := Int.eq_ofNat_of_zero_le r0
    obtain ⟨y, d, hy, hd, ry⟩ := hs1.get (i := j) (by omega)
    have hne : (a, HO.lst vs) ∈ Mx → (a, HO.lst vs) ∈ (Mx ++ M).set (Mx.length + n) (p, pool c' s') := fun z => by
      rw [List.set_append_right _ _ (by omega)]; exact List.mem_append.mpr (.inl z)
    refine ⟨vs, y, ?_, atI_nat hy, ?_⟩
    · rcases ha with z | z
      · exact .inl (.inl (hne z))
      · exact .inl (.inr (sql_of z))
    · have := q y d G1 Mx c' s' e1 n1 (List.mem_of_getElem? hd) ry hs'
      rw [List.set_append_right _ _ (by omega), Nat.add_sub_cancel_left]; exact this
end
/-! what is known of written things -/
def XD.ty : XD → PT
  | .non => .non | .bl _ => .bool | .int _ => .int | .str _ => .str | .list _ => .list | .tup _ => .tuple | .dict => .dict
theorem rp_ty {K : PySem.W.Frag} {G : Hp} {v : V} {d : XD} (h : Rp K G [] v d) (M : Mem) : TyK K G M v d.ty := by
  cases h with
  | non => exact ty_non
  | bl b => exact ty_bl
  | int i => exact ty_int
  | str s => exact ty_str
  | list h _ =>
    rcases h with z | z
    · cases z
    · exact ty_lst (.inr (sql_of z))
  | tup h _ => exact ty_tup h
  | dict h =>
    rcases h with z | z
    · cases z
    · exact ty_dict (.inr z)
mutual
def XD.toD : XD → Option PyData
  | .non => some .none
  | .bl b => some (.bool b)
  | .int i => some (.int i)
  | .str s => some (.str s)
  | .list l => (XD.toDs l).map .list
  | .tup l => (XD.toDs l).map .tuple
  | .dict => none
def XD.toDs : List XD → Option (List PyData)
  | [] => some []
  | x :: l => match x.toD, XD.toDs l with
    | some d, some ds => some (d :: ds)
    | _, _ => none
end
mutual
theorem rp_dp {K : PySem.W.Frag} {G : Hp} : ∀ {v : V} {d : XD} {e : PyData}, Rp K G [] v d → d.toD = some e → Dp K G v e
  | _, _, _, .non, h => by cases h; exact .non
  | _, _, _, .bl b, h => by cases h; exact .bl b
  | _, _, _, .int b, h => by cases h; exact .int b
  | _, _, _, .str b, h => by cases h; exact .str b
  | _, _, e, .list (ds := ds) ha hs, h => by
    have h : (XD.toDs ds).map PyData.list = some e := h
    obtain ⟨es, h1, rfl⟩ := Option.map_eq_some_iff.mp h
    rcases ha with z | z
    · cases z
    · exact .lst (sql_of z) (rpa_dp hs h1)
  | _, _, e, .tup (ds := ds) ha hs, h => by
    have h : (XD.toDs ds).map PyData.tuple = some e := h
    obtain ⟨es, h1, rfl⟩ := Option.map_eq_some_iff.mp h
    exact .tup ha (rpa_dp hs h1)
  | _, _, _, .dict _, h => by cases h
theorem rpa_dp {K : PySem.W.Frag} {G : Hp} : ∀ {vs : List V} {ds : List XD} {es : List PyData}, RpA K G [] vs ds → XD.toDs ds = some es → DpAll K G vs es
  | _, _, _, .nil, h => by cases h; exact .nil
  | _, _, es, .cons (d := d) (ds := ds) a b, h => by
    have h : (match d.toD, XD.toDs ds with | some d, some ds => some (d :: ds) | _, _ => none) = some es := h
    split at h
    · rename_i d' ds' e1 e2
      cases h
      exact .cons (rp_dp a e1) (rpa_dp b e2)
    · cases h
end
end BT
namespace BT
open PySem PySem.Spec L2
theorem LitOk.use {K : PySem.W.Frag} {te : KE} {σ : St} {G : Hp} {d : XD} {M : Mem} {R : KR} {E : KX} (h : LitOk K te σ G d) (q : ∀ v G' Mx, Ex G G' → NewC G' Mx → Rp K G' Mx v d → R v G' (Mx ++ M)) : te σ G M R E :=
  h G [] M R E Ex.refl NewC.nil fun v G' Mx e n r => by rw [List.append_nil] at n; exact q v G' Mx e n r
theorem Wk.dropP {G : Hp} (Mx : Mem) {M : Mem} : Wk G (Mx ++ M) G M := fun H hv => ⟨hv.ex, fun x hx => hv.mu x (List.mem_append.mpr (.inr hx)), hv.nd.sublist ((List.sublist_append_right Mx M).map _), fun x hx => hv.dj x (List.mem_append.mpr (.inr hx))⟩
end BT
set_option Elab.async false
set_option linter.all false
set_option maxRecDepth 100000
set_option maxHeartbeats 4000000
namespace BT
open PySem PySem.Spec L2
open PyProof.Rows hiding St
/-! ### dicts that are walked: locked while it goes on -/
def unl (G : Hp) (d : Addr) : Hp := fun a => if a = d then none else G a
theorem unl_upd {G : Hp} {d : Addr} {o : HO} (h : G d = none) : unl (upd G d o) d = G := by
  funext a
  unfold unl
  by_cases e : a = d
  · rw [if_pos e, e, h]
  · rw [if_neg e, upd_ne e]
theorem hv_lock {G : Hp} {M1 M2 : Mem} {H : Hp} {d : Addr} {u o : HO} (h : Hv G (M1 ++ (d, u) :: M2) H) : Hv (upd G d o) (M1 ++ M2) (upd H d o) := by
  have hg : G d = none := h.dj (d, u) (by simp)
  have h2 := Wk.drop (G := G) M1 (x := (d, u)) (M2 := M2) H h
  have nd : ∀ x, x ∈ M1 ++ M2 → x.1 ≠ d := fun x hx z => by
    have nd := h.nd
    rw [List.map_append, List.map_cons, List.nodup_append] at nd
    obtain ⟨n1, n2, n3⟩ := nd
    rcases List.mem_append.mp hx with q | q
    · exact n3 x.1 (List.mem_map.mpr ⟨x, q, rfl⟩) d (by simp) z
    · rw [List.nodup_cons] at n2
      exact n2.1 (by rw [← z]; exact List.mem_map.mpr ⟨x, q, rfl⟩)
  refine ⟨fun b v e => ?_, fun x hx => ?_, h2.nd, fun x hx => ?_⟩
  · by_cases hb : b = d
    · subst hb; rw [upd_same] at e ⊢; exact e
    · rw [upd_ne hb] at e ⊢; exact h.ex b v e
  · rw [upd_ne (nd x hx)]; exact h2.mu x hx
  · rw [upd_ne (nd x hx)]; exact h2.dj x hx
theorem hv_unlock {G : Hp} {M : Mem} {H : Hp} {d : Addr} {u o : HO} (h : Hv G M H) (hd : G d = some o) : Hv (unl G d) ((d, u) :: M) (upd H d u) := by
  have nd : ∀ x, x ∈ M → x.1 ≠ d := fun x hx z => by
    have := h.dj x hx
    rw [z, hd] at this; cases this
  refine ⟨fun b v e => ?_, fun x hx => ?_, ?_, fun x hx => ?_⟩
  · unfold unl at e
    by_cases hb : b = d
    · rw [if_pos hb] at e; cases e
    · rw [if_neg hb] at e; rw [upd_ne hb]; exact h.ex b v e
  · rcases List.mem_cons.mp hx with rfl | hx
    · exact upd_same
    · rw [upd_ne (nd x hx)]; exact h.mu x hx
  · rw [List.map_cons, List.nodup_cons]
    refine ⟨fun z => ?_, h.nd⟩
    obtain ⟨x, hx, e⟩ := List.mem_map.mp z
    exact nd x hx e
  · unfold unl
    rcases List.mem_cons.mp hx with rfl | hx
    · rw [if_pos rfl]
    · rw [if_neg (nd x hx)]; exact h.dj x hx
/-- a statement with a dict locked -/
def kLock (t : KS) : KS := fun D σ G M => ∃ (M1 M2 : Mem) (d : Addr) (kvs : List (Key × V)), M = M1 ++ (d, .dK kvs) :: M2 ∧ ∀ od : Obj, G d = none →
  t { nx := fun σ' G' M' => G' d = some (.frz od (.dK kvs)) ∧ D.nx σ' (unl G' d) ((d, .dK kvs) :: M'), rt := fun v G' M' => G' d = some (.frz od (.dK kvs)) ∧ D.rt v (unl G' d) ((d, .dK kvs) :: M'), bk := fun _ _ _ => False, ct := fun _ _ _ => False, xc := fun _ _ _ _ _ => False } σ (upd G d (.frz od (.dK kvs))) (M1 ++ M2)
section
variable {X : Cx} {W : WX} {pos : Pos} {o i e f tg : Expr}
theorem js_lock {s : Stmt} {t : KS} (h : JS X W s t) : JS X W s (kLock t) :=
  ps_mono (ps_lock h) fun D σ H ⟨G, M, d, hv, ⟨M1, M2, dd, kvs, e, q⟩, en⟩ => by
    subst e
    exact ⟨dd, .dK kvs, hv.mu (dd, .dK kvs) (by simp), trivial, fun od => ⟨upd G dd (.frz od (.dK kvs)), M1 ++ M2, _, hv_lock hv, q od (hv.dj (dd, .dK kvs) (by simp)), ⟨fun σ' G' M' H' hv' ⟨e1, e2⟩ => ⟨hv'.ex _ _ e1, en.nx σ' _ _ _ (hv_unlock hv' e1) e2⟩, fun v G' M' H' hv' ⟨e1, e2⟩ => ⟨hv'.ex _ _ e1, en.rt v _ _ _ (hv_unlock hv' e1) e2⟩, fun _ _ _ _ _ z => z.elim, fun _ _ _ _ _ z => z.elim, fun _ _ _ _ _ _ _ z => z.elim⟩⟩⟩
/-- an expression with a dict locked -/
def kLockE (t : KE) : KE := fun σ G M R E => ∃ (M1 M2 : Mem) (d : Addr) (kvs : List (Key × V)), M = M1 ++ (d, .dK kvs) :: M2 ∧ ∀ od : Obj, G d = none →
  t σ (upd G d (.frz od (.dK kvs))) (M1 ++ M2) (fun v G' M' => G' d = some (.frz od (.dK kvs)) ∧ R v (unl G' d) ((d, .dK kvs) :: M')) (fun _ _ _ _ => False)
theorem je_lock {t : KE} (h : JE X W e t) : JE X W e (kLockE t) :=
  pe_mono (pe_lock h) fun σ H Q ⟨G, M, R, E, hv, ⟨M1, M2, dd, kvs, e, q⟩, hR, hE⟩ => by
    subst e
    exact ⟨dd, .dK kvs, hv.mu (dd, .dK kvs) (by simp), trivial, fun od => ⟨upd G dd (.frz od (.dK kvs)), M1 ++ M2, _, _, hv_lock hv, q od (hv.dj (dd, .dK kvs) (by simp)), fun v G' M' H' hv' ⟨e1, e2⟩ => ⟨hv'.ex _ _ e1, hR v _ _ _ (hv_unlock hv' e1) e2⟩, fun _ _ _ _ _ _ z => z.elim⟩⟩
/-! what is walked -/
def srcK (d : Addr) (o : Obj) (kvs : List (Key × V)) : Src := ⟨kvs.length, fun i => .inl (match kvs[i]? with | some p => kV p.1 | none => .non), fun G M => G d = some (.frz o (.dK kvs))⟩
def srcVs (d : Addr) (o : Obj) (kvs : List (Key × V)) : Src := ⟨kvs.length, fun i => .inl (match kvs[i]? with | some p => p.2 | none => .non), fun G M => G d = some (.frz o (.dK kvs))⟩
def srcI (d : Addr) (o : Obj) (kvs : List (Key × V)) : Src := ⟨kvs.length, fun i => .inr (match kvs[i]? with | some p => [kV p.1, p.2] | none => []), fun G M => G d = some (.frz o (.dK kvs))⟩
theorem goes_K {d : Addr} {o : Obj} {kvs : List (Key × V)} : Goes (srcK d o kvs) (Itk d o kvs) where
  go := fun i G M H hv ok hi => ⟨hv.ex _ _ ok, hi⟩
  stop := fun i G M H hv ok hi => ⟨hv.ex _ _ ok, hi⟩
  yld := fun i G M H x H' hv ok hi y => by
    obtain ⟨e1, k, v, e2, e3⟩ := y
    show x = (match kvs[i]? with | some p => kV p.1 | none => .non) ∧ H' = H
    rw [e2]; exact ⟨e3, e1⟩
theorem goes_Vs {d : Addr} {o : Obj} {kvs : List (Key × V)} : Goes (srcVs d o kvs) (Itd d o kvs) where
  go := fun i G M H hv ok hi => ⟨hv.ex _ _ ok, hi⟩
  stop := fun i G M H hv ok hi => ⟨hv.ex _ _ ok, hi⟩
  yld := fun i G M H x H' hv ok hi y => by
    obtain ⟨e1, k, e2⟩ := y
    show x = (match kvs[i]? with | some p => p.2 | none => .non) ∧ H' = H
    rw [e2]; exact ⟨rfl, e1⟩
theorem goes_I {d : Addr} {o : Obj} {kvs : List (Key × V)} : Goes (srcI d o kvs) (Iti d o kvs) where
  go := fun i G M H hv ok hi => ⟨hv.ex _ _ ok, hi⟩
  stop := fun i G M H hv ok hi => ⟨hv.ex _ _ ok, hi⟩
  yld := fun i G M H x H' hv ok hi y => by
    obtain ⟨T, k, v, e1, e2, e3, e4⟩ := y
    show ∃ T, x = .ref T ∧ H T = none ∧ H' = upd H T (.tup (match kvs[i]? with | some p => [kV p.1, p.2] | none => []))
    rw [e1]; exact ⟨T, e2, e3, e4⟩
def kiKeys (t : KE) : KI := fun σ G M R E => t σ G M (fun x G M => match x with
  | .ref d => ∃ o kvs, G d = some (.frz o (.dK kvs)) ∧ R (srcK d o kvs) G M
  | _ => False) E
def kiVals (t : KE) : KI := fun σ G M R E => t σ G M (fun x G M => match x with
  | .ref d => ∃ o kvs, G d = some (.frz o (.dK kvs)) ∧ R (srcVs d o kvs) G M
  | _ => False) E
def kiItems (t : KE) : KI := fun σ G M R E => t σ G M (fun x G M => match x with
  | .ref d => ∃ o kvs, G d = some (.frz o (.dK kvs)) ∧ R (srcI d o kvs) G M
  | _ => False) E
theorem ji_keys {t : KE} (h : JE X W e t) : JI X W tg e (kiKeys t) :=
  pi_mono (pi_keys h) fun σ H Q ⟨G, M, R, E, hv, h, hR, hE⟩ => ⟨G, M, _, E, hv, h, fun x G1 M1 H1 hv1 q => by
    match x, q with
    | .ref d, ⟨o, kvs, q1, q2⟩ => exact ⟨d, o, rfl, .inl ⟨kvs, hv1.ex _ _ q1, hR _ G1 M1 H1 hv1 q2 _ goes_K⟩⟩, hE⟩
theorem ji_vals {t : KE} {apos cpos : Pos} (h : JE X W e t) (hbase : attributeBase e "values" X.env (eval e X.env) = eval e X.env := by rfl) (hline : (apos.endLine == cpos.line) = true := by rfl) : JI X W tg (.Call (.Attribute e "values" apos) [] [] cpos) (kiVals t) :=
  pi_mono (pi_values h hbase hline) fun σ H Q ⟨G, M, R, E, hv, h, hR, hE⟩ => ⟨G, M, _, E, hv, h, fun x G1 M1 H1 hv1 q => by
    match x, q with
    | .ref d, ⟨o, kvs, q1, q2⟩ => exact ⟨d, o, kvs, rfl, hv1.ex _ _ q1, hR _ G1 M1 H1 hv1 q2 _ goes_Vs⟩, hE⟩
theorem ji_items {t : KE} {apos cpos tpos : Pos} {elts : List Expr} {kk : Nat} (h : JE X W e t) (hbase : attributeBase e "items" X.env (eval e X.env) = eval e X.env := by rfl) (hline : (apos.endLine == cpos.line) = true := by rfl) : JI X W (.Tuple elts kk tpos) (.Call (.Attribute e "items" apos) [] [] cpos) (kiItems t) :=
  pi_mono (pi_items h hbase hline) fun σ H Q ⟨G, M, R, E, hv, h, hR, hE⟩ => ⟨G, M, _, E, hv, h, fun x G1 M1 H1 hv1 q => by
    match x, q with
    | .ref d, ⟨o, kvs, q1, q2⟩ => exact ⟨d, o, kvs, rfl, hv1.ex _ _ q1, hR _ G1 M1 H1 hv1 q2 _ goes_I⟩, hE⟩
theorem ex_lock {G : Hp} {d : Addr} {o : HO} (h : G d = none) : Ex G (upd G d o) := fun a u e => by
  rw [upd_ne (fun z => by rw [z, h] at e; cases e)]; exact e
/-- d[k], also while d is walked -/
def kDGetF : KR2 := fun x y G M R => match x with
  | .ref a => ∃ (kvs : List (Key × V)) (k : Key) (v : V), (At G M a (.dK kvs) ∨ ∃ od, G a = some (.frz od (.dK kvs))) ∧ y = kV k ∧ valV kvs k = some v ∧ R v G M
  | _ => False
theorem je_dgetF {ta tb : KE} (hu : X.A.units + 64 < cLine) (ha : JE X W o ta) (hb : JE X W i tb) (hs : NoSl i := by exact fun _ _ => rfl) : JE X W (.Subscript o i pos) (kBin kDGetF ta tb) :=
  pe_mono (pe_dget (by omega) ha hb hs) fun σ H Q ⟨G, M, R, E, hv, h, hR, hE⟩ => ⟨G, M, _, E, hv, h, fun x G1 M1 H1 hv1 q1 => ⟨G1, M1, _, E, hv1, q1, fun y G2 M2 H2 hv2 q2 => by
    match x, q2 with
    | .ref a, ⟨kvs, k, v, q3, q4, q5, q6⟩ =>
      subst q4
      refine ⟨a, v, rfl, ?_, hR _ G2 M2 H2 hv2 q6⟩
      rw [← q5]
      rcases q3 with q3 | ⟨od, q3⟩
      · exact DGet.k (hv2.at q3)
      · exact .inl ⟨kvs, k, .inr ⟨od, hv2.ex _ _ q3⟩, rfl, rfl⟩, hE⟩, hE⟩
/-- list(d.items()) -/
def kItems (t : KE) : KE := fun σ G M R E => t σ G M (fun x G M => match x with
  | .ref d => ∃ kvs, At G M d (.dK kvs) ∧ ∀ (G' : Hp) (p : Addr) (ts : List Addr), Ex G G' → Fr G' M p → ts.length = kvs.length → (∀ (i : Nat) (q : Key × V), kvs[i]? = some q → ∃ T, ts[i]? = some T ∧ G' T = some (.tup [kV q.1, q.2])) → R (.ref p) G' ((p, .lst (ts.map V.ref)) :: M)
  | _ => False) E
theorem paired_get2 {α β : Type} {F : α → β → Prop} : ∀ {xs : List α} {ys : List β}, Paired F xs ys → ∀ {i : Nat} {y : β}, ys[i]? = some y → ∃ x, xs[i]? = some x ∧ F x y
  | _, _, .nil, _, _, h => by simp at h
  | _, _, .cons r t, 0, y, h => by
    have e := Option.some.inj h
    subst e
    exact ⟨_, rfl, r⟩
  | _, _, .cons r t, i + 1, y, h => by
    obtain ⟨x, h1, h2⟩ := paired_get2 t (i := i) (y := y) (by simpa using h)
    exact ⟨x, by simpa using h1, h2⟩
theorem je_items {t : KE} {p apos cpos pos : Pos} (hm : X.mg "list" = none) (he : JE X W e t) (hc : X.calm = true := by rfl) (hg : Gl X "list" := by rfl) (hv : bootBuiltins "list" = some (.type "list") := by decide +kernel) (hbase : attributeBase e "items" X.env (eval e X.env) = eval e X.env := by rfl) (hline : (apos.endLine == cpos.line) = true := by rfl)
    (hs : starEach [.Call (.Attribute e "items" apos) [] [] cpos] X.env = (false, eval (.Call (.Attribute e "items" apos) [] [] cpos) X.env) :: starEach [] X.env := by rfl) :
    JE X W (.Call (.Name "list" p) [.Call (.Attribute e "items" apos) [] [] cpos] [] pos) (kItems t) :=
  pe_mono (LiI.pe_listItems hc he hg hm hv hbase hline hs) fun σ H Q ⟨G, M, R, E, hv, h, hR, hE⟩ => ⟨G, M, _, E, hv, h, fun x G1 M1 H1 hv1 q => by
    match x, q with
    | .ref d, ⟨kvs, q1, q2⟩ =>
      refine ⟨d, kvs, rfl, hv1.at q1, fun H' p ts ex hp hts hpt hpl pr => ?_⟩
      obtain ⟨G', hG'⟩ : ∃ G' : Hp, G' = fun a => if a ∈ ts then H' a else G1 a := ⟨_, rfl⟩
      have eG : Ex G1 G' := fun a u e => by
        rw [hG']
        show (if a ∈ ts then H' a else G1 a) = some u
        rw [if_neg (fun z => by have := hts a z; rw [hv1.ex a u e] at this; cases this)]; exact e
      have gp : G1 p = none := by
        cases e : G1 p with
        | none => rfl
        | some u => rw [hv1.ex p u e] at hp; cases hp
      have mp : ∀ x, x ∈ M1 → x.1 ≠ p := fun x hx z => by have := hv1.mu x hx; rw [z, hp] at this; cases this
      have mt : ∀ x, x ∈ M1 → x.1 ∉ ts := fun x hx z => by have := hv1.mu x hx; rw [hts _ z] at this; cases this
      have fp : Fr G' M1 p := ⟨by rw [hG']; show (if p ∈ ts then _ else _) = none; rw [if_neg hpt]; exact gp, mp⟩
      have hv2 : Hv G' ((p, .lst (ts.map V.ref)) :: M1) H' := by
        refine ⟨fun a u e => ?_, fun x hx => ?_, ?_, fun x hx => ?_⟩
        · rw [hG'] at e
          have e : (if a ∈ ts then H' a else G1 a) = some u := e
          split at e
          · exact e
          · exact ex a u (hv1.ex a u e)
        · rcases List.mem_cons.mp hx with rfl | hx
          · exact hpl
          · exact ex _ _ (hv1.mu x hx)
        · rw [List.map_cons, List.nodup_cons]
          refine ⟨fun z => ?_, hv1.nd⟩
          obtain ⟨x, hx, e⟩ := List.mem_map.mp z
          exact mp x hx e
        · rw [hG']
          rcases List.mem_cons.mp hx with rfl | hx
          · show (if p ∈ ts then _ else _) = none
            rw [if_neg hpt]; exact gp
          · show (if x.1 ∈ ts then _ else _) = none
            rw [if_neg (mt x hx)]; exact hv1.dj x hx
      refine hR _ G' _ H' hv2 (q2 G' p ts eG fp (Paired.length pr) fun i kv hkv => ?_)
      obtain ⟨T, h1, h2⟩ := paired_get2 pr hkv
      refine ⟨T, h1, ?_⟩
      rw [hG']
      show (if T ∈ ts then H' T else _) = _
      rw [if_pos (List.mem_of_getElem? h1)]; exact h2, hE⟩
end
end BT
set_option Elab.async false
set_option linter.all false
set_option maxRecDepth 100000
set_option maxHeartbeats 4000000
namespace BT
open PySem PySem.Spec L2
open PyProof.Rows hiding St
/-! ### a statement at which some heap is known to be as told -/
def kH (t : KS) : KS := fun D σ G M => (∃ H, Hv G M H) → ∃ G' M', Wk G M G' M' ∧ t D σ G' M'
theorem js_h {X : Cx} {W : WX} {s : Stmt} {t : KS} (h : JS X W s t) : JS X W s (kH t) := ps_mono h fun D σ H ⟨G, M, d, hv, q, en⟩ => by
  obtain ⟨G', M', wk, q⟩ := q ⟨H, hv⟩
  exact ⟨G', M', d, wk H hv, q, en⟩
/-- a cell may be frozen -/
theorem Hv.fz {G : Hp} {M : Mem} {p : Addr} {o : HO} (h : ∃ H, Hv G ((p, o) :: M) H) : Ex G (upd G p o) := by
  obtain ⟨H, hv⟩ := h
  exact Ex.new' (hv.dj (p, o) List.mem_cons_self)
theorem Hv.no {G : Hp} {M : Mem} {x : Addr × HO} (h : ∃ H, Hv G M H) (hx : x ∈ M) : G x.1 = none := by
  obtain ⟨H, hv⟩ := h
  exact hv.dj x hx
theorem Hv.ne {G : Hp} {M : Mem} {x y : Addr × HO} {i j : Nat} (h : ∃ H, Hv G M H) (hx : M[i]? = some x) (hy : M[j]? = some y) (n : i ≠ j) : x.1 ≠ y.1 := fun e => by
  obtain ⟨H, hv⟩ := h
  exact n (nodup_at M j y.1 y.2 x i hv.nd hy hx e)
end BT
namespace BT
open PySem PySem.Spec L2
theorem Hv.newc {G : Hp} {Mx M : Mem} (h : ∃ H, Hv G (Mx ++ M) H) : NewC G Mx := by
  obtain ⟨H, hv⟩ := h
  exact ⟨fun x hx => hv.dj x (List.mem_append.mpr (.inl hx)), hv.nd.sublist ((List.sublist_append_left Mx M).map _)⟩
end BT
set_option Elab.async false
set_option linter.all false
set_option maxRecDepth 100000
set_option maxHeartbeats 4000000
namespace BT
open PySem PySem.Spec L2
open PyProof.Rows hiding St
/-! ### defs that are called where no guard stands; repr -/
structure GFn (P : Program) (w : World) (K : PySem.W.Frag) (mg : Str → Option Value) (base : Heap) (k : Nat) (f : Addr) (fd : FuncData) (ps : List Str) (sp : Sp) : Prop where
  len : ∀ vs H Q E, sp vs H Q E → vs.length = ps.length
  go : ∀ {A : Around} {outer : List Env} {s : Shared} {H : Hp} {args : Args} {us : List Value} {vs : List V} {Q : VK} {E : XK}, A.guards = some [] → Room k A → Env0 P w K mg base A outer s H → BindsTo s fd args (ps.zip us) → Vals vs us → sp vs H Q E →
    codeAny (model P w) A (.call (.ref f) args) (CR (L2.CX P w) outer P w H s Q E) s
section
variable {P : Program} {w : World} {K : PySem.W.Frag} {mg : Str → Option Value} {base : Heap} {k : Nat} {f : Addr} {fd : FuncData} {ps : List Str} {sp : Sp}
theorem GFn.mono {j : Nat} (F : GFn P w K mg base j f fd ps sp) (h : j ≤ k) : GFn P w K mg base k f fd ps sp := ⟨F.len, fun g r => F.go g (r.mono h)⟩
theorem FnOk.guarded (F : FnOk P w K mg base (L2.CX P w) k f fd ps sp) : GFn P w K mg base k f fd ps sp := ⟨F.len, fun _ r e b v q => F.run _ _ _ _ _ _ _ _ _ r e b v q⟩
theorem gfn_mk {x qual : Str} {st : Stmt} {N : List Str} (F : Fun K x qual st f fd) (sc : FnScope N ps (defScope st)) (len : ∀ vs H Q E, sp vs H Q E → vs.length = ps.length)
    (hbd : ∀ (cdv : Value) (A : Around) (outer : List Env) (s : Shared) (H : Hp) (vs : List V) (Q : VK) (E : XK), A.guards = some [] → Room k (A.deeper (envOfC qual (defScope st) s.heap.objs.size f cdv)) → sp vs H Q E →
      ∃ t, PSs (cxOf (L2.CX P w) P w K mg base N qual (defScope st) f cdv A outer s H E) (defBody st) t ∧ t { nx := fun _ H' => Q .non H', rt := Q } (start N vs) H) : GFn P w K mg base (k + 1) f fd ps sp := by
  obtain ⟨o1, o2, o3, o4, o5, o6, cdv, o8, o9, rfl, lk, hcd⟩ := F.ex
  refine ⟨len, fun {A outer s H args us vs Q E} gd rm en bd rv hsp => ?_⟩
  have hln := len _ _ _ _ hsp
  have inK : K.In s.heap := en.mod.kin.keeps fun a u z => (en.bs a u z).1
  have nolim : s.heap.NoLimit := en.mod.nolimit.keeps fun a u z => (en.bs a u z).1
  have kinds : ∀ z ∈ ps.zip us, (defScope st).names.lookup z.1 = some .local ∨ ((defScope st).names.lookup z.1 = some .cell ∧ ((cellsFrom (s.heap.objs.size + 1) (defScope st).names []).lookup z.1).isSome = true) := fun z hz => by
    obtain ⟨n, u⟩ := z
    rcases sc.par n (List.of_mem_zip hz).1 with h | h
    · exact .inl h
    · exact .inr ⟨h, PySem.W.cellsFrom_some _ _ _ (.inl h)⟩
  refine codeAny_call_function rm.depth (inK _ _ lk) rfl sc.co sc.gen rfl (PySem.W.codeRec_of inK hcd) (bd _ _ _ _ ?_)
  refine wpAny_newFunctionEnv_cells sc.kind kinds fun env hen s1 x => ?_
  subst hen
  refine ⟨nolim.keeps x.toInCall.keep, codeAny_func ?_⟩
  obtain ⟨t, ht, hq⟩ := hbd cdv A outer s H vs Q E gd (rm.deeper _) hsp
  have I := inv_start (CX := L2.CX P w) (E := E) sc rm.hd en hln rv x
  have fin : ∀ {σ' : St} {H' : Hp} {v : V} {u : Value} {s' : Shared}, Inv (cxOf (L2.CX P w) P w K mg base N qual (defScope st) f cdv A outer s H E) [] σ' H' s' → RelV v u → Q v H' → CE outer P w H s Q u s' := fun J r2 q => ⟨_, _, J.os, J.bare, J.base, J.hok, r2, q⟩
  refine wpAny_mono (ht.run [] s1 (start N vs) H _ I hq) (fun fl s' hs => ?_) fun e s' hs => hs
  match fl, hs with
  | .ret u, ⟨v, σ', H', J, r2, q⟩ => exact fin J r2 q
  | .next, ⟨σ', H', J, q⟩ => exact fin (v := V.non) (u := Value.none) J rfl q
  | .brk, ⟨_, _, _, z⟩ => exact z.elim
  | .cont, ⟨_, _, _, z⟩ => exact z.elim
/-- a def with its promise, of this kind -/
theorem gfn_ok {x qual : Str} {st : Stmt} {N : List Str} {S : KSp} (F : Fun K x qual st f fd) (sc : FnScope N ps (defScope st)) (len : ∀ vs G M R X, S vs G M R X → vs.length = ps.length)
    (hbody : ∀ (cdv : Value) (A : Around) (outer : List Env) (s : Shared) (H : Hp) (E : XK), A.guards = some [] → Room k (A.deeper (envOfC qual (defScope st) s.heap.objs.size f cdv)) →
      ∃ t, JSs (cxOf (L2.CX P w) P w K mg base N qual (defScope st) f cdv A outer s H E) (fun c d _ H => E c d H) (defBody st) t ∧
        ∀ vs G M R Z, S vs G M R Z → t { nx := fun _ G M => wkR R .non G M, rt := wkR R, xc := fun c d _ G M => wkX Z c d G M } (start N vs) G M) : GFn P w K mg base (k + 1) f fd ps (lift S) := by
  refine gfn_mk F sc (fun vs H Q E ⟨G, M, R, Z, _, h, _⟩ => len vs G M R Z h) fun cdv A outer s H vs Q E hg hr ⟨G, M, R, Z, hv, h, hR, hZ⟩ => ?_
  obtain ⟨t, j, q⟩ := hbody cdv A outer s H E hg hr
  exact ⟨_, j, G, M, _, hv, q vs G M R Z h, ⟨fun σ G M H hv h => (h H hv).elim fun G' h => h.elim fun M' h => hR _ G' M' H h.1 h.2, fun v G M H hv h => (h H hv).elim fun G' h => h.elim fun M' h => hR _ G' M' H h.1 h.2, fun _ _ _ _ _ z => z.elim, fun _ _ _ _ _ z => z.elim, fun c a σ G M H hv ⟨G', M', w, q⟩ => hZ c a G' M' H (w H hv) q⟩⟩
structure DefG (P : Program) (w : World) (K : PySem.W.Frag) (mg : Str → Option Value) (base : Heap) (lev : Nat) (x : Str) (ps : List Str) (S : KSp) : Prop where
  ex : ∃ f fd, GFn P w K mg base lev f fd ps (lift S) ∧ mg x = some (.ref f) ∧ PySem.W.keepIn K (.ref f) = true ∧ Binds K fd ps []
end
section
variable {X : Cx} {W : WX} {pos p : Pos} {e : Expr} {es : List Expr} {x : Str} {k lev : Nat} {ps : List Str} {S : KSp} {t : KA}
theorem je_callG (D : DefG X.prog X.w X.K X.mg X.base lev x ps S) (hg0 : X.A.guards = some []) (hr : Room k X.A) (tk : Takes X W) (ha : JA X W (e :: es) t) (hl : lev ≤ k := by decide) (hg : Gl X x := by rfl)
    (hdb : (x == ("__debug__" : Str)) = false := by decide) (he : starEach (e :: es) X.env = (false, eval e X.env) :: starEach es X.env := by rfl) (hpl : (backTo pos (starEach es X.env)).any (·.1) = false := by rfl) :
    JE X W (.Call (.Name x p) (e :: es) [] pos) (kCall S t) := by
  obtain ⟨f, fd, F, hm, hk, hb⟩ := D.ex
  have F := F.mono hl
  refine ⟨fun pins s σ H Q I ⟨G, M, R, E, hv, h, hR, hE⟩ => ?_⟩
  refine wpAny_Call_Name_kw (ld_glob I hg hm ?_ hdb)
  refine PySem.W.callWith_K (h₀ := X.base) I.ok.mod.kin hk (thn (ha.run pos pins s σ H (fun vs H1 => lift S vs H1 Q (WE W σ)) I ?_) fun us s1 ⟨vs, H1, I1, r, q⟩ => ⟨I1.kIn, ?_⟩) he hpl
  · exact ⟨G, M, _, E, hv, h, fun vs G1 M1 H1 hv1 q => ⟨G1, M1, R, E, hv1, q, hR, hE⟩, hE⟩
  have hl : us.length = ps.length := by rw [← r.length]; exact F.len _ _ _ _ q
  have b := hb s1 us I1.kIn (by rw [List.append_nil]; exact hl)
  rw [List.append_nil] at b
  refine wpAny_call (codeAny_mono (F.go (args := ⟨us, []⟩) hg0 hr I1.env0 b r q) fun r s' hq => ?_)
  match r, hq with
  | .error e, hq => exact passAt tk σ pins H1 s1 e s' I1 hq
  | .ok (.ret u), hq => exact I1.after hq
  | .ok .next, hq => exact False.elim hq
  | .ok .brk, hq => exact False.elim hq
  | .ok .cont, hq => exact False.elim hq
/-- repr of data -/
def kRepr (K : PySem.W.Frag) : KC := fun vs G M R => match vs with
  | [x] => ∃ (d : PyData), DatAt K G M x d ∧ d.showable = true ∧ d.hasDict = false ∧ d.depth ≤ 30 ∧ d.shown.length ≤ sizeLine ∧ R (.str d.shown) G M
  | _ => False
theorem kc_repr (hg : X.A.guards = some []) (hu : X.A.units + 64 < cLine) : KCall X (.builtin "repr") (kRepr X.K) := by
  intro pins s σ H vs us Q I r h
  obtain ⟨G, M, R, hv, h, hR⟩ := h
  match vs, h with
  | [x], ⟨d, h1, h2, h3, h4, h5, h6⟩ =>
    have hd := hv.dat h1
    cases r with
    | @cons _ u _ _ rx rr =>
      cases rr
      have fin : ∀ (h' : Heap) (t : Tok) (tk : Tok), (∀ b o, s.heap.get? b = some o → h'.get? b = some o) → EP X pins σ Q (.str d.shown t) { s with heap := h', toks := tk } := fun h' t tk hk => ⟨.str d.shown, H, I.kept hk, ⟨t, rfl⟩, hR _ _ _ _ hv h6⟩
      cases hd with
      | non =>
        obtain rfl : u = Value.none := rx
        exact PySem.P.repr_of_none (fin _ _ _ fun _ _ z => z)
      | bl b =>
        obtain rfl : u = Value.bool b := rx
        exact PySem.P.repr_of_bool (fin _ _ _ fun _ _ z => z)
      | int i =>
        obtain ⟨t, rfl⟩ := (show ∃ t, u = Value.int i t from rx)
        exact PySem.P.repr_of_int (of_decide_eq_true (by simpa [PyData.showable] using h2)) (fin _ _ _ fun _ _ z => z)
      | str z =>
        obtain ⟨t, rfl⟩ := (show ∃ t, u = Value.str z t from rx)
        exact PySem.P.repr_of_str (fin _ _ _ fun _ _ z => z) h5
      | @lst a xs ds h7 h8 =>
        obtain rfl : u = Value.ref a := rx
        obtain ⟨as, rd⟩ := Dp.reads I (.list ds) (.ref a) (.ref a) (.lst h7 h8) rfl
        exact repr_of_reads' rd h2 (fun z => by rw [h3] at z; cases z) hg (by omega) (fun _ _ z => z) (fun h' u tk hk => fin _ _ _ hk) h5
      | @tup a xs ds h7 h8 =>
        obtain rfl : u = Value.ref a := rx
        obtain ⟨as, rd⟩ := Dp.reads I (.tuple ds) (.ref a) (.ref a) (.tup h7 h8) rfl
        exact repr_of_reads' rd h2 (fun z => by rw [h3] at z; cases z) hg (by omega) (fun _ _ z => z) (fun h' u tk hk => fin _ _ _ hk) h5
end
end BT
namespace BT
open PySem PySem.Spec L2
open PyProof.Rows hiding St
/-- the law's own call, where nothing but the script is known of the heap -/
theorem call_known {P : Program} {w : World} {K : PySem.W.Frag} {mg mb : Str → Option Value} {k : Nat} {fa a : Addr} {fd : FuncData} {x : Str} {sp : Sp} {s : Shared} {us : List Value} {ns : List Int} (inK : K.In s.heap) (gl : s.heap.Ns mainGlobals mg) (bi : s.heap.Ns builtinsNs mb) (boot : ∀ x : Str, x ≠ "__name__" → mb x = bootBuiltins x)
    (nolim : s.heap.NoLimit) (gens : s.gens = #[]) (hobj : s.heap.get? a = some { cls := .type "list", data := .seq us.toArray }) (rm : Room k callerA) (F : ∀ base : Heap, K.In base → base.Ns mainGlobals mg → GFn P w K mg base k fa fd [x] sp) (bd : ∀ (s : Shared) (u : Value), BindsTo s fd ⟨[u], []⟩ [(x, u)])
    (H : Hp) (only : L2.Only H) (hs : sp [.ref a] H (fun v _ => v = .bl true) fun _ _ _ => False) (hok : HOk P w H s.heap) (one : ∀ b, H b ≠ none → b = a) (own : H a ≠ none → K.lookup a = none) :
    codeAny (model P w) callerA (.call (.ref fa) ⟨[.ref a], []⟩) (fun r s' => r = .ok (.ret (.bool true)) ∧ OldK s.heap s'.heap ∧ s'.os = s.os ∧ AllBare s'.gens) s := by
  have seen : ∀ {b : Addr} {o : Obj}, s.heap.get? b = some o → H b = none → (hidT s.heap H).get? b = some o := fun e z => hidT_get e z
  have nodict : ∀ {b : Addr} {o : Obj} {es : Array DictEntry} {ep : Nat}, s.heap.get? b = some o → o.data = .dict es ep → H b = none := fun {b o es ep} e dd => by
    apply Classical.byContradiction
    intro z
    have ba := one b z
    subst ba
    rw [hobj] at e
    cases e
    exact absurd (show Data.seq us.toArray _ = Data.dict es ep from dd) (by intro y; cases y)
  have ns2 : ∀ {b : Addr} {m : Str → Option Value}, s.heap.Ns b m → (hidT s.heap H).Ns b m := fun ⟨o, es, ep, e, dd, r⟩ => ⟨o, es, ep, seen e (nodict e dd), dd, r⟩
  have inB : K.In (hidT s.heap H) := fun b o e => seen (inK b o e) (by
    apply Classical.byContradiction
    intro z
    have ba := one b z
    subst ba
    rw [own z] at e
    cases e)
  obtain ⟨mc, l1, l2⟩ := nolim
  have md : Mod K mg (hidT s.heap H) := ⟨inB, ns2 gl, ⟨mb, ns2 bi, boot⟩, ⟨mc, ns2 l1, l2⟩⟩
  have en : Env0 P w K mg (hidT s.heap H) callerA [] s H := ⟨rfl, md, fun b o e => of_hidT e, Nat.le_of_eq (hidT_size _ _), trivial, (fun b z => nomatch z), hok, .of_eq gens⟩
  refine codeAny_mono ((F _ inB (ns2 gl)).go (args := ⟨[.ref a], []⟩) (us := [.ref a]) (vs := [.ref a]) rfl rm en (bd s (.ref a)) (.cons rfl .nil) hs) fun r s' h => ?_
  match r, h with
  | .error e, h => exact (cx_none h).elim
  | .ok .next, h => exact False.elim h
  | .ok .brk, h => exact False.elim h
  | .ok .cont, h => exact False.elim h
  | .ok (.ret u), ⟨v, H', h1, h2, un, h3, h4, h5⟩ =>
    have e5 : v = .bl true := h5
    subst e5
    obtain rfl : u = Value.bool true := h4
    refine ⟨rfl, OldK.of_keep fun b o e => ?_, h1, h2⟩
    by_cases z : H b = none
    · exact un.keep b o e z (fun y => nomatch y) (by simp)
    · rcases only b with y | ⟨ob, xs, y⟩
      · exact (z y).elim
      · obtain ⟨e1, _⟩ := hok b _ y
        obtain ⟨e2, _⟩ := h3 b _ (un.frzs b ob _ y)
        rw [e] at e1
        cases e1
        exact e2
theorem law_callG {P : Program} {w : World} {K : PySem.W.Frag} {mg mb : Str → Option Value} {k : Nat} {fa a : Addr} {fd : FuncData} {x : Str} {sp : Sp} {s : Shared} {us : List Value} {ns : List Int} (inK : K.In s.heap) (gl : s.heap.Ns mainGlobals mg) (bi : s.heap.Ns builtinsNs mb) (boot : ∀ x : Str, x ≠ "__name__" → mb x = bootBuiltins x)
    (nolim : s.heap.NoLimit) (gens : s.gens = #[]) (hobj : s.heap.get? a = some { cls := .type "list", data := .seq us.toArray }) (hi : IntsAre us ns) (hl : ns.length ≤ sizeLine) (rm : Room k callerA) (F : ∀ base : Heap, K.In base → base.Ns mainGlobals mg → GFn P w K mg base k fa fd [x] sp)
    (bd : ∀ (s : Shared) (u : Value), BindsTo s fd ⟨[u], []⟩ [(x, u)]) (hs : ∀ H : Hp, L2.Only H → SqL K H a (ns.map V.int) → sp [.ref a] H (fun v _ => v = .bl true) fun _ _ _ => False) :
    codeAny (model P w) callerA (.call (.ref fa) ⟨[.ref a], []⟩) (fun r s' => r = .ok (.ret (.bool true)) ∧ OldK s.heap s'.heap ∧ s'.os = s.os ∧ AllBare s'.gens) s := by
  have rv := L2.vals_ints hi
  by_cases own : K.lookup a = none
  · obtain ⟨H, hH⟩ : ∃ H : Hp, H = fun b => if b = a then some (.frz { cls := .type "list", data := .seq us.toArray } (.lst (ns.map V.int))) else none := ⟨_, rfl⟩
    have at_ : ∀ b, (b = a ∧ H b = some (.frz { cls := .type "list", data := .seq us.toArray } (.lst (ns.map V.int)))) ∨ (b ≠ a ∧ H b = none) := fun b => by
      rw [hH]
      by_cases z : b = a
      · exact .inl ⟨z, if_pos z⟩
      · exact .inr ⟨z, if_neg z⟩
    have atA : H a = some (.frz { cls := .type "list", data := .seq us.toArray } (.lst (ns.map V.int))) := by
      rcases at_ a with h | h
      · exact h.2
      · exact (h.1 rfl).elim
    have only : L2.Only H := fun b => (at_ b).elim (fun h => .inr ⟨_, _, h.2⟩) fun h => .inl h.2
    refine call_known (ns := ns) inK gl bi boot nolim gens hobj rm F bd H only (hs H only (.inl (.inr ⟨_, atA⟩))) (fun b u z => ?_) (fun b z => ?_) fun _ => own
    · rcases at_ b with h | h
      · rw [h.2] at z
        cases z
        rw [h.1]
        exact ⟨hobj, by rw [List.length_map]; exact hl, us, _, rv, hobj⟩
      · rw [h.2] at z
        cases z
    · rcases at_ b with h | h
      · exact h.1
      · exact (z h.2).elim
  · obtain ⟨o, ho⟩ : ∃ o, K.lookup a = some o := by
      cases e : K.lookup a with
      | none => exact (own e).elim
      | some o => exact ⟨o, rfl⟩
    have e := inK a o ho
    rw [hobj] at e
    cases e
    refine call_known (ns := ns) inK gl bi boot nolim gens hobj rm F bd (fun _ => none) (fun _ => .inl rfl) (hs _ (fun _ => .inl rfl) (.inr ⟨_, us.toArray, _, ho, rfl, rfl, rfl, ?_, by simpa using rv⟩)) (fun b u z => nomatch (show (none : Option HO) = some u from z)) (fun b z => (z rfl).elim) fun z => (z rfl).elim
    rw [List.size_toArray, hi.length]
    exact hl
theorem walk_ofG {l : PySem.W.OpenLaw} {n k : Nat} {q : Program} {loose : List Str} {XP : (Str → Option Value) → Heap → Prop} {YP : World → Heap → Prop} {d : DefRec} {K : Params → PySem.W.Frag} {sp : World → Sp} {x : Str} (hn : l.most = some n) (hn2 : n ≤ sizeLine) (hdf : d.params.defaults = []) (rm : Room k callerA)
    (hY : ∀ (w : World) (h : Heap), YP w h → (K w.params).In h) (F : ∀ (w : World) (mg : Str → Option Value) (fa : Addr) (h : Heap), (K w.params).In h → h.Ns mainGlobals mg → mg d.name = some (.ref fa) → ∃ fd : FuncData, (∀ (s : Shared) (u : Value), BindsTo s fd ⟨[u], []⟩ [(x, u)]) ∧ ∀ base : Heap, (K w.params).In base → base.Ns mainGlobals mg → GFn l.prog w (K w.params) mg base k fa fd [x] (sp w))
    (hsp : ∀ (w : World) (H : Hp) (a : Addr) (ns : List Int), ns.length ≤ n → L2.Only H → SqL (K w.params) H a (ns.map V.int) → sp w [.ref a] H (fun v _ => v = .bl true) fun _ _ _ => False) : PySem.W.WalkO q loose XP YP l.row.toRowW d [] (fun f vs => PySem.call f vs) := by
  refine Att.attach_call hn hdf fun w s₀ s₁ mg mb fa o pm cd doc a vs ns G Y ho hd hcd hmg hobj hints hlen hg => ?_
  obtain ⟨fd, hb, hF⟩ := F w mg fa _ (hY w _ Y) G.T.g hmg
  exact law_callG (hY w _ Y) G.T.g G.T.b G.T.builtins G.T.nolimit hg hobj hints (Nat.le_trans hlen hn2) rm hF hb fun H hO hS => hsp w H a ns hlen hO hS
end BT
namespace BT
open PySem PySem.Spec L2
/-! ### data that may be shown -/
structure Sho (p w : Nat) (d : PyData) : Prop where
  s : d.showable = true
  n : d.hasDict = false
  l : d.leavesShort 25 = true
  p : d.depth ≤ p
  w : d.weight ≤ w
theorem Sho.up {p p' w w' : Nat} {d : PyData} (h : Sho p w d) (hp : p ≤ p') (hw : w ≤ w') : Sho p' w' d := ⟨h.s, h.n, h.l, Nat.le_trans h.p hp, Nat.le_trans h.w hw⟩
theorem sho_int {i : Int} (h0 : 0 ≤ i) (h : i < 10 ^ 20) : Sho 0 70 (.int i) := by
  have hl : i.natAbs < 2 ^ 67 := by
    have : (10 : Int) ^ 20 < 2 ^ 67 := by decide
    have e : ((i.natAbs : Nat) : Int) = i := by omega
    have : ((i.natAbs : Nat) : Int) < ((2 ^ 67 : Nat) : Int) := by rw [e]; exact Int.lt_trans h this
    exact Int.ofNat_lt.mp this
  have h67 : i.natAbs ≠ 0 → i.natAbs.log2 < 67 := fun z => (Nat.log2_lt z).mpr hl
  have hlog : i.natAbs.log2 < 67 := by
    by_cases z : i.natAbs = 0
    · rw [z]; decide
    · exact h67 z
  refine ⟨?_, rfl, ?_, Nat.le_refl _, ?_⟩
  · show decide (i.natAbs.log2 < 1920) = true
    exact decide_eq_true (by omega)
  · show decide ((PyData.shown (.int i)).length ≤ 25) = true
    have := PyProof.Rows.toString_length_le h0 (k := 20) (by decide) h
    exact decide_eq_true (Nat.le_trans this (by decide))
  · show (if i == 0 then 0 else i.natAbs.log2 + 1) ≤ 70
    split <;> omega
theorem sho_non : Sho 0 0 .none := ⟨rfl, rfl, rfl, Nat.le_refl _, Nat.le_refl _⟩
theorem sho_bl {b : Bool} : Sho 0 0 (.bool b) := ⟨rfl, rfl, rfl, Nat.le_refl _, Nat.le_refl _⟩
theorem sho_all {p w : Nat} : ∀ {ds : List PyData}, (∀ d, d ∈ ds → Sho p w d) → PyData.showableAll ds = true ∧ PyData.hasDictAll ds = false ∧ PyData.leavesShortAll 25 ds = true ∧ PyData.depthAll ds ≤ p ∧ PyData.weightAll ds ≤ ds.length * (w + 1)
  | [], _ => ⟨rfl, rfl, rfl, Nat.zero_le _, Nat.zero_le _⟩
  | d :: ds, h => by
    obtain ⟨a1, a2, a3, a4, a5⟩ := sho_all fun x hx => h x (List.mem_cons_of_mem _ hx)
    have b := h d List.mem_cons_self
    refine ⟨?_, ?_, ?_, ?_, ?_⟩
    · show (d.showable && PyData.showableAll ds) = true
      rw [b.s, a1]; rfl
    · show (d.hasDict || PyData.hasDictAll ds) = false
      rw [b.n, a2]; rfl
    · show (d.leavesShort 25 && PyData.leavesShortAll 25 ds) = true
      rw [b.l, a3]; rfl
    · show max d.depth (PyData.depthAll ds) ≤ p
      have := b.p; omega
    · show d.weight + 1 + PyData.weightAll ds ≤ (ds.length + 1) * (w + 1)
      have := b.w
      rw [Nat.succ_mul]; omega
theorem sho_list {p w : Nat} {ds : List PyData} (h : ∀ d, d ∈ ds → Sho p w d) : Sho (p + 1) (ds.length * (w + 1)) (.list ds) := by
  obtain ⟨a1, a2, a3, a4, a5⟩ := sho_all h
  exact ⟨a1, a2, a3, Nat.succ_le_succ a4, a5⟩
theorem sho_tup {p w : Nat} {ds : List PyData} (h : ∀ d, d ∈ ds → Sho p w d) : Sho (p + 1) (ds.length * (w + 1)) (.tuple ds) := by
  obtain ⟨a1, a2, a3, a4, a5⟩ := sho_all h
  exact ⟨a1, a2, a3, Nat.succ_le_succ a4, a5⟩
theorem repr_sho {K : PySem.W.Frag} {G : Hp} {M : Mem} {R : KR} {x : V} {d : PyData} {p w : Nat} (h : DatAt K G M x d) (s : Sho p w d) (hp : p ≤ 30) (hw : w ≤ 600000) (q : R (.str d.shown) G M) : kRepr K [x] G M R :=
  ⟨d, h, s.s, s.n, Nat.le_trans s.p hp, Nat.le_trans (PyData.shown_le 25 (by decide) d s.l) (Nat.le_trans (m := (25 + 2) * 600000 + 25) (Nat.add_le_add_right (Nat.mul_le_mul_left _ (Nat.le_trans s.w hw)) _) (by decide)), q⟩
end BT
set_option Elab.async false
set_option linter.all false
set_option maxRecDepth 100000
set_option maxHeartbeats 4000000
/-! sorted(set(xs)), xs a list of ints -/
namespace BT
open PySem PySem.Spec L2
open PyProof.Rows hiding St
section
variable {P : Program} {w : World} {A : Around} {E : Value → Shared → Prop} {s : Shared}
/-- a set that was made just now -/
def setO (b : Bool) : Obj := { cls := .type "set", dict := none, data := .set #[] 0 (.fresh 0 0 b) }
def withO (s : Shared) (o : Obj) : Shared := { s with heap := s.heap.push o }
set_option maxHeartbeats 3200000 in
theorem set_of_ints {l : Addr} {xs : Array Value} (ns : List Int) {Q : Value → Shared → Prop} (quiet : A.handled = none) (isL : s.heap.IsList l xs) (isI : IntsAre xs.toList ns) (few : ns.length + 1 < scanBound)
    (fin : ∀ (h' : Heap) (tk c : Nat), SetR w h' s.heap.objs.size (fun j => decide (j ∈ ns)) c → c ≤ ns.length → (∀ b o, s.heap.get? b = some o → h'.get? b = some o) → Q (.ref s.heap.objs.size) { s with heap := h', toks := tk }) :
    wpAny (model P w) A (call (.type "set") [.ref l]) Q E s := by
  have sameN : xs.size = ns.length := by
    have z := IntsAre.length isI
    rwa [Array.length_toList] at z
  obtain ⟨b, hb⟩ : ∃ b, b = !w.params.followText "set-order" := ⟨_, rfl⟩
  obtain ⟨i0, i1, i2⟩ := PySem.F.called_set.mro
  have i3 := PySem.F.called_set.made
  have i4 := PySem.F.called_set.sub
  refine wpAny_call (codeAny_of_tree (show wpAny _ _ (callAny (.type "set") _) _ _ _ from wpAny_pure ⟨Code.quiet_builtin _ (by decide +kernel), codeAny_builtin PySem.F.entry_type_call ?_⟩))
  rw [Around.under_plain (weight_type_call_type "set" [.ref l] []) rfl]
  have i5 := PySem.F.called_set.notType
  have i6 := PySem.F.called_set.canCreate
  have i7 := PySem.F.typeCall_set_1 (.ref l)
  iterate 20 (try (any_goals (first | assumption | wp_step)))
  refine codeAny_mono (code_set_led1 (.ref l) (E := E) (Q₁ := fun v s1 => v = .ref s.heap.objs.size ∧ s1 = withO s (setO b)) ⟨rfl, by rw [hb]; rfl⟩) fun r1 s1 hr1 => ?_
  match r1, hr1 with
  | .error _, z => exact z
  | .ok (.ret v1), z =>
    obtain ⟨rfl, rfl⟩ := z
    obtain ⟨hp0, hhp0⟩ : ∃ h, h = s.heap.push (setO b) := ⟨_, rfl⟩
    have at0 : hp0.get? s.heap.objs.size = some (setO b) := by rw [hhp0]; exact Heap.get?_push_size _ rfl
    have old0 : ∀ x o, s.heap.get? x = some o → hp0.get? x = some o := fun x o e => by rw [hhp0]; exact Heap.get?_push_of_some _ e
    have sz0 : hp0.objs.size = s.heap.objs.size + 1 := by rw [hhp0]; exact Heap.size_push ..
    have ew : withO s (setO b) = { s with heap := hp0 } := by rw [hhp0]; rfl
    rw [ew]
    have ty0 : Shared.TypeIs { s with heap := hp0 } (.ref s.heap.objs.size) "set" := ⟨_, at0, rfl⟩
    have j1 := PySem.F.called_set.init.lookup
    have j2 := PySem.F.called_set.init.bind (.ref s.heap.objs.size)
    iterate 20 (try (any_goals (first | assumption | wp_step)))
    refine codeAny_mono (codeAny_call_builtin (R := wants (fun v2 s2 => v2 = .none ∧ ∃ (h2 : Heap) (k2 c2 : Nat), s2 = { s with heap := h2, toks := k2 } ∧ SetR w h2 s.heap.objs.size (fun j => decide (j ∈ ns)) c2 ∧ c2 ≤ ns.length ∧ ∀ x o, s.heap.get? x = some o → h2.get? x = some o) E) PySem.F.called_set.init.plain PySem.F.entry_set_init (check_set_init_1 ty0 ?_)) fun r2 s2 hr2 => ?_
    · obtain ⟨ol, hol, cl0, n0, da0⟩ := isL
      obtain ⟨k1, k2, k3, k4⟩ := ol
      dsimp only at cl0 da0
      subst cl0 da0
      have lst0 : hp0.get? l = some { cls := .type "list", dict := k2, data := .seq xs n0, slots := k4 } := old0 _ _ hol
      have m1 := PySem.F.sub_list_set
      have m2 := PySem.F.sub_list_frozenset
      have m3 : ((Value.type "list") == (Value.type "dict")) = false := by decide
      have lst1 : hp0.IsList l xs := ⟨_, lst0, rfl, n0, rfl⟩
      unfold Builtin.«set.__init__» noKeywords Builtin.Frozenset.updateFrom
      generalize itE : pyIter = IT
      wp_walk
      subst itE
      refine wpAny_pyIter_list lst1 (wpAny_bind (wpAny_runValue ?_))
      have ltL : l < s.heap.objs.size := Heap.lt_size hol
      have nh : A.in1.in1.in1.handled = none := by simp [quiet]
      have neL : l ≠ hp0.objs.size := by rw [sz0]; exact Nat.ne_of_lt (Nat.lt_succ_of_lt ltL)
      have notIn : s.heap.objs.size ∉ [hp0.objs.size, l] := by
        rw [sz0]
        simp only [List.mem_cons, List.not_mem_nil, or_false, not_or]
        exact And.intro (Nat.ne_of_lt (Nat.lt_succ_self _)) (Nat.ne_of_gt ltL)
      have isV : ∀ (i : Nat) (v : Value), xs[i]? = some v → ∃ k t, ns[i]? = some k ∧ v = .int k t := fun i v hv => by
        have lt : i < ns.length := by rw [← sameN]; exact (Array.getElem?_eq_some_iff.mp hv).1
        obtain ⟨t, e⟩ := PyProof.Rows.IntsAre.int_at isI i v (by rw [Array.getElem?_toList]; exact hv)
        refine ⟨ns[i], t, List.getElem?_eq_getElem lt, ?_⟩
        rw [e, List.getD_eq_getElem?_getD, List.getElem?_eq_getElem lt]; rfl
      refine set_update_ints (Walks.list nh _ l neL xs).toS s.heap.objs.size notIn ns sameN few isV (xs.size - 0) 0 _ (by omega) (Nat.zero_le _) ⟨⟨_, Heap.get?_push_size _ rfl, rfl, rfl⟩, lst1.push _⟩ ⟨0, Nat.le_refl 0, setR_new_at ?_⟩ fun s3 c3 mv hc3 hS3 => ?_
      · rw [← hb]; exact Heap.get?_push_of_some _ at0
      · obtain ⟨h3, g3, d3, t3, o3⟩ := s3
        obtain rfl : g3 = s.gens := mv.gens
        obtain rfl : d3 = s.drawn := mv.drawn
        obtain rfl : o3 = s.os := mv.os
        rw [sameN] at hc3
        refine wpAny_pure (show wpAny _ _ (ret Value.none) _ _ _ from wpAny_pure ⟨rfl, h3, t3, c3, rfl, hS3, hc3, fun x o e => ?_⟩)
        have ltX : x < s.heap.objs.size := Heap.lt_size e
        refine mv.heap x o ?_ (Heap.get?_push_of_some _ (old0 _ _ e))
        rw [sz0]
        simp only [List.mem_cons, List.not_mem_nil, or_false, not_or]
        exact And.intro (Nat.ne_of_lt ltX) (Nat.ne_of_lt (Nat.lt_succ_of_lt ltX))
    · match r2, hr2 with
      | .error _, z => exact z
      | .ok (.ret v2), z =>
        obtain ⟨rfl, h2, k2, c2, rfl, z1, z2, z3⟩ := z
        iterate 20 (try (any_goals (first | assumption | wp_step)))
        exact fin _ _ _ z1 z2 z3
      | .ok .next, z => exact z.elim
      | .ok .brk, z => exact z.elim
      | .ok .cont, z => exact z.elim
  | .ok .next, z => exact z.elim
  | .ok .brk, z => exact z.elim
  | .ok .cont, z => exact z.elim
end
section
variable {X : Cx} {W : WX}
def kSortedSet (K : PySem.W.Frag) (t : KE) : KE := fun σ G M R E => t σ G M (fun x G M => match x with
  | .ref a => ∃ ns : List Int, LstAt K G M a (ns.map V.int) ∧ ns.length ≤ 60 ∧ ∀ (p : Addr) (ms : List Int), Fr G M p → ms.Pairwise (· < ·) → (∀ k, k ∈ ms ↔ k ∈ ns) → ms.length ≤ ns.length → R (.ref p) G ((p, .lst (ms.map V.int)) :: M)
  | _ => False) E
theorem je_sortedSet {a : Expr} {ta : KE} {p p2 q pos : Pos} (hm : X.mg "sorted" = none) (hm2 : X.mg "set" = none) (ha : JE X W a ta) (hc : X.calm = true := by rfl) (hg : Gl X "sorted" := by rfl) (hg2 : Gl X "set" := by rfl)
    (na : starEach [a] X.env = (false, eval a X.env) :: starEach [] X.env := by rfl) : JE X W (.Call (.Name "sorted" p) [.Call (.Name "set" p2) [a] [] q] [] pos) (kSortedSet X.K ta) := by
  refine ⟨fun pins s σ H Q I ⟨G, M, R, E, hv, h, hR, hE⟩ => ?_⟩
  refine Call_ (ld_blt I hg hm (show bootBuiltins "sorted" = some (.builtin "sorted") by decide +kernel) ?_)
  refine PyProof.Rows.callWith_builtin1 (PyProof.Rows.args_cons ?_ rfl) rfl rfl
  refine Call_ (ld_blt I hg2 hm2 PyProof.Rows.boot_set ?_)
  refine PyProof.Rows.callWith_type1 (PyProof.Rows.args_cons (thn (ha.run pins s σ H (fun x H1 => ∃ (l : Addr) (ns : List Int), x = V.ref l ∧ SqL X.K H1 l (ns.map V.int) ∧ ns.length ≤ 60 ∧ ∀ (p : Addr) (ms : List Int), H1 p = none → ms.Pairwise (· < ·) → (∀ k, k ∈ ms ↔ k ∈ ns) → ms.length ≤ ns.length → Q (.ref p) (upd H1 p (.lst (ms.map V.int)))) I ?_) fun v s1 ⟨x, H1, I1, r1, q1⟩ => PyProof.Rows.args_nil ?_) na) na rfl
  · refine ⟨G, M, _, E, hv, h, fun x G1 M1 H1 hv1 q => ?_, hE⟩
    match x, q with
    | .ref a, ⟨ns, q1, q2, q3⟩ => exact ⟨a, ns, rfl, hv1.lst q1, q2, fun p ms e0 e1 e2 e3 => hR _ G1 _ _ (hv1.newM e0) (q3 p ms (hv1.fr e0) e1 e2 e3)⟩
  obtain ⟨l, ns, rfl, hq, h1, q1⟩ := q1
  cases r1
  obtain ⟨its, r, pl, hz⟩ := I1.list hq
  refine set_of_ints ns (I1.ok.hd hc) pl.isList (by simpa using r.ints) (by unfold scanBound; omega) fun h' tk c hS hcl hk => ?_
  refine PyProof.Rows.args_nil ?_
  have I2 : Inv X pins σ H1 { s1 with heap := h', toks := tk } := I1.kept hk
  refine sorted_set hS (I1.ok.hd hc) (by omega) fun s' p out ep ms k1 g1 o1 hp hat hin hpw hmem hlen => ?_
  have hfr : H1 p = none := I2.hok.fresh hp
  have hlen2 : (ms.map V.int).length ≤ sizeLine := by rw [List.length_map]; exact sz (by omega)
  have hob : ObjOk X.prog X.w (upd H1 p (.lst (ms.map V.int))) s'.heap p (.lst (ms.map V.int)) := ⟨hlen2, out.toList, ep, vals_of_ints hin, by simpa [seqObj] using hat⟩
  have J := I2.call' (s' := s') (ch := []) o1 (Un.laid k1 hp hfr) (I2.hok.laid k1 hp hob) (by rw [g1]; exact I2.bare) (fun b z => absurd z (by simp))
  exact ⟨.ref p, _, J, rfl, q1 p ms hfr hpw (fun k => by rw [hmem k, decide_eq_true_iff]) (by rw [hlen]; exact hcl)⟩
end
end BT
set_option Elab.async false
set_option linter.all false
set_option maxRecDepth 100000
set_option maxHeartbeats 4000000
/-! dicts whose keys are tuples -/
namespace BT
open PySem PySem.Spec L2
open PyProof.Rows hiding St
section
variable {X : Cx} {W : WX} {pos : Pos} {o i e f : Expr}
def kDNewT : KE := fun _ G M R _ => ∀ q, Fr G M q → R (.ref q) G ((q, .dT []) :: M)
theorem je_dnewT : JE X W (.Dict [] [] pos) kDNewT := pe_mono pe_dnewT fun σ H Q ⟨G, M, R, E, hv, h, hR, hE⟩ => fun w hw => hR _ G _ _ (hv.newM hw) (h w (hv.fr hw))
/-- d[k] -/
def kDGetT : KR2 := fun x y G M R => match x, y with
  | .ref a, .ref b => ∃ (kvs : List (List Key × V)) (k : List Key) (v : V), At G M a (.dT kvs) ∧ G b = some (.tup (k.map kV)) ∧ valV kvs k = some v ∧ R v G M
  | _, _ => False
theorem je_dgetT {ta tb : KE} (hu : X.A.units + 64 < cLine) (ha : JE X W o ta) (hb : JE X W i tb) (hs : NoSl i := by exact fun _ _ => rfl) : JE X W (.Subscript o i pos) (kBin kDGetT ta tb) :=
  pe_mono (pe_dget (by omega) ha hb hs) fun σ H Q ⟨G, M, R, E, hv, h, hR, hE⟩ => ⟨G, M, _, E, hv, h, fun x G1 M1 H1 hv1 q1 => ⟨G1, M1, _, E, hv1, q1, fun y G2 M2 H2 hv2 q2 => by
    match x, y, q2 with
    | .ref a, .ref b, ⟨kvs, k, v, q3, q4, q5, q6⟩ =>
      refine ⟨a, v, rfl, ?_, hR _ G2 M2 H2 hv2 q6⟩
      rw [← q5]; exact DGet.t (hv2.at q3) (hv2.ex _ _ q4), hE⟩, hE⟩
/-- d[k] = v -/
def kDSetT (td ty tv : KE) : KS := fun D σ G M => tv σ G M (fun v G M => td σ G M (fun x G M => ty σ G M (fun y G M => match x, y with
  | .ref a, .ref b => ∃ (n : Nat) (kvs : List (List Key × V)) (k : List Key), M[n]? = some (a, .dT kvs) ∧ G b = some (.tup (k.map kV)) ∧ kvs.length < sizeLine ∧ D.nx σ G (M.set n (a, .dT (putK kvs k v)))
  | _, _ => False) (D.x σ)) (D.x σ)) (D.x σ)
theorem js_dsetT {td ty tv : KE} {value : Expr} {pos' : Pos} (hu : X.A.units + 64 < cLine) (ho : JE X W o td) (hi : JE X W i ty) (hv : JE X W value tv) (hs : swapsWith value (some (.Subscript o i pos')) pos.line X.env = pure false := by rfl) :
    JS X W (.Assign [.Subscript o i pos'] value pos) (kDSetT td ty tv) := ps_mono (ps_dput (by omega) ho hi hv hs) fun D σ H ⟨G, M, d, hv, h, en⟩ =>
  ⟨G, M, _, _, hv, h, fun v G1 M1 H1 hv1 q => ⟨G1, M1, _, _, hv1, q, fun x G2 M2 H2 hv2 q2 => ⟨G2, M2, _, _, hv2, q2, fun y G3 M3 H3 hv3 q3 => by
    match x, y, q3 with
    | .ref a, .ref b, ⟨n, kvs, k, q4, q5, q6, q7⟩ => exact ⟨a, _, rfl, DPut.t (hv3.get q4) (hv3.ex _ _ q5) q6, en.nx _ G3 _ _ (hv3.set q4) q7⟩, fun c a G' M' H' hv' q => en.xc c a σ G' M' H' hv' q⟩, fun c a G' M' H' hv' q => en.xc c a σ G' M' H' hv' q⟩, fun c a G' M' H' hv' q => en.xc c a σ G' M' H' hv' q⟩
/-- d.get(k, x) -/
def kDGet2T (td ty tx : KE) : KE := fun σ G M R E => td σ G M (fun x G M => match x with
  | .ref a => (∃ kvs, At G M a (.dT kvs)) ∧ ty σ G M (fun y G M => tx σ G M (fun z G M => ∃ (kvs : List (List Key × V)) (k : List Key) (b : Addr), At G M a (.dT kvs) ∧ y = .ref b ∧ G b = some (.tup (k.map kV)) ∧ R ((valV kvs k).getD z) G M) E) E
  | _ => False) E
theorem je_dget2T {td ty tx : KE} {apos cpos : Pos} (hu : X.A.units + 64 < cLine) (ho : JE X W o td) (he : JE X W e ty) (hf : JE X W f tx) (m : M2 X o "get" apos e f cpos := by exact ⟨rfl, rfl, rfl, rfl⟩) : JE X W (.Call (.Attribute o "get" apos) [e, f] [] cpos) (kDGet2T td ty tx) :=
  pe_mono (pe_dget2 (by omega) ho he hf m) fun σ H Q ⟨G, M, R, E, hv, h, hR, hE⟩ => ⟨G, M, _, E, hv, h, fun x G1 M1 H1 hv1 q1 => by
    match x, q1 with
    | .ref a, ⟨⟨kvs, q2⟩, q3⟩ => exact ⟨a, rfl, .inr ⟨kvs, .inl (hv1.at q2)⟩, G1, M1, _, E, hv1, q3, fun y G2 M2 H2 hv2 q4 => ⟨G2, M2, _, E, hv2, q4, fun z G3 M3 H3 hv3 q5 => by
        obtain ⟨kvs, k, b, q6, q7, q8, q9⟩ := q5
        subst q7
        exact ⟨_, DGet.t (hv3.at q6) (hv3.ex _ _ q8), hR _ G3 M3 H3 hv3 q9⟩, hE⟩, hE⟩, hE⟩
end
end BT
namespace BT
open PySem PySem.Spec L2
open PyProof.Rows hiding St
def storeKs : List Nat := []
/-! ### whole numbers -/
def isIntV : V → Bool
  | .int _ => true
  | _ => false
def withinV (x : V) (lo hi : Int) : Bool := match x with
  | .int i => decide (lo ≤ i) && decide (i ≤ hi)
  | _ => false
def S_is_whole (K : PySem.W.Frag) : KSp := sp1 fun x G M R Z => ∃ T : PT, TyK K G M x T ∧ R (.bl (T == .int)) G M
def S_is_within (K : PySem.W.Frag) : KSp := sp3 fun x y z G M R Z => ∃ (T : PT) (lo hi : Int), y = .int lo ∧ z = .int hi ∧ TyK K G M x T ∧ (T == .int) = isIntV x ∧ R (.bl (withinV x lo hi)) G M
def isStrV : V → Bool
  | .str _ => true
  | _ => false

/-! ### things whose type is known -/
def WOk (K : PySem.W.Frag) (G : Hp) (w : V) : Prop := ∃ S : PT, (∀ M, TyK K G M w S) ∧ (S == .str) = isStrV w
def IOk (K : PySem.W.Frag) (G : Hp) (x : V) : Prop := ∃ T : PT, (∀ M, TyK K G M x T) ∧ (T == .int) = isIntV x

/-! ### kinds and draws -/
structure Kn where
  leaf : Bool
  n : Nat
def Kn.txt (k : Kn) : Str := if k.leaf then "leaf" else "shuffle"
def KnOk (k : Kn) : Prop := k.n ≤ 64 ∧ (k.leaf = true → k.n ≤ 6) ∧ (k.leaf = false → 1 ≤ k.n)
def fac : Nat → Nat
  | 0 => 1
  | n + 1 => (n + 1) * fac n
def manyK (k : Kn) : Nat := if k.leaf then 2 ^ k.n else fac k.n
def prK : List Kn → Nat
  | [] => 1
  | k :: ks => manyK k * prK ks
def knD (k : Kn) : PyData := .tuple [.str k.txt, .int k.n]
def rowAt : Nat → Nat → List Nat
  | 0, _ => []
  | s + 1, n => rowAt s (n / (s + 1)) ++ [n % (s + 1)]
/-- a draw: a leaf's number, or a row -/
inductive Dr | leaf (n : Nat) | row (l : List Nat)
def dOf (k : Kn) (n : Nat) : Dr := if k.leaf then .leaf n else .row (rowAt k.n n)
def drR : List Kn → Nat → List Dr
  | [], _ => []
  | k :: ks, n => dOf k (n % manyK k) :: drR ks (n / manyK k)
def drawsAt (ks : List Kn) (n : Nat) : List Dr := (drR ks.reverse n).reverse
def natsV (l : List Nat) : List V := l.map fun (n : Nat) => V.int (n : Int)
inductive A2 {α β : Type} (r : α → β → Prop) : List α → List β → Prop
  | nil : A2 r [] []
  | cons {a : α} {b : β} {as : List α} {bs : List β} : r a b → A2 r as bs → A2 r (a :: as) (b :: bs)
/-- a draw as it lies: a row's list is one of the cells -/
def DrM (M : Mem) (v : V) (d : Dr) : Prop := match d with
  | .leaf n => v = .int n
  | .row l => ∃ b, v = .ref b ∧ (b, HO.lst (natsV l)) ∈ M
def DrV (K : PySem.W.Frag) (G : Hp) (M : Mem) (v : V) (d : Dr) : Prop := match d with
  | .leaf n => v = .int n
  | .row l => ∃ b, v = .ref b ∧ LstAt K G M b (natsV l)
def KnAt (K : PySem.W.Frag) (G : Hp) (M : Mem) (a : Addr) (ks : List Kn) : Prop := ∃ us, LstAt K G M a us ∧ DpAll K G us (ks.map knD) ∧ (∀ k, k ∈ ks → KnOk k) ∧ ks.length ≤ 1000
def DrAt (K : PySem.W.Frag) (G : Hp) (M : Mem) (a : Addr) (ds : List Dr) : Prop := ∃ us, LstAt K G M a us ∧ A2 (DrV K G M) us ds
def DrOk (k : Kn) (d : Dr) : Prop := match d with
  | .leaf n => k.leaf = true ∧ n < 2 ^ k.n
  | .row l => k.leaf = false ∧ l.length = k.n ∧ ∀ (i v : Nat), l[i]? = some v → v ≤ i
def S_leaves (K : PySem.W.Frag) : KSp := sp1 fun x G M R Z => ∃ n : Nat, x = .int n ∧ n ≤ 1000 ∧ R (.int ((2 ^ n : Nat) : Int)) G M
def S_many_of (K : PySem.W.Frag) : KSp := sp1 fun x G M R Z => ∃ k : Kn, Dp K G x (knD k) ∧ KnOk k ∧ R (.int (manyK k)) G M
def S_how_many (K : PySem.W.Frag) : KSp := sp1 fun x G M R Z => ∃ (a : Addr) (ks : List Kn), x = .ref a ∧ KnAt K G M a ks ∧ R (.int (prK ks)) G M
def S_row_at (K : PySem.W.Frag) : KSp := sp2 fun x y G M R Z => ∃ s n : Nat, x = .int s ∧ y = .int n ∧ s ≤ 64 ∧ ∀ p, Fr G M p → R (.ref p) G ((p, .lst (natsV (rowAt s n))) :: M)
def S_draws_at (K : PySem.W.Frag) : KSp := sp2 fun x y G M R Z => ∃ (a : Addr) (ks : List Kn) (T : PT), x = .ref a ∧ KnAt K G M a ks ∧ TyK K G M y T ∧ (T == .int) = isIntV y ∧
  (∀ n : Nat, y = .int n → n < prK ks → ∀ (p : Addr) (us : List V) (Mn : Mem), A2 (DrM Mn) us (drawsAt ks n) → R (.ref p) G ((p, .lst us) :: (Mn ++ M))) ∧
  (withinV y 0 ((prK ks : Int) - 1) = false → Z (.ref (cl K "NoNumber")) none G M)

/-! ### sizes and needs -/
def highN (m : Nat) : Nat := ((List.range 6).filter fun k => decide (2 ^ k < m)).length
def lastN (m : Nat) : Nat := highN m - 1
def sideN (m : Nat) : Nat := ((List.range 7).filter fun k => decide (1 ≤ k) && decide (m ≤ k * k)).headD 0
def stairN (m p : Nat) : Nat := ((List.range 6).filter fun k => decide (k = lastN m) || decide (p % (2 * 2 ^ k) ≠ 0)).headD 0
def slotA (m st : Nat) : Nat := if st = lastN m then m else 2 * 2 ^ st
def trN : Nat → Nat → List Nat
  | 0, m => [m]
  | f + 1, m => if 4 < m then m :: trN f ((m + 3) / 4) else [m]
def treesN (m : Nat) : List Nat := trN 3 m
def spareK (m most : Nat) : List Kn := List.replicate ((most + sideN m - 1) / sideN m) ⟨false, m + sideN m⟩
def stairL (m most : Nat) : List Nat := lastN m :: (List.range ((most + 1) / 2 - 1)).map fun i => stairN m (i + 1)
def stairsK (m most : Nat) : List Kn := if most = 0 then [] else (stairL m most).map fun st => ⟨false, slotA m st + 2 * 2 ^ st⟩
def groveK (ts : List Nat) (most : Nat) : List Kn := (ts.flatMap fun m => List.replicate m ⟨true, highN m⟩) ++ (List.replicate most (ts.map fun m => (⟨true, highN m⟩ : Kn))).flatten
def kindsK (w : Str) (m most : Nat) : List Kn := if w = "spare" then spareK m most else if w = "stairs" then stairsK m most else if w = "tree" then groveK [m] most else if w = "grove" then groveK (treesN m) most else []
/-- a list of kinds that was told: a cell of its own -/
def KndsR (K : PySem.W.Frag) (G : Hp) (M : Mem) (ks : List Kn) (R : KR) : Prop := ∀ (t : Addr) (us : List V) (G' : Hp), Ex G G' → Fr G' M t → DpAll K G' us (ks.map knD) → R (.ref t) G' ((t, .lst us) :: M)
def natOk (x : V) (m : Nat) (lo hi : Nat) : Prop := x = .int m ∧ lo ≤ m ∧ m ≤ hi
def S_side_of (K : PySem.W.Frag) : KSp := sp1 fun x G M R Z => ∃ m, natOk x m 1 32 ∧ R (.int (sideN m)) G M
def S_high_of (K : PySem.W.Frag) : KSp := sp1 fun x G M R Z => ∃ m, natOk x m 1 32 ∧ R (.int (highN m)) G M
def S_last_of (K : PySem.W.Frag) : KSp := sp1 fun x G M R Z => ∃ m, natOk x m 1 32 ∧ R (.int (lastN m)) G M
def S_stair_of (K : PySem.W.Frag) : KSp := sp2 fun x y G M R Z => ∃ m p, natOk x m 1 32 ∧ natOk y p 1 30 ∧ R (.int (stairN m p)) G M
def S_slots_of (K : PySem.W.Frag) : KSp := sp2 fun x y G M R Z => ∃ m st, natOk x m 1 32 ∧ natOk y st 0 6 ∧ ∀ t G', Ex G G' → SqT K G' t [.int (slotA m st), .int ((2 * 2 ^ st : Nat) : Int)] → R (.ref t) G' M
def S_trees_of (K : PySem.W.Frag) : KSp := sp1 fun x G M R Z => ∃ m, natOk x m 1 32 ∧ ∀ t, Fr G M t → R (.ref t) G ((t, .lst (natsV (treesN m))) :: M)
def S_look_at_many (K : PySem.W.Frag) : KSp := sp1 fun x G M R Z => ∃ T : PT, TyK K G M x T ∧ (T == .int) = isIntV x ∧ (withinV x 1 32 = true → R .non G M) ∧ (withinV x 1 32 = false → Z (.ref (cl K "NoSize")) none G M)
def S_look_at_sizes (K : PySem.W.Frag) : KSp := sp2 fun x y G M R Z => ∃ T U : PT, TyK K G M x T ∧ (T == .int) = isIntV x ∧ TyK K G M y U ∧ (U == .int) = isIntV y ∧
  ((withinV x 1 32 && withinV y 0 60) = true → R .non G M) ∧ ((withinV x 1 32 && withinV y 0 60) = false → Z (.ref (cl K "NoSize")) none G M)
def waysL : List Str := ["scan", "spare", "stairs", "tree", "grove"]
def wayV (x : V) : Bool := match x with
  | .str s => waysL.contains s
  | _ => false
def S_look_at_way (K : PySem.W.Frag) : KSp := sp1 fun x G M R Z => ∃ T : PT, TyK K G M x T ∧ (T == .str) = isStrV x ∧ (wayV x = true → R .non G M) ∧ (wayV x = false → Z (.ref (cl K "NoWay")) none G M)
def S_spare_needs (K : PySem.W.Frag) : KSp := sp2 fun x y G M R Z => ∃ m q, natOk x m 1 32 ∧ natOk y q 0 60 ∧ KndsR K G M (spareK m q) R
def S_stairs_needs (K : PySem.W.Frag) : KSp := sp2 fun x y G M R Z => ∃ m q, natOk x m 1 32 ∧ natOk y q 0 60 ∧ KndsR K G M (stairsK m q) R
def S_grove_needs (K : PySem.W.Frag) : KSp := sp2 fun x y G M R Z => ∃ (a : Addr) (ts : List Nat) (q : Nat), x = .ref a ∧ LstAt K G M a (natsV ts) ∧ (∀ t, t ∈ ts → 1 ≤ t ∧ t ≤ 32) ∧ ts.length ≤ 3 ∧ natOk y q 0 60 ∧ KndsR K G M (groveK ts q) R
def S_kinds_of (K : PySem.W.Frag) : KSp := sp3 fun w x y G M R Z => ∃ (s : Str) (m q : Nat), w = .str s ∧ natOk x m 1 32 ∧ natOk y q 0 60 ∧ KndsR K G M (kindsK s m q) R
def S_needs (K : PySem.W.Frag) : KSp := sp3 fun w x y G M R Z => ∃ S T U : PT, TyK K G M w S ∧ (S == .str) = isStrV w ∧ TyK K G M x T ∧ (T == .int) = isIntV x ∧ TyK K G M y U ∧ (U == .int) = isIntV y ∧
  (∀ (s : Str) (m q : Nat), w = .str s → wayV w = true → natOk x m 1 32 → natOk y q 0 60 → KndsR K G M (kindsK s m q) R) ∧
  (wayV w = false → Z (.ref (cl K "NoWay")) none G M) ∧ (wayV w = true → (withinV x 1 32 && withinV y 0 60) = false → Z (.ref (cl K "NoSize")) none G M)

/-! ### orders and rows: what they are -/
def swapL (l : List Nat) (i j : Nat) : List Nat := (l.set i (l.getD j 0)).set j (l.getD i 0)
def walkO (r : Nat → Nat) : Nat → List Nat → List Nat
  | 0, o => o
  | m + 1, o => walkO r m (swapL o (m + 1) (r (m + 1)))
def orderOf (l : List Nat) : List Nat := walkO (fun i => l.getD i 0) (l.length - 1) (List.range l.length)
def walkR (o : Nat → Nat) : Nat → List Nat → List Nat → List Nat
  | 0, _, row => row
  | m + 1, left, row => walkR o m (swapL left (m + 1) (left.idxOf (o (m + 1)))) (row.set (m + 1) (left.idxOf (o (m + 1))))
def rowOf (o : List Nat) : List Nat := walkR (fun i => o.getD i 0) (o.length - 1) (List.range o.length) (List.replicate o.length 0)
/-- a shuffle's row -/
def RowOk (l : List Nat) : Prop := ∀ (i v : Nat), l[i]? = some v → v ≤ i
/-- an order of n -/
structure OrdOk (n : Nat) (o : List Nat) : Prop where
  len : o.length = n
  nd : o.Nodup
  lt : ∀ x, x ∈ o → x < n
/-- the ints of a list of things, where all are -/
def intOf : V → Int
  | .int i => i
  | _ => 0
def orderB (xs : List V) : Bool := decide (1 ≤ xs.length) && decide (xs.length ≤ 64) && xs.all (fun x => withinV x 0 ((xs.length : Int) - 1)) && decide ((xs.map intOf).Nodup)
def ItemsTy (K : PySem.W.Frag) (G : Hp) (M : Mem) (xs : List V) : Prop := ∀ x, x ∈ xs → ∃ T : PT, TyK K G M x T ∧ (T == .int) = isIntV x
/-- a thing that may be an order -/
def ordV (K : PySem.W.Frag) (G : Hp) (M : Mem) (x : V) (b : Bool) : Prop := (∃ T : PT, TyK K G M x T ∧ T ≠ .list ∧ b = false) ∨ ∃ (a : Addr) (xs : List V), x = .ref a ∧ LstAt K G M a xs ∧ xs.length ≤ 1000 ∧ ItemsTy K G M xs ∧ b = orderB xs
def S_is_order (K : PySem.W.Frag) : KSp := sp1 fun x G M R Z => ∃ b, ordV K G M x b ∧ R (.bl b) G M
def S_exchange (K : PySem.W.Frag) : KSp := sp3 fun x y z G M R Z => ∃ (a : Addr) (n : Nat) (l : List Nat) (i j : Nat), x = .ref a ∧ y = .int i ∧ z = .int j ∧ M[n]? = some (a, .lst (natsV l)) ∧ i < l.length ∧ j < l.length ∧ R .non G (M.set n (a, .lst (natsV (swapL l i j))))
def S_order_of (K : PySem.W.Frag) : KSp := sp1 fun x G M R Z => ∃ (a : Addr) (l : List Nat), x = .ref a ∧ LstAt K G M a (natsV l) ∧ RowOk l ∧ l.length ≤ 1000 ∧ ∀ t, Fr G M t → R (.ref t) G ((t, .lst (natsV (orderOf l))) :: M)
def S_row_of (K : PySem.W.Frag) : KSp := sp1 fun x G M R Z => (ordV K G M x false ∧ Z (.ref (cl K "NoOrder")) none G M) ∨ ∃ (a : Addr) (o : List Nat), x = .ref a ∧ LstAt K G M a (natsV o) ∧ OrdOk o.length o ∧ 1 ≤ o.length ∧ o.length ≤ 64 ∧ ∀ t, Fr G M t → R (.ref t) G ((t, .lst (natsV (rowOf o))) :: M)

/-! ### asks -/
inductive Deed | read (c : Nat) | write (c w : Nat)
def Deed.cell : Deed → Nat
  | .read c => c
  | .write c _ => c
def Deed.vs : Deed → List V
  | .read c => [.str "read", .int c]
  | .write c w => [.str "write", .int c, .int w]
def Deed.upd (ws : List Nat) : Deed → List Nat
  | .read _ => ws
  | .write c w => ws.set c w
def Deed.put (told : Nat) : Deed → Nat
  | .read _ => told
  | .write _ w => w
def DeedOk (m : Nat) (d : Deed) : Prop := d.cell < m ∧ match d with
  | .read _ => True
  | .write _ w => w ≤ 999999999999999999
def DeedAt (K : PySem.W.Frag) (G : Hp) (v : V) (d : Deed) : Prop := ∃ t, v = .ref t ∧ SqT K G t d.vs
/-- a thing whose first item may be compared with a text -/
def HeadOk (K : PySem.W.Frag) (G : Hp) (M : Mem) (x : V) : Prop := match x with
  | .ref a => (∃ d, DatAt K G M x d ∧ SeqAt.shaped d = true ∧ ∀ s, PyData.eqv d (.str s) = false) ∨ ∃ kvs, G a = some (.dK kvs)
  | .non => True
  | .int _ => True
  | .bl _ => True
  | .str _ => True
  | _ => False
def askB (m : Int) (xs : List V) : Bool := match xs with
  | x0 :: x1 :: r => withinV x1 0 (m - 1) && (match r with
    | [] => decide (x0 = .str "read")
    | [x2] => decide (x0 = .str "write") && withinV x2 0 999999999999999999
    | _ => false)
  | _ => false
def AskV (K : PySem.W.Frag) (G : Hp) (M : Mem) (m : Int) (y : V) (b : Bool) : Prop := (∃ T : PT, TyK K G M y T ∧ T ≠ .tuple ∧ b = false) ∨
  ∃ (t : Addr) (xs : List V), y = .ref t ∧ SqT K G t xs ∧ xs.length ≤ 1000 ∧ (∀ x, x ∈ xs → ∃ T : PT, TyK K G M x T ∧ (T == .int) = isIntV x) ∧ (∀ x, xs[0]? = some x → HeadOk K G M x) ∧ b = askB m xs
def S_is_ask (K : PySem.W.Frag) : KSp := sp2 fun x y G M R Z => ∃ (m : Int) (b : Bool), x = .int m ∧ AskV K G M m y b ∧ R (.bl b) G M
def S_need_ask (K : PySem.W.Frag) : KSp := sp2 fun x y G M R Z => ∃ (m : Int) (b : Bool), x = .int m ∧ AskV K G M m y b ∧ (b = true → R .non G M) ∧ (b = false → Z (.ref (cl K "NoAsk")) none G M)
/-- a thing that is no ask, wherever it is looked at -/
def NoAskG (K : PySem.W.Frag) (G : Hp) (m : Int) (v : V) : Prop := ∀ G2 M2, Ex G G2 → AskV K G2 M2 m v false

/-! ### looks at draws -/
def rowB (size : Nat) (xs : List V) : Bool := decide (xs.length = size) && (List.range xs.length).all fun i => withinV (xs.getD i .non) 0 (i : Int)
def RowV (K : PySem.W.Frag) (G : Hp) (M : Mem) (size : Nat) (y : V) (b : Bool) : Prop := (∃ T : PT, TyK K G M y T ∧ T ≠ .list ∧ b = false) ∨ ∃ (a : Addr) (xs : List V), y = .ref a ∧ LstAt K G M a xs ∧ xs.length ≤ 1000 ∧ ItemsTy K G M xs ∧ b = rowB size xs
def DrawV (K : PySem.W.Frag) (G : Hp) (M : Mem) (k : Kn) (y : V) (b : Bool) : Prop := if k.leaf then ∃ T : PT, TyK K G M y T ∧ (T == .int) = isIntV y ∧ b = withinV y 0 (((2 ^ k.n : Nat) : Int) - 1) else RowV K G M k.n y b
def S_is_row (K : PySem.W.Frag) : KSp := sp2 fun x y G M R Z => ∃ (n : Nat) (b : Bool), x = .int n ∧ RowV K G M n y b ∧ R (.bl b) G M
def S_is_draw (K : PySem.W.Frag) : KSp := sp2 fun x y G M R Z => ∃ (k : Kn) (b : Bool), Dp K G x (knD k) ∧ KnOk k ∧ DrawV K G M k y b ∧ R (.bl b) G M
def S_look_at_draws (K : PySem.W.Frag) : KSp := sp2 fun x y G M R Z => ∃ (a b : Addr) (ks : List Kn) (ds : List Dr), x = .ref a ∧ y = .ref b ∧ KnAt K G M a ks ∧ DrAt K G M b ds ∧ A2 DrOk ks ds ∧ R .non G M
/-- draws that are frozen -/
def DrsG (K : PySem.W.Frag) (G : Hp) (p : Addr) (ds : List Dr) : Prop := ∃ us, SqL K G p us ∧ A2 (DrV K G []) us ds
def S_copied (K : PySem.W.Frag) : KSp := sp1 fun x G M R Z => ∃ (b : Addr) (ds : List Dr), x = .ref b ∧ DrAt K G M b ds ∧ ds.length ≤ 1000 ∧ ∀ (p : Addr) (G' : Hp), Ex G G' → DrsG K G' p ds → R (.ref p) G' M

/-! ### keepers and shelves -/
structure Tch where
  lay : Bool
  shelf : Nat
  room : Nat
  deriving DecidableEq
def Tch.txt (t : Tch) : Str := if t.lay then "lay" else "look"
def tchD (t : Tch) : PyData := .tuple [.str t.txt, .int t.shelf, .int t.room]
/-- a list of touches, as it lies -/
def LogC (K : PySem.W.Frag) (G : Hp) (ts : List Tch) (o : HO) : Prop := ∃ vs, o = .lst vs ∧ DpAll K G vs (ts.map tchD)
structure KeepAt (K : PySem.W.Frag) (G : Hp) (M : Mem) (kp dk lg : Addr) (j l : Nat) (o : HO) (ts : List Tch) : Prop where
  k : M[j]? = some (kp, Ob K 1 dk [.ref lg])
  l : M[l]? = some (lg, o)
  c : LogC K G ts o
structure ShelfAt (K : PySem.W.Frag) (M : Mem) (a dx kp th : Addr) (num n i : Nat) (xs : List V) : Prop where
  s : M[n]? = some (a, Ob K 2 dx [.ref kp, .int num, .ref th])
  t : M[i]? = some (th, .lst xs)
/-- a list that is another cell than the one at n, or frozen -/
def LstN (K : PySem.W.Frag) (G : Hp) (M : Mem) (n : Nat) (b : Addr) (xs : List V) : Prop := (∃ i, n ≠ i ∧ M[i]? = some (b, .lst xs)) ∨ SqL K G b xs
def S_Keeper_init (K : PySem.W.Frag) : KSp := sp1 fun x G M R Z => ∃ (a dx : Addr) (n : Nat), x = .ref a ∧ M[n]? = some (a, Ob K 1 dx []) ∧ ∀ lg, Fr G M lg → R .non G ((lg, .lst []) :: M.set n (a, Ob K 1 dx [.ref lg]))
def S_Keeper_sees (K : PySem.W.Frag) : KSp := sp4 fun x y z u G M R Z => ∃ (kp dk lg : Addr) (j l : Nat) (o : HO) (ts : List Tch) (t : Tch), x = .ref kp ∧ y = .str t.txt ∧ z = .int t.shelf ∧ u = .int t.room ∧ KeepAt K G M kp dk lg j l o ts ∧ ts.length ≤ 1000000 ∧
  ∀ G' o', Ex G G' → LogC K G' (ts ++ [t]) o' → R .non G' (M.set l (lg, o'))
def S_Keeper_seen (K : PySem.W.Frag) : KSp := sp1 fun x G M R Z => ∃ (kp dk lg : Addr) (j l : Nat) (o : HO) (ts : List Tch), x = .ref kp ∧ KeepAt K G M kp dk lg j l o ts ∧ ∀ p, Fr G M p → R (.ref p) G ((p, o) :: M)
def S_Shelf_init (K : PySem.W.Frag) : KSp := sp4 fun x y z u G M R Z => ∃ (a dx b : Addr) (n : Nat) (xs : List V), x = .ref a ∧ u = .ref b ∧ M[n]? = some (a, Ob K 2 dx []) ∧ LstN K G M n b xs ∧ ∀ th, Fr G M th → R .non G ((th, .lst xs) :: M.set n (a, Ob K 2 dx [y, z, .ref th]))
def S_Shelf_rooms (K : PySem.W.Frag) : KSp := sp1 fun x G M R Z => ∃ (a dx kp th : Addr) (num n i : Nat) (xs : List V), x = .ref a ∧ ShelfAt K M a dx kp th num n i xs ∧ R (.int xs.length) G M
def S_Shelf_need_room (K : PySem.W.Frag) : KSp := sp2 fun x y G M R Z => ∃ (a dx kp th : Addr) (num n i : Nat) (xs : List V) (T : PT), x = .ref a ∧ ShelfAt K M a dx kp th num n i xs ∧ TyK K G M y T ∧ (T == .int) = isIntV y ∧ (withinV y 0 ((xs.length : Int) - 1) = true → R .non G M) ∧ (withinV y 0 ((xs.length : Int) - 1) = false → Z (.ref (cl K "NoRoom")) none G M)
def S_Shelf_look (K : PySem.W.Frag) : KSp := sp2 fun x y G M R Z => ∃ (a dx kp th : Addr) (num n i : Nat) (xs : List V), x = .ref a ∧ ShelfAt K M a dx kp th num n i xs ∧
  ((∃ T : PT, TyK K G M y T ∧ (T == .int) = isIntV y ∧ withinV y 0 ((xs.length : Int) - 1) = false ∧ Z (.ref (cl K "NoRoom")) none G M) ∨
   ∃ (dk lg : Addr) (j l : Nat) (o : HO) (ts : List Tch) (r : Nat) (v : V), y = .int r ∧ KeepAt K G M kp dk lg j l o ts ∧ ts.length ≤ 1000000 ∧ xs[r]? = some v ∧ l ≠ i ∧ ∀ G' o', Ex G G' → LogC K G' (ts ++ [⟨false, num, r⟩]) o' → R v G' (M.set l (lg, o')))
def S_Shelf_lay (K : PySem.W.Frag) : KSp := sp3 fun x y z G M R Z => ∃ (a dx kp th : Addr) (num n i : Nat) (xs : List V), x = .ref a ∧ ShelfAt K M a dx kp th num n i xs ∧
  ((∃ T : PT, TyK K G M y T ∧ (T == .int) = isIntV y ∧ withinV y 0 ((xs.length : Int) - 1) = false ∧ Z (.ref (cl K "NoRoom")) none G M) ∨
   ∃ (dk lg : Addr) (j l : Nat) (o : HO) (ts : List Tch) (r : Nat), y = .int r ∧ KeepAt K G M kp dk lg j l o ts ∧ ts.length ≤ 1000000 ∧ r < xs.length ∧ l ≠ i ∧ l ≠ n ∧ ∀ G' o', Ex G G' → LogC K G' (ts ++ [⟨true, num, r⟩]) o' → R .non G' ((M.set l (lg, o')).set i (th, .lst (xs.set r z))))

/-! ### trees of rooms -/
/-- what is in hand: words and leaves by cells -/
abbrev HF := Nat → Option (Nat × Nat)
def HF.put (f : HF) (c : Nat) (p : Nat × Nat) : HF := fun x => if x = c then some p else f x
/-- what lies in the rooms -/
abbrev Th := List (Option (Nat × Nat × Nat))
def entD : Option (Nat × Nat × Nat) → PyData
  | none => .none
  | some e => .tuple [.int e.1, .int e.2.1, .int e.2.2]
def nodeN (high d leaf : Nat) : Nat := 2 ^ d - 1 + leaf / 2 ^ (high - d)
def fitB (high d node : Nat) (f : HF) (c : Nat) : Bool := match f c with
  | some p => decide (nodeN high d p.2 = node)
  | none => false
def fitsN (m high d node : Nat) (f : HF) : List Nat := ((List.range m).filter (fitB high d node f)).take 2
def lookR (th : Th) (f : HF) (r : Nat) : HF := match th.getD r none with
  | some e => f.put e.1 e.2
  | none => f
def lookW (th : Th) (high leaf : Nat) (f : HF) (k : Nat) : HF := (List.range k).foldl (fun f d => lookR th (lookR th f (2 * nodeN high d leaf)) (2 * nodeN high d leaf + 1)) f
def lookT (num high leaf k : Nat) : List Tch := (List.range k).flatMap fun d => [⟨false, num, 2 * nodeN high d leaf⟩, ⟨false, num, 2 * nodeN high d leaf + 1⟩]
def takeC (f : HF) (cs : List Nat) (s : Nat) : Option (Nat × Nat × Nat) := match cs[s]? with
  | some c => (f c).map fun p => (c, p)
  | none => none
def layD (m high leaf : Nat) (s : Th × HF) (d : Nat) : Th × HF :=
  ((s.1.set (2 * nodeN high d leaf) (takeC s.2 (fitsN m high d (nodeN high d leaf) s.2) 0)).set (2 * nodeN high d leaf + 1) (takeC s.2 (fitsN m high d (nodeN high d leaf) s.2) 1), fun x => if x ∈ fitsN m high d (nodeN high d leaf) s.2 then none else s.2 x)
def layW (m high leaf : Nat) (s : Th × HF) (k : Nat) : Th × HF := (List.range k).foldl (fun s i => layD m high leaf s (high - i)) s
def layT (num high leaf k : Nat) : List Tch := (List.range k).flatMap fun i => [⟨true, num, 2 * nodeN high (high - i) leaf⟩, ⟨true, num, 2 * nodeN high (high - i) leaf + 1⟩]
def wayT (num high leaf : Nat) : List Tch := lookT num high leaf (high + 1) ++ layT num high leaf (high + 1)
structure HandF (K : PySem.W.Frag) (G : Hp) (m : Nat) (hv : List (Key × V)) (f : HF) : Prop where
  nd : (hv.map (·.1)).Nodup
  key : ∀ p, p ∈ hv → ∃ c : Nat, c < m ∧ p.1 = Sum.inl (c : Int)
  non : ∀ c : Nat, f c = none → valV hv (Sum.inl (c : Int)) = none
  val : ∀ (c : Nat) (p : Nat × Nat), f c = some p → ∃ v, valV hv (Sum.inl (c : Int)) = some v ∧ Dp K G v (.tuple [.int p.1, .int p.2])
structure BodyA where
  b : Addr
  db : Addr
  sh : Addr
  dh : Addr
  th : Addr
  fs : Addr
  hd : Addr
def bodyB (K : PySem.W.Frag) (A : BodyA) (kp : Addr) (num high : Nat) (xs : List V) (hv : List (Key × V)) : Mem :=
  [(A.b, Ob K 8 A.db [.ref A.sh, .int high, .ref A.fs, .ref A.hd]), (A.sh, Ob K 2 A.dh [.ref kp, .int num, .ref A.th]), (A.th, .lst xs), (A.hd, .dK hv)]
def keepB (K : PySem.W.Frag) (kp dk lg : Addr) (o : HO) : Mem := [(kp, Ob K 1 dk [.ref lg]), (lg, o)]
structure BodyI (K : PySem.W.Frag) (G : Hp) (A : BodyA) (m high : Nat) (fs : List Nat) (th : Th) (f : HF) (xs : List V) (hv : List (Key × V)) : Prop where
  sf : SqL K G A.fs (natsV fs)
  fl : fs.length = m
  sx : DpAll K G xs (th.map entD)
  sv : HandF K G m hv f
  tl : th.length = 2 * (2 * 2 ^ high - 1)
  tm : ∀ (r : Nat) (e : Nat × Nat × Nat), th[r]? = some (some e) → e.1 < m
  hi : high ≤ 6
  m1 : m ≤ 32
def S_node_at (K : PySem.W.Frag) : KSp := sp3 fun x y z G M R Z => ∃ h d l : Nat, x = .int h ∧ y = .int d ∧ z = .int l ∧ d ≤ h ∧ h ≤ 6 ∧ R (.int (nodeN h d l : Nat)) G M
def S_room_of (K : PySem.W.Frag) : KSp := sp2 fun x y G M R Z => ∃ n s : Nat, x = .int n ∧ y = .int s ∧ R (.int (2 * n + s : Nat)) G M
def S_Body_init (K : PySem.W.Frag) : KSp := sp5 fun x y z u w G M R Z => ∃ (a dx kp b : Addr) (num high m : Nat) (fs : List Nat) (F : Mem), x = .ref a ∧ y = .ref kp ∧ z = .int num ∧ u = .int high ∧ w = .ref b ∧ M = (a, Ob K 8 dx []) :: F ∧ LstN K G M 0 b (natsV fs) ∧ fs.length = m ∧ m ≤ 32 ∧ high ≤ 6 ∧
  ∀ (A : BodyA) (G' : Hp) (xs : List V), A.b = a → Ex G G' → BodyI K G' A m high fs (List.replicate (2 * (2 * 2 ^ high - 1)) none) (fun _ => none) xs [] → R .non G' (bodyB K A kp num high xs [] ++ F)
def S_Body_look_way (K : PySem.W.Frag) : KSp := sp2 fun x y G M R Z => ∃ (A : BodyA) (kp dk lg : Addr) (o : HO) (ts : List Tch) (num m high leaf : Nat) (fs : List Nat) (th : Th) (f : HF) (xs : List V) (hv : List (Key × V)) (F : Mem), x = .ref A.b ∧ y = .int leaf ∧ M.Perm (bodyB K A kp num high xs hv ++ (keepB K kp dk lg o ++ F)) ∧ BodyI K G A m high fs th f xs hv ∧ LogC K G ts o ∧ leaf < 2 ^ high ∧ ts.length ≤ 900000 ∧
  ∀ G' o' hv', Ex G G' → LogC K G' (ts ++ lookT num high leaf (high + 1)) o' → BodyI K G' A m high fs th (lookW th high leaf f (high + 1)) xs hv' → R .non G' (bodyB K A kp num high xs hv' ++ (keepB K kp dk lg o' ++ F))
def S_Body_word_of (K : PySem.W.Frag) : KSp := sp2 fun x y G M R Z => ∃ (A : BodyA) (kp : Addr) (num m high c : Nat) (fs : List Nat) (th : Th) (f : HF) (xs : List V) (hv : List (Key × V)) (F : Mem), x = .ref A.b ∧ y = .int c ∧ M.Perm (bodyB K A kp num high xs hv ++ F) ∧ BodyI K G A m high fs th f xs hv ∧ c < m ∧ R (.int (match f c with | some p => p.1 | none => fs.getD c 0 : Nat)) G M
def S_Body_keep (K : PySem.W.Frag) : KSp := sp4 fun x y z u G M R Z => ∃ (A : BodyA) (kp : Addr) (num m high c w l : Nat) (fs : List Nat) (th : Th) (f : HF) (xs : List V) (hv : List (Key × V)) (F : Mem), x = .ref A.b ∧ y = .int c ∧ z = .int w ∧ u = .int l ∧ M.Perm (bodyB K A kp num high xs hv ++ F) ∧ BodyI K G A m high fs th f xs hv ∧ c < m ∧
  ∀ G' hv', Ex G G' → BodyI K G' A m high fs th (f.put c (w, l)) xs hv' → R .non G' (bodyB K A kp num high xs hv' ++ F)
def S_Body_fitting (K : PySem.W.Frag) : KSp := sp3 fun x y z G M R Z => ∃ (A : BodyA) (kp : Addr) (num m high d node : Nat) (fs : List Nat) (th : Th) (f : HF) (xs : List V) (hv : List (Key × V)) (F : Mem), x = .ref A.b ∧ y = .int d ∧ z = .int node ∧ M = bodyB K A kp num high xs hv ++ F ∧ BodyI K G A m high fs th f xs hv ∧ d ≤ high ∧
  ∀ p, Fr G M p → R (.ref p) G ((p, .lst (natsV (fitsN m high d node f))) :: M)
def S_Body_lay_way (K : PySem.W.Frag) : KSp := sp2 fun x y G M R Z => ∃ (A : BodyA) (kp dk lg : Addr) (o : HO) (ts : List Tch) (num m high leaf : Nat) (fs : List Nat) (th : Th) (f : HF) (xs : List V) (hv : List (Key × V)) (F : Mem), x = .ref A.b ∧ y = .int leaf ∧ M.Perm (bodyB K A kp num high xs hv ++ (keepB K kp dk lg o ++ F)) ∧ BodyI K G A m high fs th f xs hv ∧ LogC K G ts o ∧ leaf < 2 ^ high ∧ ts.length ≤ 900000 ∧
  ∀ G' o' xs' hv', Ex G G' → LogC K G' (ts ++ layT num high leaf (high + 1)) o' → BodyI K G' A m high fs (layW m high leaf (th, f) (high + 1)).1 (layW m high leaf (th, f) (high + 1)).2 xs' hv' → R .non G' (bodyB K A kp num high xs' hv' ++ (keepB K kp dk lg o' ++ F))
def S_Body_cells_in_hand (K : PySem.W.Frag) : KSp := sp1 fun x G M R Z => ∃ (A : BodyA) (kp : Addr) (num m high : Nat) (fs : List Nat) (th : Th) (f : HF) (xs : List V) (hv : List (Key × V)) (F : Mem), x = .ref A.b ∧ M.Perm (bodyB K A kp num high xs hv ++ F) ∧ BodyI K G A m high fs th f xs hv ∧
  ∀ p, Fr G M p → R (.ref p) G ((p, .lst (natsV ((List.range m).filter fun c => (f c).isSome))) :: M)
/-- the first room in which a cell lies -/
def findR (th : Th) (c : Nat) : Option Nat := (List.range th.length).find? fun r => match th.getD r none with
  | some e => decide (e.1 = c)
  | none => false
def nodV (th : Th) (c : Nat) : V := match findR th c with
  | some r => .int (r / 2 : Nat)
  | none => .non
def S_Body_node_of (K : PySem.W.Frag) : KSp := sp2 fun x y G M R Z => ∃ (A : BodyA) (kp : Addr) (num m high c : Nat) (fs : List Nat) (th : Th) (f : HF) (xs : List V) (hv : List (Key × V)) (F : Mem), x = .ref A.b ∧ y = .int c ∧ M.Perm (bodyB K A kp num high xs hv ++ F) ∧ BodyI K G A m high fs th f xs hv ∧ R (nodV th c) G M

/-! ### all five ways, seen from without -/
inductive Wy | scan | spare | stairs | tree | grove
  deriving DecidableEq
def Wy.str : Wy → Str
  | .scan => "scan" | .spare => "spare" | .stairs => "stairs" | .tree => "tree" | .grove => "grove"
def Wy.num : Wy → Nat
  | .scan => 3 | .spare => 4 | .stairs => 5 | .tree => 6 | .grove => 7
def rowsOf (ds : List Dr) : List (List Nat) := ds.map fun d => match d with
  | .row l => l
  | .leaf _ => []
def leafsOf (ds : List Dr) : List Nat := ds.map fun d => match d with
  | .row _ => 0
  | .leaf n => n
/-! ### climbs: what they are -/
structure ClM where
  fu : Nat → Option Nat
  dr : Nat → Option Nat
  ho : Nat → Option (Nat × Nat)
  he : Nat → Option Unit
def takenN (m p : Nat) (s : ClM) : List Nat := ((List.range (stairN m p)).filter fun st => (s.fu st).isSome) ++ if stairN m p = lastN m then [stairN m p] else []
def inT (m p : Nat) (s : ClM) (c : Nat) : Bool := match s.ho c with
  | some q => decide (q.1 ∈ takenN m p s)
  | none => false
def pouredN (m p : Nat) (s : ClM) : List Nat := (List.range m).filter fun c => (s.he c).isSome || inT m p s c
def slotC (m c n st k : Nat) (s : ClM) : Nat := match s.ho c with
  | some q => if q.1 = st then q.2 else slotA m st + n - k
  | none => slotA m st + n - k
def slotsN (m c n : Nat) (s : ClM) : List (Nat × Nat) := (List.range (lastN m + 1)).filterMap fun st => (s.fu st).map fun k => (st, slotC m c n st k s)
structure ClimbA where
  c : Addr
  dc : Addr
  fu : Addr
  dr : Addr
  ho : Addr
  he : Addr
def climbB (K : PySem.W.Frag) (A : ClimbA) (m : Nat) (fv dv hov hev : List (Key × V)) : Mem :=
  [(A.c, Ob K 9 A.dc [.int m, .int (lastN m), .ref A.fu, .ref A.dr, .ref A.ho, .ref A.he]), (A.fu, .dK fv), (A.dr, .dK dv), (A.ho, .dK hov), (A.he, .dK hev)]
/-! ### stairs: what they are -/
def roomsN (m st : Nat) : Nat := slotA m st + 2 * 2 ^ st
def optV : Option Nat → V
  | some w => .int w
  | none => .non
structure StairsA where
  s : Addr
  ds : Addr
  dr : Addr
  kp : Addr
  dk : Addr
  lg : Addr
  hd : Addr
  shs : Addr
  ods : Addr
  cl : ClimbA
  sh : Nat → Addr
  dsh : Nat → Addr
  th : Nat → Addr
abbrev Ths := Nat → List (Option Nat)
def shsB (K : PySem.W.Frag) (A : StairsA) (th : Ths) : Nat → Nat → Mem
  | _, 0 => []
  | i, k + 1 => (A.sh i, Ob K 2 (A.dsh i) [.ref A.kp, .int i, .ref (A.th i)]) :: (A.th i, .lst ((th i).map optV)) :: shsB K A th (i + 1) k
structure StV where
  fv : List (Key × V)
  dv : List (Key × V)
  hov : List (Key × V)
  hev : List (Key × V)
  hnv : List (Key × V)
  odv : List (Key × V)
  o : HO
  th : Ths
def ordN (rows : List (List Nat)) (s : ClM) (st : Nat) : List Nat := orderOf (rows.getD ((s.dr st).getD 0) [])
/-- the draws' sizes -/
structure RowsK (m lim : Nat) (rows : List (List Nat)) : Prop where
  len : rows.length = (lim + 1) / 2
  ok : ∀ (i : Nat) (row : List Nat), rows[i]? = some row → RowOk row ∧ row.length = roomsN m (if i = 0 then lastN m else stairN m i)
def fullN (L q st : Nat) : Option Nat := if st < L then (if (q / 2 ^ st) % 2 = 1 then some (2 * (q / 2 ^ st * 2 ^ st)) else none) else if st = L then some (2 * (q / 2 ^ L * 2 ^ L)) else none
/-- a climb behind q pours, with at most h cells in hand -/
structure ClMI (m q h : Nat) (s : ClM) : Prop where
  fu : ∀ st, s.fu st = fullN (lastN m) q st
  dr : ∀ st k, s.fu st = some k → s.dr st = some (k / 2)
  dk : ∀ st p, s.dr st = some p → p ≤ q ∧ st = (if p = 0 then lastN m else stairN m p)
  ho : ∀ c st sl, s.ho c = some (st, sl) → c < m ∧ (s.fu st).isSome ∧ sl < slotA m st ∧ s.he c = none
  he : ∀ c, c < m → s.ho c = none → (s.he c).isSome
  hl : ∀ c, (s.he c).isSome → c < m
  inj : ∀ c c' x, s.ho c = some x → s.ho c' = some x → c = c'
  hn : ((List.range m).filter fun c => (s.he c).isSome).length ≤ h
def handF (s : ClM) (W : Nat → Nat) : Nat → Option Nat := fun c => if (s.he c).isSome then some (W c) else none
def gatherF (s : ClM) (st : Nat) (hf : Nat → Option Nat) (W : Nat → Nat) : Nat → Option Nat := fun c => match s.ho c with
  | some q => if q.1 = st then some (W c) else hf c
  | none => hf c
def allT (b : Bool) (m st : Nat) : List Tch := (List.range (roomsN m st)).map fun r => ⟨b, st, r⟩
def pourT (m p : Nat) (s : ClM) : List Tch := ((takenN m p s).flatMap fun st => allT false m st) ++ allT true m (stairN m p)
def askT (m n c : Nat) (rows : List (List Nat)) (s : ClM) : List Tch := (slotsN m c n s).flatMap fun q => [⟨false, q.1, (ordN rows s q.1).getD q.2 0⟩, ⟨true, q.1, (ordN rows s q.1).getD q.2 0⟩]
/-! ### nets: what they are -/
def joinL : Nat → Int → Int → List (Int × Int)
  | 0, f, s => [(f, f + s)]
  | j + 1, f, s => joinL j f (2 * s) ++ joinL j (f + s) (2 * s) ++ (List.range (2 ^ (j + 1) - 1)).map fun (i : Nat) => (f + s + (i : Int) * (2 * s), f + s + (i : Int) * (2 * s) + s)
def sortL : Nat → Int → List (Int × Int)
  | 0, _ => []
  | j + 1, f => sortL j f ++ sortL j (f + 2 ^ j) ++ joinL j f 1
def lg (n : Int) : Nat := if n ≤ 1 then 0 else if n ≤ 2 then 1 else if n ≤ 4 then 2 else if n ≤ 8 then 3 else if n ≤ 16 then 4 else if n ≤ 32 then 5 else 6
def netL (n : Int) : List (Int × Int) := (sortL (lg n) 0).filter fun p => decide (p.2 < n)
/-- a new list of pairs is told -/
def NetR (K : PySem.W.Frag) (ps : List (Int × Int)) (G : Hp) (M : Mem) (R : KR) : Prop := ∀ (t : Addr) (vs : List V) (G' : Hp), Ex G G' → Fr G' M t → DpAll K G' vs (ps.map prD) → R (.ref t) G' ((t, .lst vs) :: M)
def joinSp (d : Nat) (K : PySem.W.Frag) : V → V → V → Hp → Mem → KR → KX → Prop := fun x y z G M R Z => ∃ (f w s : Int) (j : Nat), x = .int f ∧ y = .int w ∧ z = .int s ∧ j < d ∧ w = 2 * s * 2 ^ j ∧ 0 < s ∧ w ≤ 64 ∧ 0 ≤ f ∧ f ≤ 5000 - 100 * (j : Int) ∧ j < 8 ∧ NetR K (joinL j f s) G M R
def sortSp (d : Nat) (K : PySem.W.Frag) : V → V → Hp → Mem → KR → KX → Prop := fun x y G M R Z => ∃ (f w : Int) (j : Nat), x = .int f ∧ y = .int w ∧ j < d ∧ w = 2 ^ j ∧ j ≤ 6 ∧ 0 ≤ f ∧ f + w ≤ 1000 ∧ NetR K (sortL j f) G M R
def netSp1 (K : PySem.W.Frag) : V → Hp → Mem → KR → KX → Prop := fun x G M R Z => ∃ n : Int, x = .int n ∧ 1 ≤ n ∧ n ≤ 64 ∧ NetR K (netL n) G M R
def S_joining (d : Nat) (K : PySem.W.Frag) : KSp := sp3 (joinSp d K)
def S_sorting (d : Nat) (K : PySem.W.Frag) : KSp := sp2 (sortSp d K)
def S_net_of (K : PySem.W.Frag) : KSp := sp1 (netSp1 K)

/-! ### a shuffled shelf with spare rooms: what it is -/
structure Tri where
  mark : Nat
  item : Nat
  word : Nat
def Tri0 : Tri := ⟨0, 0, 0⟩
def triD (t : Tri) : PyData := .tuple [.int t.mark, .int t.item, .int t.word]
def triV (t : Tri) : List V := [.int t.mark, .int t.item, .int t.word]
/-- each item lies, marked, in its room -/
structure Laid (ord W : List Nat) (tr : List Tri) : Prop where
  len : tr.length = ord.length
  at_ : ∀ i, i < ord.length → tr[ord.getD i 0]? = some ⟨ord.getD i 0, i, W.getD i 0⟩
/-- what is in hand -/
def hGet (h : List (Nat × Nat)) (c : Nat) : Option Nat := (h.find? fun p => decide (p.1 = c)).map (·.2)
def hPut (h : List (Nat × Nat)) (c w : Nat) : List (Nat × Nat) := if (hGet h c).isSome then h.map (fun p => if p.1 = c then (p.1, w) else p) else h ++ [(c, w)]
def handK (h : List (Nat × Nat)) : List (Key × V) := h.map fun p => (Sum.inl (p.1 : Int), V.int (p.2 : Int))
def markT (ord : List Nat) (h : List (Nat × Nat)) (t : Tri) : Tri := ⟨ord.getD t.item 0, t.item, (hGet h t.item).getD t.word⟩
def stepT (tr : List Tri) (p : Int × Int) : List Tri := if (tr.getD p.2.toNat Tri0).mark < (tr.getD p.1.toNat Tri0).mark then (tr.set p.1.toNat (tr.getD p.2.toNat Tri0)).set p.2.toNat (tr.getD p.1.toNat Tri0) else tr
def runT (ps : List (Int × Int)) (tr : List Tri) : List Tri := ps.foldl stepT tr
def pairT (p : Int × Int) : List Tch := [⟨false, 0, p.1.toNat⟩, ⟨false, 0, p.2.toNat⟩, ⟨true, 0, p.1.toNat⟩, ⟨true, 0, p.2.toNat⟩]
/-- the words of all items behind a mending -/
def wordsM (n : Nat) (W : List Nat) (h : List (Nat × Nat)) : List Nat := (List.range n).map fun i => (hGet h i).getD (W.getD i 0)
def HandOk (m : Nat) (h : List (Nat × Nat)) : Prop := (h.map (·.1)).Nodup ∧ ∀ p, p ∈ h → p.1 < m
/-- a spare store's orders, words and hand -/
structure SpM where
  ord : List Nat
  W : List Nat
  hnd : List (Nat × Nat)
def spPre (m made : Nat) (rows : List (List Nat)) (s : SpM) : SpM := if made % sideN m = 0 ∧ 0 < made then ⟨orderOf (rows.getD (made / sideN m) []), wordsM (m + sideN m) s.W s.hnd, []⟩ else s
def spItem (m made c : Nat) (s : SpM) : Nat := if (hGet s.hnd c).isSome then m + made % sideN m else c
def spTold (m made c : Nat) (s : SpM) : Nat := (hGet s.hnd c).getD (s.W.getD (spItem m made c s) 0)
def spAsk (m made : Nat) (rows : List (List Nat)) (d : Deed) (s : SpM) : SpM := { spPre m made rows s with hnd := hPut (spPre m made rows s).hnd d.cell (d.put (spTold m made d.cell (spPre m made rows s))) }
/-! ### a law's ways and draws -/
def S_law_way (K : PySem.W.Frag) : KSp := sp1 fun x G M R Z => ∃ (p : Addr) (n : Nat) (c s : Int), x = .ref p ∧ M[n]? = some (p, pool c s) ∧ PoolOk s ∧ ∀ (w : Wy) (c' s' : Int), PoolOk s' → R (.str w.str) G (M.set n (p, pool c' s'))
def S_law_draw (K : PySem.W.Frag) : KSp := sp2 fun x y G M R Z => ∃ (p : Addr) (n : Nat) (c s : Int) (k : Kn), x = .ref p ∧ M[n]? = some (p, pool c s) ∧ PoolOk s ∧ Dp K G y (knD k) ∧ KnOk k ∧
  ∀ (v : V) (d : Dr) (c' s' : Int) (G' : Hp), Ex G G' → DrV K G' [] v d → DrOk k d → PoolOk s' → R v G' (M.set n (p, pool c' s'))
/-- draws of kinds that are frozen; they are frozen, too -/
def S_law_draws (K : PySem.W.Frag) : KSp := sp2 fun x y G M R Z => ∃ (p : Addr) (n : Nat) (c s : Int) (a : Addr) (us : List V) (ks : List Kn), x = .ref p ∧ y = .ref a ∧ M[n]? = some (p, pool c s) ∧ PoolOk s ∧ LstN K G M n a us ∧ DpAll K G us (ks.map knD) ∧ (∀ k, k ∈ ks → KnOk k) ∧ ks.length ≤ 1000 ∧
  ∀ (t : Addr) (ds : List Dr) (c' s' : Int) (G' : Hp), Ex G G' → DrsG K G' t ds → A2 DrOk ks ds → PoolOk s' → R (.ref t) G' (M.set n (p, pool c' s'))

/-! ### signs: what they are -/
inductive Sg
  | room (lay : Bool) (sh r : Nat)
  | item (lay : Bool) (sh dr it : Nat)
  | way (lay : Bool) (sh dr dep sd : Nat)
  deriving DecidableEq
def deedS (b : Bool) : Str := if b then "lay" else "look"
def Sg.vs : Sg → List V
  | .room b s r => [.str "room", .str (deedS b), .int s, .int r]
  | .item b s d i => [.str "item", .str (deedS b), .int s, .int d, .int i]
  | .way b s d p e => [.str "way", .str (deedS b), .int s, .int d, .int p, .int e]
def sgD : Sg → PyData
  | .room b s r => .tuple [.str "room", .str (deedS b), .int s, .int r]
  | .item b s d i => .tuple [.str "item", .str (deedS b), .int s, .int d, .int i]
  | .way b s d p e => .tuple [.str "way", .str (deedS b), .int s, .int d, .int p, .int e]
def AsksAt (K : PySem.W.Frag) (G : Hp) (M : Mem) (a : Addr) (ds : List Deed) : Prop := ∃ us, LstAt K G M a us ∧ A2 (fun v d => DeedAt K G v d) us ds
def DsOk (m : Nat) (ds : List Deed) : Prop := (∀ d, d ∈ ds → DeedOk m d) ∧ ds.length ≤ 60
def SgR (K : PySem.W.Frag) (G : Hp) (M : Mem) (sg : List Sg) (R : KR) : Prop := ∀ (t : Addr) (us : List V) (G' : Hp), Ex G G' → DpAll K G' us (sg.map sgD) → R (.ref t) G' ((t, .lst us) :: M)
def scanRow (m : Nat) : List Sg := (List.range m).flatMap fun r => [.room false 0 r, .room true 0 r]
def scanS (m : Nat) (ds : List Deed) : List Sg := ds.flatMap fun _ => scanRow m
def wayS (b : Bool) (sh dr : Nat) (l : List Nat) : List Sg := l.flatMap fun d => [.way b sh dr d 0, .way b sh dr d 1]
def waySg (sh dr high : Nat) : List Sg := wayS false sh dr (List.range (high + 1)) ++ wayS true sh dr (List.range (high + 1)).reverse
/-- the number of a tree's first cell's draw -/
def startT (ts : List Nat) (t : Nat) : Nat := (ts.take t).sum
/-- the draw by which a cell of a tree has its leaf, behind n asks -/
def drawOf (ts : List Nat) (cells : List Nat) (t : Nat) : Nat → Nat → Nat
  | 0, c => startT ts t + c
  | n + 1, c => if cells.getD n 0 / 2 ^ (2 * t) = c then ts.sum + n * ts.length + t else drawOf ts cells t n c
def askSg (ts : List Nat) (cells : List Nat) (n : Nat) : List Sg := (List.range ts.length).reverse.flatMap fun t => waySg t (drawOf ts cells t n (cells.getD n 0 / 2 ^ (2 * t))) (highN (ts.getD t 0))
def groveS (ts : List Nat) (cells : List Nat) : List Sg := (List.range cells.length).flatMap (askSg ts cells)
def cellsD (ds : List Deed) : List Nat := ds.map Deed.cell
/-- a grove's trees hold an ask's cells -/
structure TreesOk (ts : List Nat) (m : Nat) : Prop where
  len : ts.length ≤ 3
  ok : ∀ t, t ∈ ts → 1 ≤ t ∧ t ≤ 32
  le : ∀ t, t < ts.length → ∀ c, c < m → c / 2 ^ (2 * t) < ts.getD t 0
def S_way_there (K : PySem.W.Frag) : KSp := sp3 fun x y z G M R Z => ∃ sh dr high : Nat, x = .int sh ∧ y = .int dr ∧ z = .int high ∧ high ≤ 6 ∧ SgR K G M (waySg sh dr high) R
def S_starts_of (K : PySem.W.Frag) : KSp := sp1 fun x G M R Z => ∃ (a : Addr) (ts : List Nat), x = .ref a ∧ LstAt K G M a (natsV ts) ∧ ts.length ≤ 3 ∧ ∀ (l T : Addr) (G' : Hp), Fr G M l → Ex G G' → SqT K G' T [.ref l, .int ts.sum] → R (.ref T) G' ((l, .lst (natsV ((List.range ts.length).map (startT ts)))) :: M)
def S_scan_signs (K : PySem.W.Frag) : KSp := sp2 fun x y G M R Z => ∃ (m : Nat) (a : Addr) (ds : List Deed), natOk x m 1 32 ∧ y = .ref a ∧ AsksAt K G M a ds ∧ DsOk m ds ∧ SgR K G M (scanS m ds) R
def S_grove_signs (K : PySem.W.Frag) : KSp := sp2 fun x y G M R Z => ∃ (m : Nat) (a b : Addr) (ts : List Nat) (ds : List Deed), x = .ref b ∧ y = .ref a ∧ LstAt K G M b (natsV ts) ∧ TreesOk ts m ∧ AsksAt K G M a ds ∧ DsOk m ds ∧ SgR K G M (groveS ts (cellsD ds)) R
/-- a thing that may be a list of asks -/
def AsksV (K : PySem.W.Frag) (G : Hp) (M : Mem) (m : Int) (y : V) (b : Bool) : Prop := (∃ T : PT, TyK K G M y T ∧ T ≠ .list ∧ b = false) ∨
  ∃ (a : Addr) (xs : List V), y = .ref a ∧ LstAt K G M a xs ∧ xs.length ≤ 1000 ∧ ((60 < xs.length ∧ b = false) ∨ (xs.length ≤ 60 ∧ ∃ bs : List Bool, A2 (fun x b => AskV K G M m x b) xs bs ∧ b = bs.all id))
def S_look_at_asks (K : PySem.W.Frag) : KSp := sp2 fun x y G M R Z => ∃ (m : Nat) (b : Bool), x = .int m ∧ AsksV K G M m y b ∧ (b = true → R .non G M) ∧ (b = false → Z (.ref (cl K "NoAsk")) none G M)

/-! ### signs of shuffled shelves and stairs, of all ways; touches of signs -/
def pairSg (p : Int × Int) : List Sg := [.room false 0 p.1.toNat, .room false 0 p.2.toNat, .room true 0 p.1.toNat, .room true 0 p.2.toNat]
def mendSg (n : Nat) : List Sg := scanRow n ++ (netL (n : Int)).flatMap pairSg
/-- a cell was asked for in a round, ahead of ask n -/
def inRd (m : Nat) (cells : List Nat) (n r c : Nat) : Bool := (List.range n).any fun j => decide (j / sideN m = r) && decide (cells.getD j 0 = c)
def itemN (m : Nat) (cells : List Nat) (n : Nat) : Nat := if inRd m cells n (n / sideN m) (cells.getD n 0) = true then m + n % sideN m else cells.getD n 0
def mendAt (m n : Nat) : List Sg := if n % sideN m = 0 ∧ 0 < n then mendSg (m + sideN m) else []
def spareAskSg (m : Nat) (cells : List Nat) (n : Nat) : List Sg := mendAt m n ++ [.item false 0 (n / sideN m) (itemN m cells n), .item true 0 (n / sideN m) (itemN m cells n)]
def spareS (m : Nat) (ds : List Deed) : List Sg := (List.range ds.length).flatMap (spareAskSg m (cellsD ds))
def roomsSg (b : Bool) (m st : Nat) : List Sg := (List.range (roomsN m st)).map fun r => .room b st r
def pourSg (m p : Nat) (s : ClM) : List Sg := (takenN m p s).flatMap (roomsSg false m) ++ roomsSg true m (stairN m p)
def askSg5 (m n c : Nat) (s : ClM) : List Sg := (slotsN m c n s).flatMap fun q => [.item false q.1 ((s.dr q.1).getD 0) q.2, .item true q.1 ((s.dr q.1).getD 0) q.2]
def pourAt (m n : Nat) (s : ClM) : List Sg := if 0 < n ∧ n % 2 = 0 then pourSg m (n / 2) s else []
def S_mending (K : PySem.W.Frag) : KSp := sp1 fun x G M R Z => ∃ n : Nat, natOk x n 1 64 ∧ SgR K G M (mendSg n) R
def S_spare_signs (K : PySem.W.Frag) : KSp := sp2 fun x y G M R Z => ∃ (m : Nat) (a : Addr) (ds : List Deed), natOk x m 1 32 ∧ y = .ref a ∧ AsksAt K G M a ds ∧ DsOk m ds ∧ SgR K G M (spareS m ds) R
def S_all_rooms (K : PySem.W.Frag) : KSp := sp3 fun x y z G M R Z => ∃ (m st : Nat) (b : Bool), natOk x m 1 32 ∧ y = .str (deedS b) ∧ z = .int st ∧ st ≤ 4 ∧ SgR K G M (roomsSg b m st) R
/-! touches of signs -/
def rowD : Dr → List Nat
  | .row l => l
  | .leaf _ => []
def leafD : Dr → Nat
  | .leaf n => n
  | .row _ => 0
def tchOf (ks : List Kn) (drs : List Dr) : Sg → Tch
  | .room b s r => ⟨b, s, r⟩
  | .item b s d i => ⟨b, s, (orderOf (rowD (drs.getD d (.leaf 0)))).getD i 0⟩
  | .way b s d p e => ⟨b, s, 2 * nodeN (ks.getD d ⟨true, 0⟩).n p (leafD (drs.getD d (.leaf 0))) + e⟩
def SgOk (ks : List Kn) : Sg → Prop
  | .room _ _ _ => True
  | .item _ _ d i => ∃ n, ks[d]? = some ⟨false, n⟩ ∧ i < n
  | .way _ _ d p e => ∃ h, ks[d]? = some ⟨true, h⟩ ∧ p ≤ h ∧ e < 2
/-- orders of shuffles, and leaves -/
def ToldV (K : PySem.W.Frag) (G : Hp) (v : V) (d : Dr) : Prop := match d with
  | .leaf n => v = .int n
  | .row l => ∃ b, v = .ref b ∧ SqL K G b (natsV (orderOf l))
def tchV (t : Tch) : List V := [.str t.txt, .int t.shelf, .int t.room]
def S_touch_of (K : PySem.W.Frag) : KSp := sp3 fun x y z G M R Z => ∃ (a t b : Addr) (uk ut : List V) (ks : List Kn) (drs : List Dr) (s : Sg), x = .ref a ∧ y = .ref t ∧ z = .ref b ∧ LstAt K G M a uk ∧ DpAll K G uk (ks.map knD) ∧ (∀ k, k ∈ ks → KnOk k) ∧ SqT K G t s.vs ∧ LstAt K G M b ut ∧ A2 (ToldV K G) ut drs ∧ A2 DrOk ks drs ∧ SgOk ks s ∧
  ∀ T G', Ex G G' → SqT K G' T (tchV (tchOf ks drs s)) → R (.ref T) G' M
def S_told_by (K : PySem.W.Frag) : KSp := sp2 fun x y G M R Z => ∃ (a b : Addr) (uk : List V) (ks : List Kn) (drs : List Dr), x = .ref a ∧ y = .ref b ∧ LstAt K G M a uk ∧ DpAll K G uk (ks.map knD) ∧ (∀ k, k ∈ ks → KnOk k) ∧ DrAt K G M b drs ∧ A2 DrOk ks drs ∧ ks.length ≤ 1000 ∧
  ∀ (t : Addr) (ut : List V) (G' : Hp), Ex G G' → A2 (ToldV K G') ut drs → R (.ref t) G' ((t, .lst ut) :: M)
def S_seen_by (K : PySem.W.Frag) : KSp := sp3 fun x y z G M R Z => ∃ (a s b : Addr) (uk us : List V) (ks : List Kn) (sg : List Sg) (drs : List Dr), x = .ref a ∧ y = .ref s ∧ z = .ref b ∧ LstAt K G M a uk ∧ DpAll K G uk (ks.map knD) ∧ (∀ k, k ∈ ks → KnOk k) ∧ LstAt K G M s us ∧ DpAll K G us (sg.map sgD) ∧ DrAt K G M b drs ∧ A2 DrOk ks drs ∧ ks.length ≤ 1000 ∧ sg.length ≤ 1000000 ∧ (∀ s, s ∈ sg → SgOk ks s) ∧
  ∀ (t : Addr) (ut : List V) (G' : Hp), Ex G G' → DpAll K G' ut ((sg.map (tchOf ks drs)).map tchD) → R (.ref t) G' ((t, .lst ut) :: M)

/-- a draw in hand: a row is a cell of its own -/
inductive Dc | leaf (n : Nat) | row (b : Addr) (l : List Nat)
def Dc.v : Dc → V
  | .leaf n => .int (n : Int)
  | .row b _ => .ref b
def Dc.dr : Dc → Dr
  | .leaf n => .leaf n
  | .row _ l => .row l
def Dc.cells : Dc → Mem
  | .leaf _ => []
  | .row b l => [(b, .lst (natsV l))]

/-! ### leadings -/
structure Pp where
  src : Nat
  turn : Option (List Nat)
def TurnM (K : PySem.W.Frag) (G : Hp) (M : Mem) (w : V) (t : Option (List Nat)) : Prop := match t with
  | none => w = .non
  | some l => ∃ b, w = .ref b ∧ LstAt K G M b (natsV l)
def PpM (K : PySem.W.Frag) (G : Hp) (M : Mem) (v : V) (pp : Pp) : Prop := ∃ (T : Addr) (w : V), v = .ref T ∧ SqT K G T [.int (pp.src : Nat), w] ∧ TurnM K G M w pp.turn
/-- a paper as it lies -/
def PapM (K : PySem.W.Frag) (G : Hp) (M : Mem) (p : Addr) (ps : List Pp) : Prop := ∃ us, LstAt K G M p us ∧ A2 (PpM K G M) us ps
/-- what a part must be -/
def PpOk (ks : List Kn) (k : Kn) (pp : Pp) : Prop := ks[pp.src]? = some k ∧ (k.leaf = true → pp.turn = none) ∧ (k.leaf = false → ∃ l, pp.turn = some l ∧ OrdOk k.n l)
structure PapOk (ks : List Kn) (ps : List Pp) : Prop where
  ok : A2 (PpOk ks) ks ps
  nd : (ps.map (·.src)).Nodup
def srcOf (ps : List Pp) (d : Nat) : Nat := (ps.getD d ⟨0, none⟩).src
def turnOf (ps : List Pp) (d : Nat) : List Nat := ((ps.getD d ⟨0, none⟩).turn).getD []
def ledB (ps : List Pp) : Sg → Sg → Bool
  | .room b s r, .room b' s' r' => decide (b = b') && (decide (s = s') && decide (r = r'))
  | .item b s d i, .item b' s' d' i' => decide (b = b') && (decide (s = s') && (decide (srcOf ps d' = d) && decide ((turnOf ps d').getD i' 0 = i)))
  | .way b s d p e, .way b' s' d' p' e' => decide (b = b') && (decide (s = s') && (decide (srcOf ps d' = d) && (decide (p = p') && decide (e = e'))))
  | _, _ => false
def leadB (ps : List Pp) (one other : List Sg) : Bool := decide (one.length = other.length) && (List.zipWith (ledB ps) one other).all id
def ledP (ds : List Dr) (pp : Pp) : Dr := match pp.turn with
  | none => ds.getD pp.src (.leaf 0)
  | some l => .row (rowOf (l.map fun j => (orderOf (rowD (ds.getD pp.src (.leaf 0)))).getD j 0))
def ledD (ps : List Pp) (ds : List Dr) : List Dr := ps.map (ledP ds)
def invN (l : List Nat) : List Nat := (List.range l.length).map fun i => l.idxOf i
def backP (ps : List Pp) : List Pp := (List.range ps.length).map fun s => ⟨(ps.map (·.src)).idxOf s, ((ps.getD ((ps.map (·.src)).idxOf s) ⟨0, none⟩).turn).map invN⟩
/-- a thing that may be an order of a size -/
def OrdN (K : PySem.W.Frag) (G : Hp) (M : Mem) (n : Nat) (w : V) (b : Bool) : Prop := (∃ T : PT, TyK K G M w T ∧ T ≠ .list ∧ b = false) ∨ ∃ (a : Addr) (xs : List V), w = .ref a ∧ LstAt K G M a xs ∧ xs.length ≤ 1000 ∧ ItemsTy K G M xs ∧ b = (orderB xs && decide (xs.length = n))
/-- a thing that may be a part -/
def PartV (K : PySem.W.Frag) (G : Hp) (M : Mem) (ks : List Kn) (k : Kn) (z : V) (b : Bool) : Prop := (∃ T : PT, TyK K G M z T ∧ T ≠ .tuple ∧ b = false) ∨ ∃ (t : Addr) (xs : List V), z = .ref t ∧ SqT K G t xs ∧ xs.length ≤ 100 ∧ ((xs.length ≠ 2 ∧ b = false) ∨
  ∃ (u w : V), xs = [u, w] ∧ (∃ T : PT, TyK K G M u T ∧ (T == .int) = isIntV u) ∧ ((withinV u 0 ((ks.length : Int) - 1) = false ∧ b = false) ∨
    ∃ (s : Nat) (k' : Kn), u = .int (s : Nat) ∧ ks[s]? = some k' ∧ ((k' ≠ k ∧ b = false) ∨ (k' = k ∧ (k.leaf = true → b = decide (w = .non)) ∧ (k.leaf = false → OrdN K G M k.n w b)))))
def PaperV (K : PySem.W.Frag) (G : Hp) (M : Mem) (ks : List Kn) (z : V) (b : Bool) : Prop := (∃ T : PT, TyK K G M z T ∧ T ≠ .list ∧ b = false) ∨ ∃ (a : Addr) (zs : List V), z = .ref a ∧ LstAt K G M a zs ∧ zs.length ≤ 1000 ∧ ((zs.length ≠ ks.length ∧ b = false) ∨
  ∃ bs : List Bool, zs.length = ks.length ∧ bs.length = ks.length ∧ (∀ (i : Nat) (k : Kn) (v : V) (c : Bool), ks[i]? = some k → zs[i]? = some v → bs[i]? = some c → PartV K G M ks k v c) ∧ ((bs.all id = false ∧ b = false) ∨
    ∃ ss : List Nat, bs.all id = true ∧ A2 (fun v (s : Nat) => ∃ T w, v = V.ref T ∧ SqT K G T [.int (s : Nat), w]) zs ss ∧ b = decide ss.Nodup))
def S_is_part (K : PySem.W.Frag) : KSp := sp3 fun x y z G M R Z => ∃ (a : Addr) (ks : List Kn) (i : Nat) (k : Kn) (b : Bool), x = .ref a ∧ KnAt K G M a ks ∧ y = .int (i : Nat) ∧ ks[i]? = some k ∧ PartV K G M ks k z b ∧ R (.bl b) G M
def S_is_paper (K : PySem.W.Frag) : KSp := sp2 fun x z G M R Z => ∃ (a : Addr) (ks : List Kn) (b : Bool), x = .ref a ∧ KnAt K G M a ks ∧ PaperV K G M ks z b ∧ R (.bl b) G M
def S_is_led (K : PySem.W.Frag) : KSp := sp3 fun x y z G M R Z => ∃ (T1 T2 p : Addr) (s1 s2 : Sg) (ks : List Kn) (ps : List Pp), x = .ref T1 ∧ y = .ref T2 ∧ z = .ref p ∧ SqT K G T1 s1.vs ∧ SqT K G T2 s2.vs ∧ PapM K G M p ps ∧ PapOk ks ps ∧ SgOk ks s1 ∧ SgOk ks s2 ∧ ∀ G', Ex G G' → R (.bl (ledB ps s1 s2)) G' M
def S_is_leading (K : PySem.W.Frag) : KSp := sp4 fun x y z w G M R Z => ∃ (a o1 o2 : Addr) (ks : List Kn) (us1 us2 : List V) (one other : List Sg), x = .ref a ∧ y = .ref o1 ∧ z = .ref o2 ∧ KnAt K G M a ks ∧ LstAt K G M o1 us1 ∧ DpAll K G us1 (one.map sgD) ∧ LstAt K G M o2 us2 ∧ DpAll K G us2 (other.map sgD) ∧
  one.length ≤ 1000000 ∧ other.length ≤ 1000000 ∧ (∀ s, s ∈ one → SgOk ks s) ∧ (∀ s, s ∈ other → SgOk ks s) ∧ ((PaperV K G M ks w false ∧ R (.bl false) G M) ∨ ∃ (p : Addr) (ps : List Pp), w = .ref p ∧ PapM K G M p ps ∧ PapOk ks ps ∧ ∀ G', Ex G G' → R (.bl (leadB ps one other)) G' M)
def S_led_draw (K : PySem.W.Frag) : KSp := sp2 fun x y G M R Z => ∃ (b : Addr) (k : Kn) (ks : List Kn) (pp : Pp) (ds : List Dr), y = .ref b ∧ PpM K G M x pp ∧ KnOk k ∧ PpOk ks k pp ∧ DrAt K G M b ds ∧ A2 DrOk ks ds ∧ ∀ c : Dc, c.dr = ledP ds pp → (∀ x, x ∈ c.cells → Fr G M x.1) → R c.v G (c.cells ++ M)
def S_led (K : PySem.W.Frag) : KSp := sp3 fun x y z G M R Z => ∃ (p b : Addr) (ks : List Kn) (ps : List Pp) (ds : List Dr), y = .ref p ∧ z = .ref b ∧ PapM K G M p ps ∧ PapOk ks ps ∧ (∀ k, k ∈ ks → KnOk k) ∧ ks.length ≤ 1000 ∧ DrAt K G M b ds ∧ A2 DrOk ks ds ∧ ∀ (q : Addr) (G' : Hp), Ex G G' → DrsG K G' q (ledD ps ds) → R (.ref q) G' M
def S_inverse (K : PySem.W.Frag) : KSp := sp1 fun x G M R Z => ∃ (a : Addr) (l : List Nat), x = .ref a ∧ LstAt K G M a (natsV l) ∧ OrdOk l.length l ∧ l.length ≤ 1000 ∧ ∀ t, Fr G M t → R (.ref t) G ((t, .lst (natsV (invN l))) :: M)
def S_back (K : PySem.W.Frag) : KSp := sp1 fun x G M R Z => ∃ (p : Addr) (ks : List Kn) (ps : List Pp), x = .ref p ∧ PapM K G M p ps ∧ PapOk ks ps ∧ (∀ k, k ∈ ks → KnOk k) ∧ ks.length ≤ 1000 ∧ ∀ (q : Addr) (G' : Hp), Ex G G' → PapM K G' [] q (backP ps) → R (.ref q) G' M

/-- kinds that are frozen, each a plain tuple -/
def KnF (K : PySem.W.Frag) (G : Hp) (a : Addr) (ks : List Kn) : Prop := ∃ us, SqL K G a us ∧ A2 (fun v k => ∃ T, v = V.ref T ∧ G T = some (.tup [.str k.txt, .int (Kn.n k : Nat)])) us ks
def SgsG (K : PySem.W.Frag) (G : Hp) (a : Addr) (sg : List Sg) : Prop := ∃ us, SqL K G a us ∧ DpAll K G us (sg.map sgD)
/-- a pool, alone among the cells -/
def S_law_kinds (K : PySem.W.Frag) : KSp := sp3 fun x y z G M R Z => ∃ (p : Addr) (n : Nat) (c s : Int), x = .ref p ∧ y = .int 6 ∧ z = .int 64 ∧ M[n]? = some (p, pool c s) ∧ PoolOk s ∧
  ∀ (a : Addr) (ks : List Kn) (c' s' : Int) (G' : Hp), Ex G G' → KnF K G' a ks → (∀ k, k ∈ ks → KnOk k) → ks.length ≤ 6 → PoolOk s' → R (.ref a) G' (M.set n (p, pool c' s'))
def S_law_turn (K : PySem.W.Frag) : KSp := sp2 fun x y G M R Z => ∃ (p : Addr) (n : Nat) (c s : Int) (m : Nat), x = .ref p ∧ y = .int (m : Nat) ∧ m ≤ 64 ∧ M[n]? = some (p, pool c s) ∧ PoolOk s ∧
  ∀ (t : Addr) (l : List Nat) (c' s' : Int), OrdOk m l → PoolOk s' → Fr G M t → R (.ref t) G ((t, .lst (natsV l)) :: M.set n (p, pool c' s'))
def S_law_paper (K : PySem.W.Frag) : KSp := sp2 fun x y G M R Z => ∃ (p : Addr) (n : Nat) (c s : Int) (a : Addr) (ks : List Kn), x = .ref p ∧ y = .ref a ∧ M[n]? = some (p, pool c s) ∧ PoolOk s ∧ KnF K G a ks ∧ (∀ k, k ∈ ks → KnOk k) ∧ ks.length ≤ 6 ∧
  ∀ (q : Addr) (ps : List Pp) (c' s' : Int) (G' : Hp), Ex G G' → PapM K G' [] q ps → PapOk ks ps → PoolOk s' → R (.ref q) G' (M.set n (p, pool c' s'))
def S_law_sign (K : PySem.W.Frag) : KSp := sp2 fun x y G M R Z => ∃ (p : Addr) (n : Nat) (c s : Int) (a : Addr) (ks : List Kn), x = .ref p ∧ y = .ref a ∧ M[n]? = some (p, pool c s) ∧ PoolOk s ∧ KnF K G a ks ∧ (∀ k, k ∈ ks → KnOk k) ∧ ks.length ≤ 6 ∧
  ∀ (T : Addr) (g : Sg) (c' s' : Int) (G' : Hp), Ex G G' → SqT K G' T g.vs → SgOk ks g → PoolOk s' → R (.ref T) G' (M.set n (p, pool c' s'))
/-- where a sign is led -/
def ledS (ps : List Pp) : Sg → Sg
  | .room b s r => .room b s r
  | .item b s d i => .item b s ((ps.map (·.src)).idxOf d) ((turnOf ps ((ps.map (·.src)).idxOf d)).idxOf i)
  | .way b s d p e => .way b s ((ps.map (·.src)).idxOf d) p e
def S_law_led_sign (K : PySem.W.Frag) : KSp := sp2 fun x y G M R Z => ∃ (q T : Addr) (g : Sg) (ks : List Kn) (ps : List Pp), x = .ref q ∧ y = .ref T ∧ PapM K G M q ps ∧ PapOk ks ps ∧ SqT K G T g.vs ∧ SgOk ks g ∧ ks.length ≤ 1000 ∧
  ∀ (T' : Addr) (G' : Hp), Ex G G' → SqT K G' T' (ledS ps g).vs → R (.ref T') G' M

def S_law_holds (K : PySem.W.Frag) : KSp := sp5 fun x y z u w G M R Z => ∃ (a o1 o2 q b : Addr) (ks : List Kn) (one other : List Sg) (ps : List Pp) (ds : List Dr), x = .ref a ∧ y = .ref o1 ∧ z = .ref o2 ∧ u = .ref q ∧ w = .ref b ∧ KnF K G a ks ∧ (∀ k, k ∈ ks → KnOk k) ∧ ks.length ≤ 6 ∧
  SgsG K G o1 one ∧ SgsG K G o2 other ∧ one.length ≤ 100 ∧ other.length ≤ 100 ∧ (∀ s, s ∈ one → SgOk ks s) ∧ (∀ s, s ∈ other → SgOk ks s) ∧ PapM K G [] q ps ∧ PapOk ks ps ∧ DrsG K G b ds ∧ A2 DrOk ks ds ∧ ∀ G', Ex G G' → R (.bl true) G' M
def S_law_bent (K : PySem.W.Frag) : KSp := sp3 fun x y z G M R Z => ∃ (p : Addr) (n : Nat) (c s : Int) (a o : Addr) (ks : List Kn) (sg : List Sg), x = .ref p ∧ y = .ref a ∧ z = .ref o ∧ M[n]? = some (p, pool c s) ∧ PoolOk s ∧ KnF K G a ks ∧ (∀ k, k ∈ ks → KnOk k) ∧ ks.length ≤ 6 ∧ SgsG K G o sg ∧ sg.length ≤ 100 ∧ (∀ s, s ∈ sg → SgOk ks s) ∧
  ∀ (q : Addr) (sg' : List Sg) (c' s' : Int) (G' : Hp), Ex G G' → SgsG K G' q sg' → sg'.length = sg.length → (∀ s, s ∈ sg' → SgOk ks s) → PoolOk s' → R (.ref q) G' (M.set n (p, pool c' s'))
def S_law_bent_paper (K : PySem.W.Frag) : KSp := sp3 fun x y z G M R Z => ∃ (p : Addr) (n : Nat) (c s : Int) (a o : Addr) (ks : List Kn) (ps : List Pp), x = .ref p ∧ y = .ref a ∧ z = .ref o ∧ M[n]? = some (p, pool c s) ∧ PoolOk s ∧ KnF K G a ks ∧ (∀ k, k ∈ ks → KnOk k) ∧ ks.length ≤ 6 ∧ PapM K G [] o ps ∧ PapOk ks ps ∧
  ∀ (q : Addr) (ps' : List Pp) (c' s' : Int) (G' : Hp), Ex G G' → PapM K G' [] q ps' → PapOk ks ps' → PoolOk s' → R (.ref q) G' (M.set n (p, pool c' s'))
def S_law_right (K : PySem.W.Frag) : KSp := sp1 fun x G M R Z => ∃ (p : Addr) (c s : Int), x = .ref p ∧ M = [(p, pool c s)] ∧ PoolOk s ∧ ∀ G', Ex G G' → R (.bl true) G' []
/-! readings of the defs, printed by gen.py -/
/-- law_pool(_law_script, _law_k); slots 0 _law_script, 1 _law_k, 2 _law_cell, 3 _law_seed -/
def rd_law_pool_4 (K : PySem.W.Frag) : KS :=
  kSeq (kRet (kLst (kCons (kVar 2) (kCons (kVar 3) (kNil))))) (kNext)
def rd_law_pool_3 (K : PySem.W.Frag) : KS :=
  kSeq (kIf (kT (kBin (kI0 fun i j => .bl (decide (i < j))) (kVar 2) (kBin (kI CPow fun i j => .int (i ^ j.toNat)) (kC (.int 10)) (kC (.int 18))))) (kSeq (kSet 2 (kC (.int 0))) (kNext)) (kNext)) (rd_law_pool_4 K)
def rd_law_pool_2 (K : PySem.W.Frag) : KS :=
  kSeq (kSet 3 (kBin (kI (fun _ j => 0 < j) fun i j => .int (i % j)) (kBin (kMul) (kBin (kAdd) (kBin (kAdd) (kBin (kI (fun _ j => 0 < j) fun i j => .int (i % j)) (kVar 2) (kC (.int 1000000007))) (kBin (kMul) (kBin (kMul) (kC (.int 15485863)) (kVar 1)) (kVar 1))) (kC (.int 3))) (kC (.int 39373))) (kC (.int 2147483647)))) (rd_law_pool_3 K)
def rd_law_pool_1 (K : PySem.W.Frag) : KS :=
  kSeq (kIf (kT (kBin (kI0 fun i j => .bl (decide (i < j))) (kVar 1) (kCB (kLen K) (kCons (kVar 0) (kNil))))) (kSeq (kSet 2 (kBin (kIx K) (kVar 0) (kVar 1))) (kNext)) (kNext)) (rd_law_pool_2 K)
def rd_law_pool (K : PySem.W.Frag) : KS :=
  kSeq (kSet 2 (kC (.int 0))) (rd_law_pool_1 K)
/-- law_take(_law_pool_here, _law_many); slots 0 _law_pool_here, 1 _law_many, 2 _law_found -/
def rd_law_take_2 (K : PySem.W.Frag) : KS :=
  kSeq (kRet (kBin (kI (fun _ j => 0 < j) fun i j => .int (i % j)) (kBin (kI CDivW fun i j => .int (i / j)) (kBin (kI (fun _ j => 0 < j) fun i j => .int (i % j)) (kBin (kMul) (kBin (kIx K) (kVar 0) (kC (.int 1))) (kBin (kIx K) (kVar 0) (kC (.int 1)))) (kC (.int 2147483629))) (kC (.int 64))) (kVar 1))) (kNext)
def rd_law_take_1 (K : PySem.W.Frag) : KS :=
  kSeq (kAsg (kBin (kI (fun _ j => 0 < j) fun i j => .int (i % j)) (kBin (kAdd) (kBin (kMul) (kBin (kIx K) (kVar 0) (kC (.int 1))) (kC (.int 48271))) (kC (.int 11))) (kC (.int 2147483647))) (kgIx (kVar 0) (kC (.int 1)))) (rd_law_take_2 K)
def rd_law_take (K : PySem.W.Frag) : KS :=
  kSeq (kIf (kT (kBin (kI0 fun i j => .bl (decide (j < i))) (kBin (kIx K) (kVar 0) (kC (.int 0))) (kC (.int 0)))) (kSeq (kSet 2 (kBin (kI (fun _ j => 0 < j) fun i j => .int (i % j)) (kBin (kIx K) (kVar 0) (kC (.int 0))) (kVar 1))) (kSeq (kAsg (kBin (kI CDivW fun i j => .int (i / j)) (kBin (kIx K) (kVar 0) (kC (.int 0))) (kVar 1)) (kgIx (kVar 0) (kC (.int 0)))) (kSeq (kRet (kVar 2)) (kNext)))) (kNext)) (rd_law_take_1 K)
/-- law_kinds(_law_pool_here, _law_most, _law_far); slots 0 _law_pool_here, 1 _law_most, 2 _law_far, 3 _law_kinds_here, 4 _law_k -/
def rd_law_kinds_b0 (K : PySem.W.Frag) : KS :=
  kSeq (kIf (kT (kBin (kEqv false K) (kCall (S_law_take K) (kCons (kVar 0) (kCons (kC (.int 2)) (kNil)))) (kC (.int 0)))) (kSeq (kExpr (kBM K "list" (kAppend) (kVar 3) (kCons (kTup (kCons (kC (.str "leaf")) (kCons (kCall (S_law_take K) (kCons (kVar 0) (kCons (kC (.int 7)) (kNil)))) (kNil)))) (kNil)))) (kNext)) (kSeq (kExpr (kBM K "list" (kAppend) (kVar 3) (kCons (kTup (kCons (kC (.str "shuffle")) (kCons (kBin (kAdd) (kC (.int 1)) (kCall (S_law_take K) (kCons (kVar 0) (kCons (kBin (kIx K) (kLst (kCons (kC (.int 6)) (kCons (kVar 2) (kNil)))) (kCall (S_law_take K) (kCons (kVar 0) (kCons (kC (.int 2)) (kNil))))) (kNil))))) (kNil)))) (kNil)))) (kNext))) (kNext)
def rd_law_kinds_2 (K : PySem.W.Frag) : KS :=
  kSeq (kRet (kVar 3)) (kNext)
def rd_law_kinds_1 (K : PySem.W.Frag) : KS :=
  kSeq (kFor (kiR1 (kCons (kCall (S_law_take K) (kCons (kVar 0) (kCons (kBin (kAdd) (kVar 1) (kC (.int 1))) (kNil)))) (kNil))) (kgName 4) (rd_law_kinds_b0 K)) (rd_law_kinds_2 K)
def rd_law_kinds (K : PySem.W.Frag) : KS :=
  kSeq (kSet 3 (kLst (kNil))) (rd_law_kinds_1 K)
/-- law_turn(_law_pool_here, _law_size); slots 0 _law_pool_here, 1 _law_size, 2 _law_order_here, 3 _law_k -/
def rd_law_turn_b0 (K : PySem.W.Frag) : KS :=
  kSeq (kExpr (kBM K "list" (kInsert) (kVar 2) (kCons (kCall (S_law_take K) (kCons (kVar 0) (kCons (kBin (kAdd) (kVar 3) (kC (.int 1))) (kNil)))) (kCons (kVar 3) (kNil))))) (kNext)
def rd_law_turn_2 (K : PySem.W.Frag) : KS :=
  kSeq (kRet (kVar 2)) (kNext)
def rd_law_turn_1 (K : PySem.W.Frag) : KS :=
  kSeq (kFor (kiR1 (kCons (kVar 1) (kNil))) (kgName 3) (rd_law_turn_b0 K)) (rd_law_turn_2 K)
def rd_law_turn (K : PySem.W.Frag) : KS :=
  kSeq (kSet 2 (kLst (kNil))) (rd_law_turn_1 K)
/-- law_paper(_law_pool_here, _law_kinds_here); slots 0 _law_pool_here, 1 _law_kinds_here, 2 _law_places, 3 _law_k, 4 _law_paper_here, 5 _law_kind, 6 _law_free, 7 _law_source, 8 _law_turn_here -/
def rd_law_paper_b0 (K : PySem.W.Frag) : KS :=
  kSeq (kDSetT (kVar 2) (kBin (kIx K) (kVar 1) (kVar 3)) (kBin (kAdd) (kDGet2T (kVar 2) (kBin (kIx K) (kVar 1) (kVar 3)) (kLst (kNil))) (kLst (kCons (kVar 3) (kNil))))) (kNext)
def rd_law_paper_b1_4 (K : PySem.W.Frag) : KS :=
  kSeq (kExpr (kBM K "list" (kAppend) (kVar 4) (kCons (kTup (kCons (kVar 7) (kCons (kVar 8) (kNil)))) (kNil)))) (kNext)
def rd_law_paper_b1_3 (K : PySem.W.Frag) : KS :=
  kSeq (kIf (kT (kBin (kEqv false K) (kBin (kIx K) (kVar 5) (kC (.int 0))) (kC (.str "shuffle")))) (kSeq (kSet 8 (kCall (S_law_turn K) (kCons (kVar 0) (kCons (kBin (kIx K) (kVar 5) (kC (.int 1))) (kNil))))) (kNext)) (kNext)) (rd_law_paper_b1_4 K)
def rd_law_paper_b1_2 (K : PySem.W.Frag) : KS :=
  kSeq (kSet 8 (kC .non)) (rd_law_paper_b1_3 K)
def rd_law_paper_b1_1 (K : PySem.W.Frag) : KS :=
  kSeq (kSet 7 (kBM K "list" (kPopAt) (kVar 6) (kCons (kCall (S_law_take K) (kCons (kVar 0) (kCons (kCB (kLen K) (kCons (kVar 6) (kNil))) (kNil)))) (kNil)))) (rd_law_paper_b1_2 K)
def rd_law_paper_b1 (K : PySem.W.Frag) : KS :=
  kSeq (kSet 6 (kBin kDGetT (kVar 2) (kVar 5))) (rd_law_paper_b1_1 K)
def rd_law_paper_4 (K : PySem.W.Frag) : KS :=
  kSeq (kRet (kVar 4)) (kNext)
def rd_law_paper_3 (K : PySem.W.Frag) : KS :=
  kSeq (kFor (kiSeq K (kVar 1)) (kgName 5) (rd_law_paper_b1 K)) (rd_law_paper_4 K)
def rd_law_paper_2 (K : PySem.W.Frag) : KS :=
  kSeq (kSet 4 (kLst (kNil))) (rd_law_paper_3 K)
def rd_law_paper_1 (K : PySem.W.Frag) : KS :=
  kSeq (kFor (kiR1 (kCons (kCB (kLen K) (kCons (kVar 1) (kNil))) (kNil))) (kgName 3) (rd_law_paper_b0 K)) (rd_law_paper_2 K)
def rd_law_paper (K : PySem.W.Frag) : KS :=
  kSeq (kSet 2 (kDNewT)) (rd_law_paper_1 K)
/-- law_sign(_law_pool_here, _law_kinds_here); slots 0 _law_pool_here, 1 _law_kinds_here, 2 _law_way, 3 _law_deed, 4 _law_shelf, 5 _law_draw_here -/
def rd_law_sign_6 (K : PySem.W.Frag) : KS :=
  kSeq (kRet (kTup (kCons (kC (.str "way")) (kCons (kVar 3) (kCons (kVar 4) (kCons (kVar 5) (kCons (kCall (S_law_take K) (kCons (kVar 0) (kCons (kBin (kAdd) (kBin (kIx K) (kBin (kIx K) (kVar 1) (kVar 5)) (kC (.int 1))) (kC (.int 1))) (kNil)))) (kCons (kCall (S_law_take K) (kCons (kVar 0) (kCons (kC (.int 2)) (kNil)))) (kNil))))))))) (kNext)
def rd_law_sign_5 (K : PySem.W.Frag) : KS :=
  kSeq (kIf (kT (kBin (kEqv false K) (kBin (kIx K) (kBin (kIx K) (kVar 1) (kVar 5)) (kC (.int 0))) (kC (.str "shuffle")))) (kSeq (kRet (kTup (kCons (kC (.str "item")) (kCons (kVar 3) (kCons (kVar 4) (kCons (kVar 5) (kCons (kCall (S_law_take K) (kCons (kVar 0) (kCons (kBin (kIx K) (kBin (kIx K) (kVar 1) (kVar 5)) (kC (.int 1))) (kNil)))) (kNil)))))))) (kNext)) (kNext)) (rd_law_sign_6 K)
def rd_law_sign_4 (K : PySem.W.Frag) : KS :=
  kSeq (kSet 5 (kCall (S_law_take K) (kCons (kVar 0) (kCons (kCB (kLen K) (kCons (kVar 1) (kNil))) (kNil))))) (rd_law_sign_5 K)
def rd_law_sign_3 (K : PySem.W.Frag) : KS :=
  kSeq (kIf (kOr (kT (kBin (kEqv false K) (kVar 2) (kC (.int 0)))) (kT (kBin (kEqv false K) (kVar 1) (kLst (kNil))))) (kSeq (kRet (kTup (kCons (kC (.str "room")) (kCons (kVar 3) (kCons (kVar 4) (kCons (kCall (S_law_take K) (kCons (kVar 0) (kCons (kC (.int 9)) (kNil)))) (kNil))))))) (kNext)) (kNext)) (rd_law_sign_4 K)
def rd_law_sign_2 (K : PySem.W.Frag) : KS :=
  kSeq (kSet 4 (kCall (S_law_take K) (kCons (kVar 0) (kCons (kC (.int 3)) (kNil))))) (rd_law_sign_3 K)
def rd_law_sign_1 (K : PySem.W.Frag) : KS :=
  kSeq (kSet 3 (kBin (kIx K) (kLst (kCons (kC (.str "look")) (kCons (kC (.str "lay")) (kNil)))) (kCall (S_law_take K) (kCons (kVar 0) (kCons (kC (.int 2)) (kNil)))))) (rd_law_sign_2 K)
def rd_law_sign (K : PySem.W.Frag) : KS :=
  kSeq (kSet 2 (kCall (S_law_take K) (kCons (kVar 0) (kCons (kC (.int 5)) (kNil))))) (rd_law_sign_1 K)
/-- law_led_sign(_law_paper_here, _law_sign_here); slots 0 _law_paper_here, 1 _law_sign_here, 2 _law_draw_here, 3 _law_k -/
def rd_law_led_sign_3 (K : PySem.W.Frag) : KS :=
  kSeq (kRet (kBin (kCat K) (kSlT K (kVar 1) (kNoP) (kPart (kC (.int 3)))) (kTup (kCons (kVar 2) (kCons (kBM K "list" (kIndex K) (kBin (kIx K) (kBin (kIx K) (kVar 0) (kVar 2)) (kC (.int 1))) (kCons (kBin (kIx K) (kVar 1) (kC (.int 4))) (kNil))) (kNil)))))) (kNext)
def rd_law_led_sign_2 (K : PySem.W.Frag) : KS :=
  kSeq (kIf (kT (kBin (kEqv false K) (kBin (kIx K) (kVar 1) (kC (.int 0))) (kC (.str "way")))) (kSeq (kRet (kBin (kCat K) (kBin (kCat K) (kSlT K (kVar 1) (kNoP) (kPart (kC (.int 3)))) (kTup (kCons (kVar 2) (kNil)))) (kSlT K (kVar 1) (kPart (kC (.int 4))) (kNoP)))) (kNext)) (kNext)) (rd_law_led_sign_3 K)
def rd_law_led_sign_1 (K : PySem.W.Frag) : KS :=
  kSeq (kSet 2 (kBin (kIx K) (kComp (kiR1 (kCons (kCB (kLen K) (kCons (kVar 0) (kNil))) (kNil))) (kgName 3) (kT (kBin (kEqv false K) (kBin (kIx K) (kBin (kIx K) (kVar 0) (kVar 3)) (kC (.int 0))) (kBin (kIx K) (kVar 1) (kC (.int 3))))) (kVar 3) [3]) (kC (.int 0)))) (rd_law_led_sign_2 K)
def rd_law_led_sign (K : PySem.W.Frag) : KS :=
  kSeq (kIf (kT (kBin (kEqv false K) (kBin (kIx K) (kVar 1) (kC (.int 0))) (kC (.str "room")))) (kSeq (kRet (kVar 1)) (kNext)) (kNext)) (rd_law_led_sign_1 K)
/-- law_draw(_law_pool_here, _law_kind); slots 0 _law_pool_here, 1 _law_kind, 2 _law_k -/
def rd_law_draw_1 (K : PySem.W.Frag) : KS :=
  kSeq (kRet (kComp (kiR1 (kCons (kBin (kIx K) (kVar 1) (kC (.int 1))) (kNil))) (kgName 2) (kYes) (kCall (S_law_take K) (kCons (kVar 0) (kCons (kBin (kAdd) (kVar 2) (kC (.int 1))) (kNil)))) [2])) (kNext)
def rd_law_draw (K : PySem.W.Frag) : KS :=
  kSeq (kIf (kT (kBin (kEqv false K) (kBin (kIx K) (kVar 1) (kC (.int 0))) (kC (.str "leaf")))) (kSeq (kRet (kCall (S_law_take K) (kCons (kVar 0) (kCons (kBin (kI CPow fun i j => .int (i * 2 ^ j.toNat)) (kC (.int 1)) (kBin (kIx K) (kVar 1) (kC (.int 1)))) (kNil))))) (kNext)) (kNext)) (rd_law_draw_1 K)
/-- law_draws(_law_pool_here, _law_kinds_here); slots 0 _law_pool_here, 1 _law_kinds_here, 2 _law_kind -/
def rd_law_draws (K : PySem.W.Frag) : KS :=
  kSeq (kRet (kComp (kiSeq K (kVar 1)) (kgName 2) (kYes) (kCall (S_law_draw K) (kCons (kVar 0) (kCons (kVar 2) (kNil)))) [2])) (kNext)
/-- is_whole(thing); slots 0 thing -/
def rd_is_whole (K : PySem.W.Frag) : KS :=
  kSeq (kRet (kAndV (kCB (kIsi K) (kCons (kVar 0) (kCons (kC (.ty "int")) (kNil)))) (kNotV (kCB (kIsi K) (kCons (kVar 0) (kCons (kC (.ty "bool")) (kNil))))))) (kNext)
/-- is_within(thing, least, most); slots 0 thing, 1 least, 2 most -/
def rd_is_within (K : PySem.W.Frag) : KS :=
  kSeq (kRet (kAndV (kCall (S_is_whole K) (kCons (kVar 0) (kNil))) (kChain (kI0 fun i j => .bl (decide (i ≤ j))) (kI0 fun i j => .bl (decide (i ≤ j))) (kVar 1) (kVar 0) (kVar 2)))) (kNext)
/-- is_order(thing); slots 0 thing, 1 number -/
def rd_is_order_2 (K : PySem.W.Frag) : KS :=
  kSeq (kRet (kBin (kEqv false K) (kLenSet K (kVar 0)) (kCB (kLen K) (kCons (kVar 0) (kNil))))) (kNext)
def rd_is_order_1 (K : PySem.W.Frag) : KS :=
  kSeq (kIf (kNot (kT (kCB (kAll K) (kCons (kComp (kiSeq K (kVar 0)) (kgName 1) (kYes) (kCall (S_is_within K) (kCons (kVar 1) (kCons (kC (.int 0)) (kCons (kBin (kI0 fun i j => .int (i - j)) (kCB (kLen K) (kCons (kVar 0) (kNil))) (kC (.int 1))) (kNil))))) [1]) (kNil))))) (kSeq (kRet (kC (.bl false))) (kNext)) (kNext)) (rd_is_order_2 K)
def rd_is_order (K : PySem.W.Frag) : KS :=
  kSeq (kIf (kOr (kNot (kT (kCB (kIsi K) (kCons (kVar 0) (kCons (kC (.ty "list")) (kNil)))))) (kOr (kT (kBin (kI0 fun i j => .bl (decide (i < j))) (kCB (kLen K) (kCons (kVar 0) (kNil))) (kC (.int 1)))) (kT (kBin (kI0 fun i j => .bl (decide (j < i))) (kCB (kLen K) (kCons (kVar 0) (kNil))) (kC (.int 64)))))) (kSeq (kRet (kC (.bl false))) (kNext)) (kNext)) (rd_is_order_1 K)
/-- is_part(kinds, place, thing); slots 0 kinds, 1 place, 2 thing, 3 kind -/
def rd_is_part_4 (K : PySem.W.Frag) : KS :=
  kSeq (kRet (kAndV (kCall (S_is_order K) (kCons (kBin (kIx K) (kVar 2) (kC (.int 1))) (kNil))) (kBin (kEqv false K) (kCB (kLen K) (kCons (kBin (kIx K) (kVar 2) (kC (.int 1))) (kNil))) (kBin (kIx K) (kVar 3) (kC (.int 1)))))) (kNext)
def rd_is_part_3 (K : PySem.W.Frag) : KS :=
  kSeq (kIf (kT (kBin (kEqv false K) (kBin (kIx K) (kVar 3) (kC (.int 0))) (kC (.str "leaf")))) (kSeq (kRet (kBin (kIs2 false) (kBin (kIx K) (kVar 2) (kC (.int 1))) (kC .non))) (kNext)) (kNext)) (rd_is_part_4 K)
def rd_is_part_2 (K : PySem.W.Frag) : KS :=
  kSeq (kIf (kT (kBin (kEqv true K) (kBin (kIx K) (kVar 0) (kBin (kIx K) (kVar 2) (kC (.int 0)))) (kVar 3))) (kSeq (kRet (kC (.bl false))) (kNext)) (kNext)) (rd_is_part_3 K)
def rd_is_part_1 (K : PySem.W.Frag) : KS :=
  kSeq (kSet 3 (kBin (kIx K) (kVar 0) (kVar 1))) (rd_is_part_2 K)
def rd_is_part (K : PySem.W.Frag) : KS :=
  kSeq (kIf (kOr (kNot (kT (kCB (kIsi K) (kCons (kVar 2) (kCons (kC (.ty "tuple")) (kNil)))))) (kOr (kT (kBin (kEqv true K) (kCB (kLen K) (kCons (kVar 2) (kNil))) (kC (.int 2)))) (kNot (kT (kCall (S_is_within K) (kCons (kBin (kIx K) (kVar 2) (kC (.int 0))) (kCons (kC (.int 0)) (kCons (kBin (kI0 fun i j => .int (i - j)) (kCB (kLen K) (kCons (kVar 0) (kNil))) (kC (.int 1))) (kNil))))))))) (kSeq (kRet (kC (.bl false))) (kNext)) (kNext)) (rd_is_part_1 K)
/-- is_paper(kinds, thing); slots 0 kinds, 1 thing, 2 place, 3 part -/
def rd_is_paper_b0 (K : PySem.W.Frag) : KS :=
  kSeq (kIf (kNot (kT (kCall (S_is_part K) (kCons (kVar 0) (kCons (kVar 2) (kCons (kBin (kIx K) (kVar 1) (kVar 2)) (kNil))))))) (kSeq (kRet (kC (.bl false))) (kNext)) (kNext)) (kNext)
def rd_is_paper_2 (K : PySem.W.Frag) : KS :=
  kSeq (kRet (kBin (kEqv false K) (kLenSet K (kComp (kiSeq K (kVar 1)) (kgName 3) (kYes) (kBin (kIx K) (kVar 3) (kC (.int 0))) [3])) (kCB (kLen K) (kCons (kVar 1) (kNil))))) (kNext)
def rd_is_paper_1 (K : PySem.W.Frag) : KS :=
  kSeq (kFor (kiR1 (kCons (kCB (kLen K) (kCons (kVar 0) (kNil))) (kNil))) (kgName 2) (rd_is_paper_b0 K)) (rd_is_paper_2 K)
def rd_is_paper (K : PySem.W.Frag) : KS :=
  kSeq (kIf (kOr (kNot (kT (kCB (kIsi K) (kCons (kVar 1) (kCons (kC (.ty "list")) (kNil)))))) (kT (kBin (kEqv true K) (kCB (kLen K) (kCons (kVar 1) (kNil))) (kCB (kLen K) (kCons (kVar 0) (kNil)))))) (kSeq (kRet (kC (.bl false))) (kNext)) (kNext)) (rd_is_paper_1 K)
/-- is_led(one, other, paper); slots 0 one, 1 other, 2 paper, 3 source, 4 turn -/
def rd_is_led_5 (K : PySem.W.Frag) : KS :=
  kSeq (kRet (kBin (kEqv false K) (kSlT K (kVar 0) (kPart (kC (.int 4))) (kNoP)) (kSlT K (kVar 1) (kPart (kC (.int 4))) (kNoP)))) (kNext)
def rd_is_led_4 (K : PySem.W.Frag) : KS :=
  kSeq (kIf (kT (kBin (kEqv false K) (kBin (kIx K) (kVar 0) (kC (.int 0))) (kC (.str "item")))) (kSeq (kRet (kBin (kEqv false K) (kBin (kIx K) (kVar 4) (kBin (kIx K) (kVar 1) (kC (.int 4)))) (kBin (kIx K) (kVar 0) (kC (.int 4))))) (kNext)) (kNext)) (rd_is_led_5 K)
def rd_is_led_3 (K : PySem.W.Frag) : KS :=
  kSeq (kIf (kT (kBin (kEqv true K) (kVar 3) (kBin (kIx K) (kVar 0) (kC (.int 3))))) (kSeq (kRet (kC (.bl false))) (kNext)) (kNext)) (rd_is_led_4 K)
def rd_is_led_2 (K : PySem.W.Frag) : KS :=
  kSeq (kAsg (kBin (kIx K) (kVar 2) (kBin (kIx K) (kVar 1) (kC (.int 3)))) (kgTup K 2 (kgsCons (kgName 3) (kgsCons (kgName 4) (kgsNil))))) (rd_is_led_3 K)
def rd_is_led_1 (K : PySem.W.Frag) : KS :=
  kSeq (kIf (kT (kBin (kEqv false K) (kBin (kIx K) (kVar 0) (kC (.int 0))) (kC (.str "room")))) (kSeq (kRet (kBin (kEqv false K) (kBin (kIx K) (kVar 0) (kC (.int 3))) (kBin (kIx K) (kVar 1) (kC (.int 3))))) (kNext)) (kNext)) (rd_is_led_2 K)
def rd_is_led (K : PySem.W.Frag) : KS :=
  kSeq (kIf (kOr (kT (kBin (kEqv true K) (kBin (kIx K) (kVar 0) (kC (.int 0))) (kBin (kIx K) (kVar 1) (kC (.int 0))))) (kT (kBin (kEqv true K) (kSlT K (kVar 0) (kPart (kC (.int 1))) (kPart (kC (.int 3)))) (kSlT K (kVar 1) (kPart (kC (.int 1))) (kPart (kC (.int 3))))))) (kSeq (kRet (kC (.bl false))) (kNext)) (kNext)) (rd_is_led_1 K)
/-- is_leading(kinds, one, other, thing); slots 0 kinds, 1 one, 2 other, 3 thing, 4 here, 5 there -/
def rd_is_leading_1 (K : PySem.W.Frag) : KS :=
  kSeq (kRet (kCB (kAll K) (kCons (kComp (kiZip K (kCons (kVar 1) (kCons (kVar 2) (kNil)))) (kgTup K 2 (kgsCons (kgName 4) (kgsCons (kgName 5) (kgsNil)))) (kYes) (kCall (S_is_led K) (kCons (kVar 4) (kCons (kVar 5) (kCons (kVar 3) (kNil))))) [4, 5]) (kNil)))) (kNext)
def rd_is_leading (K : PySem.W.Frag) : KS :=
  kSeq (kIf (kOr (kNot (kT (kCall (S_is_paper K) (kCons (kVar 0) (kCons (kVar 3) (kNil)))))) (kT (kBin (kEqv true K) (kCB (kLen K) (kCons (kVar 1) (kNil))) (kCB (kLen K) (kCons (kVar 2) (kNil)))))) (kSeq (kRet (kC (.bl false))) (kNext)) (kNext)) (rd_is_leading_1 K)
/-- exchange(row, one, other); slots 0 row, 1 one, 2 other -/
def rd_exchange (K : PySem.W.Frag) : KS :=
  kSeq (kAsg (kTup (kCons (kBin (kIx K) (kVar 0) (kVar 2)) (kCons (kBin (kIx K) (kVar 0) (kVar 1)) (kNil)))) (kgTup K 2 (kgsCons (kgIx (kVar 0) (kVar 1)) (kgsCons (kgIx (kVar 0) (kVar 2)) (kgsNil))))) (kNext)
/-- order_of(row); slots 0 row, 1 order, 2 place -/
def rd_order_of_b0 (K : PySem.W.Frag) : KS :=
  kSeq (kExpr (kCall (S_exchange K) (kCons (kVar 1) (kCons (kVar 2) (kCons (kBin (kIx K) (kVar 0) (kVar 2)) (kNil)))))) (kNext)
def rd_order_of_2 (K : PySem.W.Frag) : KS :=
  kSeq (kRet (kVar 1)) (kNext)
def rd_order_of_1 (K : PySem.W.Frag) : KS :=
  kSeq (kFor (kiR3 (kCons (kBin (kI0 fun i j => .int (i - j)) (kCB (kLen K) (kCons (kVar 0) (kNil))) (kC (.int 1))) (kCons (kC (.int 0)) (kCons (kUn kNeg (kC (.int 1))) (kNil))))) (kgName 2) (rd_order_of_b0 K)) (rd_order_of_2 K)
def rd_order_of (K : PySem.W.Frag) : KS :=
  kSeq (kSet 1 (kListR1 (kCB (kLen K) (kCons (kVar 0) (kNil))))) (rd_order_of_1 K)
/-- told_by(kinds, draws); slots 0 kinds, 1 draws, 2 kind, 3 draw -/
def rd_told_by (K : PySem.W.Frag) : KS :=
  kSeq (kRet (kComp (kiZip K (kCons (kVar 0) (kCons (kVar 1) (kNil)))) (kgTup K 2 (kgsCons (kgName 2) (kgsCons (kgName 3) (kgsNil)))) (kYes) (kIte (kT (kBin (kEqv false K) (kBin (kIx K) (kVar 2) (kC (.int 0))) (kC (.str "shuffle")))) (kCall (S_order_of K) (kCons (kVar 3) (kNil))) (kVar 3)) [2, 3])) (kNext)
/-- node_at(high, depth, leaf); slots 0 high, 1 depth, 2 leaf -/
def rd_node_at (K : PySem.W.Frag) : KS :=
  kSeq (kRet (kBin (kAdd) (kBin (kI0 fun i j => .int (i - j)) (kBin (kI CPow fun i j => .int (i * 2 ^ j.toNat)) (kC (.int 1)) (kVar 1)) (kC (.int 1))) (kBin (kI (fun _ j => 0 ≤ j) fun i j => .int (i / 2 ^ j.toNat)) (kVar 2) (kBin (kI0 fun i j => .int (i - j)) (kVar 0) (kVar 1))))) (kNext)
/-- room_of(node, side); slots 0 node, 1 side -/
def rd_room_of (K : PySem.W.Frag) : KS :=
  kSeq (kRet (kBin (kAdd) (kBin (kMul) (kC (.int 2)) (kVar 0)) (kVar 1))) (kNext)
/-- touch_of(kinds, sign, told); slots 0 kinds, 1 sign, 2 told, 3 node -/
def rd_touch_of_3 (K : PySem.W.Frag) : KS :=
  kSeq (kRet (kTup (kCons (kBin (kIx K) (kVar 1) (kC (.int 1))) (kCons (kBin (kIx K) (kVar 1) (kC (.int 2))) (kCons (kCall (S_room_of K) (kCons (kVar 3) (kCons (kBin (kIx K) (kVar 1) (kC (.int 5))) (kNil)))) (kNil)))))) (kNext)
def rd_touch_of_2 (K : PySem.W.Frag) : KS :=
  kSeq (kSet 3 (kCall (S_node_at K) (kCons (kBin (kIx K) (kBin (kIx K) (kVar 0) (kBin (kIx K) (kVar 1) (kC (.int 3)))) (kC (.int 1))) (kCons (kBin (kIx K) (kVar 1) (kC (.int 4))) (kCons (kBin (kIx K) (kVar 2) (kBin (kIx K) (kVar 1) (kC (.int 3)))) (kNil)))))) (rd_touch_of_3 K)
def rd_touch_of_1 (K : PySem.W.Frag) : KS :=
  kSeq (kIf (kT (kBin (kEqv false K) (kBin (kIx K) (kVar 1) (kC (.int 0))) (kC (.str "item")))) (kSeq (kRet (kTup (kCons (kBin (kIx K) (kVar 1) (kC (.int 1))) (kCons (kBin (kIx K) (kVar 1) (kC (.int 2))) (kCons (kBin (kIx K) (kBin (kIx K) (kVar 2) (kBin (kIx K) (kVar 1) (kC (.int 3)))) (kBin (kIx K) (kVar 1) (kC (.int 4)))) (kNil)))))) (kNext)) (kNext)) (rd_touch_of_2 K)
def rd_touch_of (K : PySem.W.Frag) : KS :=
  kSeq (kIf (kT (kBin (kEqv false K) (kBin (kIx K) (kVar 1) (kC (.int 0))) (kC (.str "room")))) (kSeq (kRet (kSlT K (kVar 1) (kPart (kC (.int 1))) (kNoP))) (kNext)) (kNext)) (rd_touch_of_1 K)
/-- seen_by(kinds, signs, draws); slots 0 kinds, 1 signs, 2 draws, 3 told, 4 sign -/
def rd_seen_by_1 (K : PySem.W.Frag) : KS :=
  kSeq (kRet (kComp (kiSeq K (kVar 1)) (kgName 4) (kYes) (kCall (S_touch_of K) (kCons (kVar 0) (kCons (kVar 4) (kCons (kVar 3) (kNil))))) [4])) (kNext)
def rd_seen_by (K : PySem.W.Frag) : KS :=
  kSeq (kSet 3 (kCall (S_told_by K) (kCons (kVar 0) (kCons (kVar 2) (kNil))))) (rd_seen_by_1 K)
/-- row_of(order); slots 0 order, 1 row, 2 left, 3 place -/
def rd_row_of_b0_1 (K : PySem.W.Frag) : KS :=
  kSeq (kExpr (kCall (S_exchange K) (kCons (kVar 2) (kCons (kVar 3) (kCons (kBin (kIx K) (kVar 1) (kVar 3)) (kNil)))))) (kNext)
def rd_row_of_b0 (K : PySem.W.Frag) : KS :=
  kSeq (kAsg (kBM K "list" (kIndex K) (kVar 2) (kCons (kBin (kIx K) (kVar 0) (kVar 3)) (kNil))) (kgIx (kVar 1) (kVar 3))) (rd_row_of_b0_1 K)
def rd_row_of_4 (K : PySem.W.Frag) : KS :=
  kSeq (kRet (kVar 1)) (kNext)
def rd_row_of_3 (K : PySem.W.Frag) : KS :=
  kSeq (kFor (kiR3 (kCons (kBin (kI0 fun i j => .int (i - j)) (kCB (kLen K) (kCons (kVar 0) (kNil))) (kC (.int 1))) (kCons (kC (.int 0)) (kCons (kUn kNeg (kC (.int 1))) (kNil))))) (kgName 3) (rd_row_of_b0 K)) (rd_row_of_4 K)
def rd_row_of_2 (K : PySem.W.Frag) : KS :=
  kSeq (kSet 2 (kListR1 (kCB (kLen K) (kCons (kVar 0) (kNil))))) (rd_row_of_3 K)
def rd_row_of_1 (K : PySem.W.Frag) : KS :=
  kSeq (kSet 1 (kBin (kMul) (kLst (kCons (kC (.int 0)) (kNil))) (kCB (kLen K) (kCons (kVar 0) (kNil))))) (rd_row_of_2 K)
def rd_row_of (K : PySem.W.Frag) : KS :=
  kSeq (kIf (kNot (kT (kCall (S_is_order K) (kCons (kVar 0) (kNil))))) (kSeq (kRaise K "NoOrder") (kNext)) (kNext)) (rd_row_of_1 K)
/-- led_draw(part, draws); slots 0 part, 1 draws, 2 source, 3 turn, 4 order, 5 place -/
def rd_led_draw_3 (K : PySem.W.Frag) : KS :=
  kSeq (kRet (kCall (S_row_of K) (kCons (kComp (kiSeq K (kVar 3)) (kgName 5) (kYes) (kBin (kIx K) (kVar 4) (kVar 5)) [5]) (kNil)))) (kNext)
def rd_led_draw_2 (K : PySem.W.Frag) : KS :=
  kSeq (kSet 4 (kCall (S_order_of K) (kCons (kBin (kIx K) (kVar 1) (kVar 2)) (kNil)))) (rd_led_draw_3 K)
def rd_led_draw_1 (K : PySem.W.Frag) : KS :=
  kSeq (kIf (kT (kBin (kIs2 false) (kVar 3) (kC .non))) (kSeq (kRet (kBin (kIx K) (kVar 1) (kVar 2))) (kNext)) (kNext)) (rd_led_draw_2 K)
def rd_led_draw (K : PySem.W.Frag) : KS :=
  kSeq (kAsg (kVar 0) (kgTup K 2 (kgsCons (kgName 2) (kgsCons (kgName 3) (kgsNil))))) (rd_led_draw_1 K)
/-- led(kinds, leading, draws); slots 0 kinds, 1 leading, 2 draws, 3 part -/
def rd_led (K : PySem.W.Frag) : KS :=
  kSeq (kRet (kComp (kiSeq K (kVar 1)) (kgName 3) (kYes) (kCall (S_led_draw K) (kCons (kVar 3) (kCons (kVar 2) (kNil)))) [3])) (kNext)
/-- inverse(order); slots 0 order, 1 places, 2 place, 3 number -/
def rd_inverse_b0 (K : PySem.W.Frag) : KS :=
  kSeq (kAsg (kVar 2) (kgIx (kVar 1) (kVar 3))) (kNext)
def rd_inverse_2 (K : PySem.W.Frag) : KS :=
  kSeq (kRet (kVar 1)) (kNext)
def rd_inverse_1 (K : PySem.W.Frag) : KS :=
  kSeq (kFor (kiEnum K (kCons (kVar 0) (kNil))) (kgTup K 2 (kgsCons (kgName 2) (kgsCons (kgName 3) (kgsNil)))) (rd_inverse_b0 K)) (rd_inverse_2 K)
def rd_inverse (K : PySem.W.Frag) : KS :=
  kSeq (kSet 1 (kBin (kMul) (kLst (kCons (kC (.int 0)) (kNil))) (kCB (kLen K) (kCons (kVar 0) (kNil))))) (rd_inverse_1 K)
/-- back(leading); slots 0 leading, 1 found, 2 place, 3 part, 4 source, 5 turn -/
def rd_back_b0_1 (K : PySem.W.Frag) : KS :=
  kSeq (kAsg (kTup (kCons (kVar 2) (kCons (kIte (kT (kBin (kIs2 false) (kVar 5) (kC .non))) (kC .non) (kCall (S_inverse K) (kCons (kVar 5) (kNil)))) (kNil)))) (kgIx (kVar 1) (kVar 4))) (kNext)
def rd_back_b0 (K : PySem.W.Frag) : KS :=
  kSeq (kAsg (kVar 3) (kgTup K 2 (kgsCons (kgName 4) (kgsCons (kgName 5) (kgsNil))))) (rd_back_b0_1 K)
def rd_back_2 (K : PySem.W.Frag) : KS :=
  kSeq (kRet (kVar 1)) (kNext)
def rd_back_1 (K : PySem.W.Frag) : KS :=
  kSeq (kFor (kiEnum K (kCons (kVar 0) (kNil))) (kgTup K 2 (kgsCons (kgName 2) (kgsCons (kgName 3) (kgsNil)))) (rd_back_b0 K)) (rd_back_2 K)
def rd_back (K : PySem.W.Frag) : KS :=
  kSeq (kSet 1 (kBin (kMul) (kLst (kCons (kC .non) (kNil))) (kCB (kLen K) (kCons (kVar 0) (kNil))))) (rd_back_1 K)
/-- law_holds(_law_kinds_here, _law_one, _law_other, _law_paper_here, _law_draws_here); slots 0 _law_kinds_here, 1 _law_one, 2 _law_other, 3 _law_paper_here, 4 _law_draws_here, 5 _law_turned -/
def rd_law_holds_4 (K : PySem.W.Frag) : KS :=
  kSeq (kRet (kBin (kEqv false K) (kCall (S_seen_by K) (kCons (kVar 0) (kCons (kVar 2) (kCons (kVar 4) (kNil))))) (kCall (S_seen_by K) (kCons (kVar 0) (kCons (kVar 1) (kCons (kCall (S_led K) (kCons (kVar 0) (kCons (kVar 5) (kCons (kVar 4) (kNil))))) (kNil))))))) (kNext)
def rd_law_holds_3 (K : PySem.W.Frag) : KS :=
  kSeq (kIf (kNot (kT (kCall (S_is_leading K) (kCons (kVar 0) (kCons (kVar 2) (kCons (kVar 1) (kCons (kVar 5) (kNil)))))))) (kSeq (kRet (kC (.bl false))) (kNext)) (kNext)) (rd_law_holds_4 K)
def rd_law_holds_2 (K : PySem.W.Frag) : KS :=
  kSeq (kSet 5 (kCall (S_back K) (kCons (kVar 3) (kNil)))) (rd_law_holds_3 K)
def rd_law_holds_1 (K : PySem.W.Frag) : KS :=
  kSeq (kIf (kT (kBin (kEqv true K) (kCall (S_seen_by K) (kCons (kVar 0) (kCons (kVar 1) (kCons (kVar 4) (kNil))))) (kCall (S_seen_by K) (kCons (kVar 0) (kCons (kVar 2) (kCons (kCall (S_led K) (kCons (kVar 0) (kCons (kVar 3) (kCons (kVar 4) (kNil))))) (kNil))))))) (kSeq (kRet (kC (.bl false))) (kNext)) (kNext)) (rd_law_holds_2 K)
def rd_law_holds (K : PySem.W.Frag) : KS :=
  kSeq (kIf (kNot (kT (kCall (S_is_leading K) (kCons (kVar 0) (kCons (kVar 1) (kCons (kVar 2) (kCons (kVar 3) (kNil)))))))) (kSeq (kRet (kC (.bl true))) (kNext)) (kNext)) (rd_law_holds_1 K)
/-- law_bent(_law_pool_here, _law_kinds_here, _law_signs); slots 0 _law_pool_here, 1 _law_kinds_here, 2 _law_signs, 3 _law_bent_here, 4 _law_k -/
def rd_law_bent_b0 (K : PySem.W.Frag) : KS :=
  kSeq (kIf (kT (kBin (kEqv true K) (kVar 3) (kLst (kNil)))) (kSeq (kAsg (kCall (S_law_sign K) (kCons (kVar 0) (kCons (kVar 1) (kNil)))) (kgIx (kVar 3) (kCall (S_law_take K) (kCons (kVar 0) (kCons (kCB (kLen K) (kCons (kVar 3) (kNil))) (kNil)))))) (kNext)) (kNext)) (kNext)
def rd_law_bent_2 (K : PySem.W.Frag) : KS :=
  kSeq (kH (kRet (kVar 3))) (kNext)
def rd_law_bent_1 (K : PySem.W.Frag) : KS :=
  kSeq (kFor (kiR1 (kCons (kCall (S_law_take K) (kCons (kVar 0) (kCons (kC (.int 3)) (kNil)))) (kNil))) (kgName 4) (rd_law_bent_b0 K)) (rd_law_bent_2 K)
def rd_law_bent (K : PySem.W.Frag) : KS :=
  kSeq (kSet 3 (kCB (kList K) (kCons (kVar 2) (kNil)))) (rd_law_bent_1 K)
/-- law_bent_paper(_law_pool_here, _law_kinds_here, _law_paper_here); slots 0 _law_pool_here, 1 _law_kinds_here, 2 _law_paper_here, 3 _law_bent_here, 4 _law_at -/
def rd_law_bent_paper_2 (K : PySem.W.Frag) : KS :=
  kSeq (kH (kRet (kVar 3))) (kNext)
def rd_law_bent_paper_1 (K : PySem.W.Frag) : KS :=
  kSeq (kIf (kT (kBin (kEqv true K) (kVar 3) (kLst (kNil)))) (kSeq (kSet 4 (kCall (S_law_take K) (kCons (kVar 0) (kCons (kCB (kLen K) (kCons (kVar 3) (kNil))) (kNil))))) (kSeq (kIf (kT (kBin (kEqv false K) (kBin (kIx K) (kBin (kIx K) (kVar 1) (kVar 4)) (kC (.int 0))) (kC (.str "shuffle")))) (kSeq (kAsg (kTup (kCons (kBin (kIx K) (kBin (kIx K) (kVar 3) (kVar 4)) (kC (.int 0))) (kCons (kCall (S_law_turn K) (kCons (kVar 0) (kCons (kBin (kIx K) (kBin (kIx K) (kVar 1) (kVar 4)) (kC (.int 1))) (kNil)))) (kNil)))) (kgIx (kVar 3) (kVar 4))) (kNext)) (kNext)) (kNext))) (kNext)) (rd_law_bent_paper_2 K)
def rd_law_bent_paper (K : PySem.W.Frag) : KS :=
  kSeq (kSet 3 (kCB (kList K) (kCons (kVar 2) (kNil)))) (rd_law_bent_paper_1 K)
/-- law_right(_law_pool_here); slots 0 _law_pool_here, 1 _law_kinds_here, 2 _law_paper_here, 3 _law_one, 4 _law_k, 5 _law_other, 6 _law_sign_here, 7 _law_draws_here -/
def rd_law_right_7 (K : PySem.W.Frag) : KS :=
  kSeq (kRet (kCall (S_law_holds K) (kCons (kVar 1) (kCons (kVar 3) (kCons (kVar 5) (kCons (kCall (S_law_bent_paper K) (kCons (kVar 0) (kCons (kVar 1) (kCons (kVar 2) (kNil))))) (kCons (kVar 7) (kNil)))))))) (kNext)
def rd_law_right_6 (K : PySem.W.Frag) : KS :=
  kSeq (kIf (kNot (kT (kCall (S_law_holds K) (kCons (kVar 1) (kCons (kVar 3) (kCons (kCall (S_law_bent K) (kCons (kVar 0) (kCons (kVar 1) (kCons (kVar 5) (kNil))))) (kCons (kVar 2) (kCons (kVar 7) (kNil))))))))) (kSeq (kRet (kC (.bl false))) (kNext)) (kNext)) (rd_law_right_7 K)
def rd_law_right_5 (K : PySem.W.Frag) : KS :=
  kSeq (kIf (kOr (kNot (kT (kCall (S_is_leading K) (kCons (kVar 1) (kCons (kVar 3) (kCons (kVar 5) (kCons (kVar 2) (kNil)))))))) (kNot (kT (kCall (S_law_holds K) (kCons (kVar 1) (kCons (kVar 3) (kCons (kVar 5) (kCons (kVar 2) (kCons (kVar 7) (kNil)))))))))) (kSeq (kRet (kC (.bl false))) (kNext)) (kNext)) (rd_law_right_6 K)
def rd_law_right_4 (K : PySem.W.Frag) : KS :=
  kSeq (kSet 7 (kCall (S_law_draws K) (kCons (kVar 0) (kCons (kVar 1) (kNil))))) (rd_law_right_5 K)
def rd_law_right_3 (K : PySem.W.Frag) : KS :=
  kSeq (kSet 5 (kComp (kiSeq K (kVar 3)) (kgName 6) (kYes) (kCall (S_law_led_sign K) (kCons (kVar 2) (kCons (kVar 6) (kNil)))) [6])) (rd_law_right_4 K)
def rd_law_right_2 (K : PySem.W.Frag) : KS :=
  kSeq (kSet 3 (kComp (kiR1 (kCons (kCall (S_law_take K) (kCons (kVar 0) (kCons (kC (.int 13)) (kNil)))) (kNil))) (kgName 4) (kYes) (kCall (S_law_sign K) (kCons (kVar 0) (kCons (kVar 1) (kNil)))) [4])) (rd_law_right_3 K)
def rd_law_right_1 (K : PySem.W.Frag) : KS :=
  kSeq (kSet 2 (kCall (S_law_paper K) (kCons (kVar 0) (kCons (kVar 1) (kNil))))) (rd_law_right_2 K)
def rd_law_right (K : PySem.W.Frag) : KS :=
  kSeq (kSet 1 (kCall (S_law_kinds K) (kCons (kVar 0) (kCons (kC (.int 6)) (kCons (kC (.int 64)) (kNil)))))) (rd_law_right_1 K)
/-- law(_law_script); slots 0 _law_script, 1 _law_k -/
def rd_law_b0 (K : PySem.W.Frag) : KS :=
  kSeq (kIf (kNot (kT (kCall (S_law_right K) (kCons (kCall (S_law_pool K) (kCons (kVar 0) (kCons (kVar 1) (kNil)))) (kNil))))) (kSeq (kRet (kC (.bl false))) (kNext)) (kNext)) (kNext)
def rd_law_1 (K : PySem.W.Frag) : KS :=
  kSeq (kRet (kC (.bl true))) (kNext)
def rd_law (K : PySem.W.Frag) : KS :=
  kSeq (kFor (kiR1 (kCons (kCB (kMax2) (kCons (kC (.int 1)) (kCons (kCB (kMin2) (kCons (kCB (kLen K) (kCons (kVar 0) (kNil))) (kCons (kC (.int 63)) (kNil)))) (kNil)))) (kNil))) (kgName 1) (rd_law_b0 K)) (rd_law_1 K)
section
variable {K : PySem.W.Frag} {vs : List V} {G : Hp} {M : Mem} {R : KR} {Z : KX}
theorem pf_law_take (h : S_law_take K vs G M R Z) : rd_law_take K (ends R Z) (sta 3 vs) G M := by
  obtain ⟨_, _, rfl, p, m, n, c, s, rfl, rfl, hn, hs, hm0, hm1, q⟩ := sp2_of h
  have hS : SeqAt' K G M p [.int c, .int s] := lst_n hn
  refine ⟨G, M, Wk.refl, _, _, hS, rfl, ite2' (fun e => ?_) (fun e => ?_)⟩
  · refine ⟨G, M, Wk.refl, _, _, hS, rfl, hm0, ?_⟩
    refine ⟨G, M, Wk.refl, _, _, hS, rfl, divW hm0 hm1 c, n, _, 0, hn, rfl, ?_⟩
    refine ⟨G, _, Wk.refl, ?_⟩
    exact ret0 (q _ _ _ (Int.emod_nonneg _ (by omega)) (Int.emod_lt_of_pos _ hm0) hs)
  · obtain ⟨s0, s1⟩ := hs
    have hs' : PoolOk ((s * 48271 + 11) % 2147483647) := ⟨Int.emod_nonneg _ (by decide), Int.emod_lt_of_pos _ (by decide)⟩
    refine ⟨G, M, Wk.refl, _, _, hS, rfl, mul_r (by decide) (by decide), (by show (0 : Int) < _; decide), n, _, 1, hn, rfl, ?_⟩
    have hn' : (M.set n (p, pool c ((s * 48271 + 11) % 2147483647)))[n]? = some (p, pool c ((s * 48271 + 11) % 2147483647)) := set_n hn
    have hS' : SeqAt' K G (M.set n (p, pool c ((s * 48271 + 11) % 2147483647))) p [.int c, .int ((s * 48271 + 11) % 2147483647)] := lst_n hn'
    refine ⟨G, _, Wk.refl, _, _, hS', rfl, _, _, hS', rfl, mul_l (by have := hs'.1; omega) (by have := hs'.2; omega), (by show (0 : Int) < _; decide), divW (by decide) (by decide) _, hm0, ?_⟩
    exact ret0 (q _ _ _ (Int.emod_nonneg _ (by omega)) (Int.emod_lt_of_pos _ hm0) hs')
theorem b01 (b : Bool) : -(2 ^ 64) < (if b then (1 : Int) else 0) ∧ (if b then (1 : Int) else 0) < 2 ^ 64 := by cases b <;> decide
end

section
variable {K : PySem.W.Frag} {vs : List V} {G : Hp} {M : Mem} {R : KR} {Z : KX}
theorem set_self {α : Type} {l : List α} {n : Nat} {x : α} (h : l[n]? = some x) : l.set n x = l := by
  apply List.ext_getElem? 
  intro i
  rw [List.getElem?_set]
  by_cases e : n = i
  · subst e
    rw [if_pos rfl, if_pos (List.getElem?_eq_some_iff.mp h).1, h]
  · rw [if_neg e]
theorem at_two {x y : V} {r : Int} (h0 : 0 ≤ r) (h1 : r < 2) : ∃ v, atI [x, y] r = some v ∧ (v = x ∨ v = y) := by
  have e : r = 0 ∨ r = 1 := by omega
  rcases e with rfl | rfl
  · exact ⟨x, rfl, .inl rfl⟩
  · exact ⟨y, rfl, .inr rfl⟩
theorem fr_set {n : Nat} {p : Addr} {o : HO} {x : Addr × HO} {t : Addr} (hn : M[n]? = some (p, o)) (h : Fr G M t) (e : x.1 = p := by rfl) : Fr G (M.set n x) t := by
  refine ⟨h.1, fun y hy => ?_⟩
  rcases List.mem_or_eq_of_mem_set hy with hy | rfl
  · exact h.2 y hy
  · rw [e]; exact h.2 _ (List.mem_of_getElem? hn)
theorem fr_unset {n : Nat} {p : Addr} {o : HO} {x : Addr × HO} {t : Addr} (hn : M[n]? = some (p, o)) (h : Fr G (M.set n x) t) (e : x.1 = p := by rfl) : Fr G M t := by
  have hl : n < M.length := (List.getElem?_eq_some_iff.mp hn).1
  refine ⟨h.1, fun y hy => ?_⟩
  obtain ⟨m, hm⟩ := List.getElem?_of_mem hy
  by_cases z : n = m
  · subst z
    rw [hn] at hm; cases hm
    have := h.2 x (List.mem_of_getElem? (List.getElem?_set_self hl))
    rw [e] at this; exact this
  · exact h.2 y (List.mem_of_getElem? (by rw [List.getElem?_set_ne z]; exact hm))
end

section
variable {K : PySem.W.Frag} {vs : List V} {G : Hp} {M : Mem} {R : KR} {Z : KX}
theorem pf_is_whole (h : S_is_whole K vs G M R Z) : rd_is_whole K (ends R Z) (sta 1 vs) G M := by
  obtain ⟨x, rfl, T, hT, q⟩ := sp1_of h
  refine ⟨G, M, Wk.refl, .type T.name, .type "int", _, .ty "int", hT, kit_pt T .int, ite2' (fun e => ?_) (fun e => ?_)⟩
  · refine ⟨.type T.name, .type "bool", _, .ty "bool", hT, kit_pt T .bool, ret0 ?_⟩
    have e2 : (!isaB T .bool) = (T == .int) := by revert e; cases T <;> decide
    rw [e2]; exact q
  · have e2 : false = (T == .int) := by revert e; cases T <;> decide
    refine ret0 ?_
    rw [e2]; exact q
theorem pf_is_within (h : S_is_within K vs G M R Z) : rd_is_within K (ends R Z) (sta 3 vs) G M := by
  obtain ⟨x, _, _, rfl, T, lo, hi, rfl, rfl, hT, hx, q⟩ := sp3_of h
  refine ⟨G, M, Wk.refl, T, hT, ite2' (fun e => ?_) (fun e => ?_)⟩
  · rw [e] at hx
    cases x with
    | int i =>
      have q : R (.bl (decide (lo ≤ i) && decide (i ≤ hi))) G M := q
      refine ite2' (fun e1 => ?_) (fun e1 => ?_)
      · rw [e1, Bool.true_and] at q; exact ret0 q
      · rw [e1, Bool.false_and] at q; exact ret0 q
    | _ => cases hx
  · rw [e] at hx
    have e2 : withinV x lo hi = false := by cases x <;> first | rfl | cases hx
    rw [e2] at q
    exact ret0 q
end

section
variable {K : PySem.W.Frag} {vs : List V} {G : Hp} {M : Mem} {R : KR} {Z : KX}
section
variable {α β : Type} {r : α → β → Prop}
theorem A2.len {as : List α} {bs : List β} (h : A2 r as bs) : as.length = bs.length := by
  induction h with
  | nil => rfl
  | cons _ _ ih => simp [ih]
theorem A2.app {as as' : List α} {bs bs' : List β} (h : A2 r as bs) (h' : A2 r as' bs') : A2 r (as ++ as') (bs ++ bs') := by
  induction h with
  | nil => exact h'
  | cons a _ ih => exact .cons a ih
theorem A2.rev {as : List α} {bs : List β} (h : A2 r as bs) : A2 r as.reverse bs.reverse := by
  induction h with
  | nil => exact .nil
  | cons a _ ih => rw [List.reverse_cons, List.reverse_cons]; exact ih.app (.cons a .nil)
theorem A2.get {as : List α} {bs : List β} (h : A2 r as bs) : ∀ {i : Nat} {b : β}, bs[i]? = some b → ∃ a, as[i]? = some a ∧ r a b := by
  induction h with
  | nil => intro i b e; simp at e
  | cons a _ ih =>
    intro i b e
    cases i with
    | zero => cases e; exact ⟨_, rfl, a⟩
    | succ i => exact ih e
theorem A2.get' {as : List α} {bs : List β} (h : A2 r as bs) : ∀ {i : Nat} {a : α}, as[i]? = some a → ∃ b, bs[i]? = some b ∧ r a b := by
  induction h with
  | nil => intro i b e; simp at e
  | cons a _ ih =>
    intro i b e
    cases i with
    | zero => cases e; exact ⟨_, rfl, a⟩
    | succ i => exact ih e
theorem A2.mono {r' : α → β → Prop} (m : ∀ a b, r a b → r' a b) {as : List α} {bs : List β} (h : A2 r as bs) : A2 r' as bs := by
  induction h with
  | nil => exact .nil
  | cons a _ ih => exact .cons (m _ _ a) ih
end
theorem drM_v {Mn : Mem} (hs : ∀ x, x ∈ Mn → x ∈ M) {v : V} {d : Dr} (h : DrM Mn v d) : DrV K G M v d := by
  cases d with
  | leaf n => exact h
  | row l => obtain ⟨b, rfl, h⟩ := h; exact ⟨b, rfl, .inl (hs _ h)⟩
theorem drM_sub {Mn Mm : Mem} (hs : ∀ x, x ∈ Mn → x ∈ Mm) {v : V} {d : Dr} (h : DrM Mn v d) : DrM Mm v d := by
  cases d with
  | leaf n => exact h
  | row l => obtain ⟨b, rfl, h⟩ := h; exact ⟨b, rfl, hs _ h⟩
theorem dp_kn_inv {v : V} {k : Kn} (h : Dp K G v (knD k)) : ∃ t, v = .ref t ∧ SqT K G t [.str k.txt, .int k.n] := by
  obtain ⟨t, xs, rfl, s, a⟩ := dp_tup_inv h
  refine ⟨t, rfl, ?_⟩
  cases a with
  | cons a b =>
    cases b with
    | cons b c =>
      cases c
      cases a
      cases b
      exact s
theorem dp_kn {t : Addr} {k : Kn} (h : SqT K G t [.str k.txt, .int k.n]) : Dp K G (.ref t) (knD k) := .tup h (.cons (.str _) (.cons (.int _) .nil))
theorem shp_kns {n : Nat} (ks : List Kn) : Shp (n + 2) (.list (ks.map knD)) := .list fun d hd => by
  obtain ⟨p, _, rfl⟩ := List.mem_map.mp hd
  refine .tuple fun d hd => ?_
  rcases List.mem_cons.mp hd with rfl | hd
  · exact .str (by obtain ⟨b, n⟩ := p; cases b <;> (show PyData.strOk _ = true; first | exact (by decide +kernel : PyData.strOk ("leaf" : Str) = true) | exact (by decide +kernel : PyData.strOk ("shuffle" : Str) = true)))
  · rcases List.mem_cons.mp hd with rfl | hd
    · exact .int
    · cases hd
theorem txt_leaf (k : Kn) : decide ((V.str k.txt) = (.str "leaf")) = k.leaf := by
  obtain ⟨b, n⟩ := k
  cases b
  · exact decide_eq_false (by intro h; injection h with h; exact absurd (show ("shuffle" : Str) = "leaf" from h) (by decide))
  · exact decide_eq_true rfl
/-! sizes -/
theorem fac_pos : ∀ n, 0 < fac n
  | 0 => by decide
  | n + 1 => Nat.mul_pos (by omega) (fac_pos n)
theorem fac_mono : ∀ {m n : Nat}, m ≤ n → fac m ≤ fac n := by
  intro m n h
  induction n with
  | zero => have : m = 0 := by omega
            subst this; exact Nat.le_refl _
  | succ n ih =>
    by_cases e : m = n + 1
    · subst e; exact Nat.le_refl _
    · have h1 := ih (by omega)
      show fac m ≤ (n + 1) * fac n
      have : 1 * fac n ≤ (n + 1) * fac n := Nat.mul_le_mul_right _ (by omega)
      omega
theorem fac_64 : fac 64 < 2 ^ 300 := by decide +kernel
theorem manyK_pos (k : Kn) : 0 < manyK k := by
  unfold manyK; split
  · exact Nat.pow_pos (by decide)
  · exact fac_pos _
theorem manyK_lt {k : Kn} (h : KnOk k) : manyK k < 2 ^ 300 := by
  unfold manyK; split
  · exact Nat.pow_lt_pow_right (by decide) (by have := h.1; omega)
  · exact Nat.lt_of_le_of_lt (fac_mono h.1) fac_64
theorem prK_pos : ∀ ks, 0 < prK ks
  | [] => by decide
  | k :: ks => Nat.mul_pos (manyK_pos k) (prK_pos ks)
theorem prK_lt : ∀ ks : List Kn, (∀ k, k ∈ ks → KnOk k) → prK ks < 2 ^ (300 * ks.length + 1)
  | [], _ => by decide
  | k :: ks, h => by
    have h1 := manyK_lt (h k List.mem_cons_self)
    have h2 := prK_lt ks fun q hq => h q (List.mem_cons_of_mem _ hq)
    show manyK k * prK ks < _
    rw [List.length_cons, show 300 * (ks.length + 1) + 1 = 300 + (300 * ks.length + 1) by omega, Nat.pow_add]
    exact Nat.mul_lt_mul'' h1 h2
theorem prK_snoc (ks : List Kn) (k : Kn) : prK (ks ++ [k]) = prK ks * manyK k := by
  induction ks with
  | nil => simp [prK]
  | cons a ks ih => show manyK a * prK (ks ++ [k]) = manyK a * prK ks * manyK k; rw [ih, Nat.mul_assoc]
theorem prK_take_le (ks : List Kn) (i : Nat) (h : ∀ k, k ∈ ks → KnOk k) : ∀ k, k ∈ ks.take i → KnOk k := fun k hk => h k (List.mem_of_mem_take hk)
theorem take_succ' {α : Type} {l : List α} {i : Nat} {x : α} (h : l[i]? = some x) : l.take (i + 1) = l.take i ++ [x] := by
  rw [List.take_succ, h]; rfl
end

section
variable {K : PySem.W.Frag} {vs : List V} {G : Hp} {M : Mem} {R : KR} {Z : KX}
theorem natsV_rev (l : List Nat) : (natsV l).reverse = natsV l.reverse := by unfold natsV; rw [List.map_reverse]
theorem lat_app {Mn : Mem} {a : Addr} {xs : List V} (h : LstAt K G M a xs) : LstAt K G (Mn ++ M) a xs := by
  rcases h with h | h
  · exact .inl (List.mem_append_right _ h)
  · exact .inr h
theorem rev_get {α : Type} {l : List α} {i : Nat} (h : i < l.length) : l.reverse[i]? = l[l.length - 1 - i]? := by
  rw [List.getElem?_reverse h]
theorem drop_get {α : Type} {l : List α} {i : Nat} {x : α} (h : l[i]? = some x) : l.drop i = x :: l.drop (i + 1) := by
  obtain ⟨hi, rfl⟩ := List.getElem?_eq_some_iff.mp h
  exact List.drop_eq_getElem_cons hi
end

section
variable {K : PySem.W.Frag} {vs : List V} {G : Hp} {M : Mem} {R : KR} {Z : KX}
theorem natsV_get {l : List Nat} {i v : Nat} (h : l[i]? = some v) : (natsV l)[i]? = some (.int (v : Int)) := by
  unfold natsV; rw [List.getElem?_map, h]; rfl
theorem natsV_len (l : List Nat) : (natsV l).length = l.length := by unfold natsV; rw [List.length_map]
theorem atI_nats {l : List Nat} {i v : Nat} (h : l[i]? = some v) : atI (natsV l) (i : Int) = some (.int (v : Int)) := atI_nat (natsV_get h)
theorem at_mem {l : List V} {r : Int} (h0 : 0 ≤ r) (h1 : r < l.length) : ∃ v, atI l r = some v ∧ v ∈ l := by
  obtain ⟨j, rfl⟩ := Int.eq_ofNat_of_zero_le h0
  have hj : l[j]? = some l[j] := List.getElem?_eq_getElem (by omega)
  exact ⟨_, atI_nat hj, List.mem_of_getElem? hj⟩
theorem dpall_rep {v : V} {d : PyData} (h : Dp K G v d) : ∀ n, DpAll K G (List.replicate n v) (List.replicate n d)
  | 0 => .nil
  | n + 1 => .cons h (dpall_rep h n)
theorem dpall_app2 : ∀ {vs ws : List V} {ds es : List PyData}, DpAll K G vs ds → DpAll K G ws es → DpAll K G (vs ++ ws) (ds ++ es)
  | _, _, _, _, .nil, h => h
  | _, _, _, _, .cons a b, h => .cons a (dpall_app2 b h)
theorem dpall_flat {us : List V} {ds : List PyData} (h : DpAll K G us ds) : ∀ n, DpAll K G (List.replicate n us).flatten (List.replicate n ds).flatten
  | 0 => .nil
  | n + 1 => dpall_app2 h (dpall_flat h n)
theorem ex_lat {G' : Hp} {M' : Mem} {a : Addr} {us : List V} (x : Ex G G') (hm : ∀ x, x ∈ M → x ∈ M') (h : LstAt K G M a us) : LstAt K G' M' a us := by
  rcases h with h | h
  · exact .inl (hm _ h)
  · exact .inr (ex_l x h)
theorem wi_hi {i lo hi : Int} (h : hi < i) : withinV (.int i) lo hi = false := by
  show (decide (lo ≤ i) && decide (i ≤ hi)) = false
  rw [decide_eq_false (p := i ≤ hi) (by omega), Bool.and_false]
theorem wi_lo {i lo hi : Int} (h : i < lo) : withinV (.int i) lo hi = false := by
  show (decide (lo ≤ i) && decide (i ≤ hi)) = false
  rw [decide_eq_false (p := lo ≤ i) (by omega), Bool.false_and]
theorem wi_in {i lo hi : Int} (h : lo ≤ i) (h2 : i ≤ hi) : withinV (.int i) lo hi = true := by
  show (decide (lo ≤ i) && decide (i ≤ hi)) = true
  rw [decide_eq_true h, decide_eq_true h2]; rfl
theorem Wk.sub' {G : Hp} {M M' : Mem} (h : List.Sublist M' M) : Wk G M G M' := fun H hv => ⟨hv.ex, fun x hx => hv.mu x (h.subset hx), hv.nd.sublist (h.map _), fun x hx => hv.dj x (h.subset hx)⟩
end

section
theorem swap_len {l : List Nat} {i j : Nat} : (swapL l i j).length = l.length := by unfold swapL; simp
theorem getD_lt {l : List Nat} {i : Nat} (h : i < l.length) : l.getD i 0 = l[i] := by rw [List.getD_eq_getElem?_getD, List.getElem?_eq_getElem h]; rfl
theorem getD_set {l : List Nat} {i j v : Nat} (h : i < l.length) : (l.set i v).getD j 0 = if j = i then v else l.getD j 0 := by
  rw [List.getD_eq_getElem?_getD, List.getElem?_set]
  by_cases e : i = j
  · subst e; simp [h]
  · rw [if_neg e, if_neg (Ne.symm e), List.getD_eq_getElem?_getD]
theorem swap_getD {l : List Nat} {i j k : Nat} (hi : i < l.length) (hj : j < l.length) : (swapL l i j).getD k 0 = if k = j then l.getD i 0 else if k = i then l.getD j 0 else l.getD k 0 := by
  unfold swapL
  rw [getD_set (by simpa using hj), getD_set hi]
theorem ext_getD {l m : List Nat} (hl : l.length = m.length) (h : ∀ i, i < l.length → l.getD i 0 = m.getD i 0) : l = m := by
  apply List.ext_getElem hl
  intro i h1 h2
  have := h i h1
  rwa [getD_lt h1, getD_lt h2] at this
theorem nodup_getD {l : List Nat} : l.Nodup ↔ ∀ i j, i < l.length → j < l.length → l.getD i 0 = l.getD j 0 → i = j := by
  constructor
  · intro h i j hi hj e
    rw [getD_lt hi, getD_lt hj] at e
    exact (List.getElem_inj h).mp e
  · intro h
    rw [List.nodup_iff_pairwise_ne, List.pairwise_iff_getElem]
    intro i j hi hj hij e
    have := h i j hi hj (by rw [getD_lt hi, getD_lt hj]; exact e)
    omega
theorem mem_getD {l : List Nat} {x : Nat} : x ∈ l ↔ ∃ i, i < l.length ∧ l.getD i 0 = x := by
  constructor
  · intro h
    obtain ⟨i, hi, e⟩ := List.getElem_of_mem h
    exact ⟨i, hi, by rw [getD_lt hi]; exact e⟩
  · rintro ⟨i, hi, e⟩
    rw [getD_lt hi] at e
    rw [← e]; exact List.getElem_mem hi
theorem swap_mem {l : List Nat} {i j x : Nat} (hi : i < l.length) (hj : j < l.length) : x ∈ swapL l i j ↔ x ∈ l := by
  rw [mem_getD, mem_getD, swap_len]
  constructor
  · rintro ⟨k, hk, e⟩
    rw [swap_getD hi hj] at e
    by_cases e1 : k = j
    · rw [if_pos e1] at e; exact ⟨i, hi, e⟩
    · rw [if_neg e1] at e
      by_cases e2 : k = i
      · rw [if_pos e2] at e; exact ⟨j, hj, e⟩
      · rw [if_neg e2] at e; exact ⟨k, hk, e⟩
  · rintro ⟨k, hk, e⟩
    by_cases e1 : k = j
    · refine ⟨i, hi, ?_⟩
      rw [swap_getD hi hj, if_pos rfl]
      by_cases e3 : i = j
      · rw [if_pos e3, e3, ← e1, e]
      · rw [if_neg e3, ← e1, e]
    · by_cases e2 : k = i
      · exact ⟨j, hj, by rw [swap_getD hi hj, if_pos rfl, ← e2, e]⟩
      · exact ⟨k, hk, by rw [swap_getD hi hj, if_neg e1, if_neg e2, e]⟩
theorem swap_nodup {l : List Nat} {i j : Nat} (hi : i < l.length) (hj : j < l.length) (h : l.Nodup) : (swapL l i j).Nodup := by
  rw [nodup_getD] at h ⊢
  rw [swap_len]
  intro a b ha hb e
  have pi : ∀ k, (swapL l i j).getD k 0 = l.getD (if k = j then i else if k = i then j else k) 0 := fun k => by
    rw [swap_getD hi hj]; split <;> first | rfl | (split <;> rfl)
  rw [pi, pi] at e
  have lt : ∀ k, k < l.length → (if k = j then i else if k = i then j else k) < l.length := fun k hk => by split <;> first | assumption | (split <;> assumption)
  have q := h _ _ (lt a ha) (lt b hb) e
  split at q <;> split at q <;> first | omega | (split at q <;> first | omega | (split at q <;> omega))
theorem OrdOk.swap {n : Nat} {o : List Nat} {i j : Nat} (h : OrdOk n o) (hi : i < n) (hj : j < n) : OrdOk n (swapL o i j) :=
  have hi' : i < o.length := by rw [h.len]; exact hi
  have hj' : j < o.length := by rw [h.len]; exact hj
  ⟨by rw [swap_len]; exact h.len, swap_nodup hi' hj' h.nd, fun x hx => h.lt x ((swap_mem hi' hj').mp hx)⟩
theorem ord_range (n : Nat) : OrdOk n (List.range n) := ⟨List.length_range, List.nodup_range, fun x hx => List.mem_range.mp hx⟩
theorem nodup_lt_len : ∀ (m : Nat) (l : List Nat), l.Nodup → (∀ x, x ∈ l → x < m) → l.length ≤ m
  | 0, l, _, h => by
    cases l with
    | nil => exact Nat.le_refl _
    | cons x l => exact absurd (h x List.mem_cons_self) (Nat.not_lt_zero _)
  | m + 1, l, hn, h => by
    by_cases hm : m ∈ l
    · have e := List.length_erase_of_mem hm
      have ih := nodup_lt_len m (l.erase m) (hn.erase m) fun x hx => by
        have q := hn.mem_erase_iff.mp hx
        have := h x q.2
        have := q.1
        omega
      omega
    · have ih := nodup_lt_len m l hn fun x hx => by
        have := h x hx
        have : x ≠ m := fun z => hm (z ▸ hx)
        omega
      omega
/-- a list of different numbers below n, n long, has them all -/
theorem ord_has {n : Nat} {o : List Nat} (h : OrdOk n o) (x : Nat) (hx : x < n) : x ∈ o := by
  apply Classical.byContradiction
  intro hm
  have := nodup_lt_len n (x :: o) (List.nodup_cons.mpr ⟨hm, h.nd⟩) fun y hy => by
    rcases List.mem_cons.mp hy with rfl | hy
    · exact hx
    · exact h.lt y hy
  rw [List.length_cons, h.len] at this
  omega
/-- the walk keeps what is behind -/
theorem walkO_ok {n : Nat} {r : Nat → Nat} (hr : ∀ i, i < n → r i ≤ i) : ∀ (m : Nat) (o : List Nat), m < n → OrdOk n o → OrdOk n (walkO r m o) ∧ ∀ j, m < j → (walkO r m o).getD j 0 = o.getD j 0
  | 0, o, _, h => ⟨h, fun _ _ => rfl⟩
  | m + 1, o, hm, h => by
    have r1 := hr (m + 1) hm
    have h1 := h.swap (i := m + 1) (j := r (m + 1)) hm (by omega)
    obtain ⟨a, b⟩ := walkO_ok hr m (swapL o (m + 1) (r (m + 1))) (by omega) h1
    refine ⟨a, fun j hj => ?_⟩
    show (walkO r m (swapL o (m + 1) (r (m + 1)))).getD j 0 = _
    rw [b j (by omega), swap_getD (by rw [h.len]; omega) (by rw [h.len]; omega), if_neg (by omega), if_neg (by omega)]
theorem rowok_getD {l : List Nat} (h : RowOk l) : ∀ i, i < l.length → l.getD i 0 ≤ i := fun i hi => h i _ (by rw [getD_lt hi, List.getElem?_eq_getElem hi])
theorem order_ok {l : List Nat} (h : RowOk l) : OrdOk l.length (orderOf l) := by
  unfold orderOf
  by_cases e : l.length = 0
  · rw [e]; exact ord_range 0
  · exact (walkO_ok (rowok_getD h) _ _ (by omega) (ord_range _)).1
theorem order_len {l : List Nat} (h : RowOk l) : (orderOf l).length = l.length := (order_ok h).len
theorem idx_of_nodup {l : List Nat} {i : Nat} (h : l.Nodup) (hi : i < l.length) : l.idxOf (l.getD i 0) = i := by
  have hm : l.getD i 0 ∈ l := mem_getD.mpr ⟨i, hi, rfl⟩
  have hlt : l.idxOf (l.getD i 0) < l.length := List.idxOf_lt_length_iff.mpr hm
  have e : l[l.idxOf (l.getD i 0)] = l.getD i 0 := List.getElem_idxOf hlt
  exact nodup_getD.mp h _ _ hlt hi (by rw [getD_lt hlt]; exact e)
theorem getD_idx {l : List Nat} {x : Nat} (h : x ∈ l) : l.idxOf x < l.length ∧ l.getD (l.idxOf x) 0 = x := by
  have hlt : l.idxOf x < l.length := List.idxOf_lt_length_iff.mpr h
  exact ⟨hlt, by rw [getD_lt hlt]; exact List.getElem_idxOf hlt⟩
/-- the row of the order of a row -/
theorem walkR_of {n : Nat} {r : Nat → Nat} (hr : ∀ i, i < n → r i ≤ i) : ∀ (m : Nat) (o row : List Nat), m < n → OrdOk n o → row.length = n →
    (walkR (fun i => (walkO r m o).getD i 0) m o row).length = n ∧ ∀ j, j < n → (walkR (fun i => (walkO r m o).getD i 0) m o row).getD j 0 = if 1 ≤ j ∧ j ≤ m then r j else row.getD j 0
  | 0, o, row, hm, h, hl => ⟨hl, fun j hj => by rw [if_neg (by omega)]; rfl⟩
  | m + 1, o, row, hm, h, hl => by
    have r1 := hr (m + 1) hm
    have h1 := h.swap (i := m + 1) (j := r (m + 1)) hm (by omega)
    obtain ⟨a, b⟩ := walkO_ok hr m _ (by omega : m < n) h1
    have e1 : (walkO r (m + 1) o).getD (m + 1) 0 = o.getD (r (m + 1)) 0 := by
      show (walkO r m (swapL o (m + 1) (r (m + 1)))).getD (m + 1) 0 = _
      rw [b (m + 1) (by omega), swap_getD (by rw [h.len]; omega) (by rw [h.len]; omega)]
      by_cases z : m + 1 = r (m + 1)
      · rw [if_pos z, ← z]
      · rw [if_neg z, if_pos rfl]
    have e2 : o.idxOf ((walkO r (m + 1) o).getD (m + 1) 0) = r (m + 1) := by
      rw [e1]; exact idx_of_nodup h.nd (by rw [h.len]; omega)
    obtain ⟨c, d⟩ := walkR_of hr m (swapL o (m + 1) (r (m + 1))) (row.set (m + 1) (r (m + 1))) (by omega) h1 (by simpa using hl)
    have e3 : walkR (fun i => (walkO r (m + 1) o).getD i 0) (m + 1) o row = walkR (fun i => (walkO r m (swapL o (m + 1) (r (m + 1)))).getD i 0) m (swapL o (m + 1) (r (m + 1))) (row.set (m + 1) (r (m + 1))) := by
      show walkR (fun i => (walkO r (m + 1) o).getD i 0) m (swapL o (m + 1) (o.idxOf ((walkO r (m + 1) o).getD (m + 1) 0))) (row.set (m + 1) (o.idxOf ((walkO r (m + 1) o).getD (m + 1) 0))) = _
      rw [e2]; rfl
    rw [e3]
    refine ⟨c, fun j hj => ?_⟩
    rw [d j hj, getD_set (by omega)]
    by_cases z : j = m + 1
    · rw [if_neg (by omega), if_pos z, if_pos (by omega), z]
    · by_cases y : 1 ≤ j ∧ j ≤ m
      · rw [if_pos y, if_pos (by omega)]
      · rw [if_neg y, if_neg z, if_neg (by omega)]
theorem row_order {l : List Nat} (h : RowOk l) : rowOf (orderOf l) = l := by
  by_cases e : l.length = 0
  · have : l = [] := List.length_eq_zero_iff.mp e
    subst this; rfl
  have hr := rowok_getD h
  obtain ⟨a, b⟩ := walkR_of hr (l.length - 1) (List.range l.length) (List.replicate l.length 0) (by omega) (ord_range _) List.length_replicate
  have e1 : rowOf (orderOf l) = walkR (fun i => (walkO (fun i => l.getD i 0) (l.length - 1) (List.range l.length)).getD i 0) (l.length - 1) (List.range l.length) (List.replicate l.length 0) := by
    unfold rowOf
    rw [order_len h]; rfl
  rw [e1]
  refine ext_getD a fun i hi => ?_
  rw [a] at hi
  rw [b i hi]
  by_cases z : 1 ≤ i ∧ i ≤ l.length - 1
  · rw [if_pos z]
  · rw [if_neg z]
    have hi0 : i = 0 := by omega
    have := hr 0 (by omega)
    subst hi0
    rw [getD_lt (by simp; omega)]
    simp
    simp at this
    omega
/-- the order of the row of an order -/
theorem left_idx {n m : Nat} {o left : List Nat} (ho : OrdOk n o) (hl : OrdOk n left) (hm : m < n) (hj : ∀ j, m < j → j < n → left.getD j 0 = o.getD j 0) : left.idxOf (o.getD m 0) ≤ m ∧ left.getD (left.idxOf (o.getD m 0)) 0 = o.getD m 0 := by
  have hin : o.getD m 0 ∈ left := ord_has hl _ (ho.lt _ (mem_getD.mpr ⟨m, by rw [ho.len]; exact hm, rfl⟩))
  obtain ⟨a, b⟩ := getD_idx hin
  refine ⟨Nat.not_lt.mp fun z => ?_, b⟩
  rw [hl.len] at a
  have e := hj _ z a
  rw [b] at e
  have := nodup_getD.mp ho.nd m _ (by rw [ho.len]; exact hm) (by rw [ho.len]; exact a) e
  omega
theorem walkR_row {n : Nat} {o : List Nat} (ho : OrdOk n o) : ∀ (m : Nat) (left row : List Nat), m < n → OrdOk n left → row.length = n → (∀ j, m < j → j < n → left.getD j 0 = o.getD j 0) →
    (walkR (fun i => o.getD i 0) m left row).length = n ∧ (∀ j, m < j → (walkR (fun i => o.getD i 0) m left row).getD j 0 = row.getD j 0) ∧ ((∀ j, j < n → row.getD j 0 ≤ j) → ∀ j, j < n → (walkR (fun i => o.getD i 0) m left row).getD j 0 ≤ j) ∧
    ∀ r : Nat → Nat, (∀ j, j < n → r j = (walkR (fun i => o.getD i 0) m left row).getD j 0) → OrdOk n (walkO r m left) ∧ ∀ j, 1 ≤ j → j < n → (walkO r m left).getD j 0 = o.getD j 0
  | 0, left, row, hm, hl, hr, hj => ⟨hr, fun _ _ => rfl, fun h => h, fun r _ => ⟨hl, fun j h1 h2 => hj j h1 h2⟩⟩
  | m + 1, left, row, hm, hl, hr, hj => by
    obtain ⟨i1, i2⟩ := left_idx ho hl hm hj
    have hs := hl.swap (i := m + 1) (j := left.idxOf (o.getD (m + 1) 0)) hm (by omega)
    obtain ⟨a, b, c, d⟩ := walkR_row ho m (swapL left (m + 1) (left.idxOf (o.getD (m + 1) 0))) (row.set (m + 1) (left.idxOf (o.getD (m + 1) 0))) (by omega) hs (by simpa using hr) (fun j h1 h2 => by
      rw [swap_getD (by rw [hl.len]; omega) (by rw [hl.len]; omega)]
      by_cases z : j = left.idxOf (o.getD (m + 1) 0)
      · have : j = m + 1 := by omega
        rw [if_pos z]
        rw [← z] at i2
        subst this; exact i2
      · rw [if_neg z]
        by_cases y : j = m + 1
        · rw [if_pos y, i2, y]
        · rw [if_neg y]; exact hj j (by omega) h2)
    refine ⟨a, fun j h1 => ?_, fun h => c fun j h2 => ?_, fun r hr2 => ?_⟩
    · show (walkR (fun i => o.getD i 0) m _ _).getD j 0 = _
      rw [b j (by omega), getD_set (by omega), if_neg (by omega)]
    · rw [getD_set (by omega)]
      by_cases y : j = m + 1
      · rw [if_pos y, y]; exact i1
      · rw [if_neg y]; exact h j h2
    · have e : r (m + 1) = left.idxOf (o.getD (m + 1) 0) := by
        rw [hr2 (m + 1) hm]
        show (walkR (fun i => o.getD i 0) m _ _).getD (m + 1) 0 = _
        rw [b (m + 1) (by omega), getD_set (by omega), if_pos rfl]
      show OrdOk n (walkO r m (swapL left (m + 1) (r (m + 1)))) ∧ ∀ j, 1 ≤ j → j < n → (walkO r m (swapL left (m + 1) (r (m + 1)))).getD j 0 = _
      rw [e]
      exact d r hr2
theorem row_ok {o : List Nat} (h : OrdOk o.length o) : (rowOf o).length = o.length ∧ RowOk (rowOf o) := by
  by_cases e : o.length = 0
  · have : o = [] := List.length_eq_zero_iff.mp e
    subst this
    exact ⟨rfl, fun i v q => by simp [rowOf, walkR] at q⟩
  obtain ⟨a, b, c, d⟩ := walkR_row h (o.length - 1) (List.range o.length) (List.replicate o.length 0) (by omega) (ord_range _) List.length_replicate (fun j h1 h2 => by omega)
  refine ⟨a, fun i v q => ?_⟩
  obtain ⟨hi, ev⟩ := List.getElem?_eq_some_iff.mp q
  have hi2 : i < o.length := by rw [← a]; exact hi
  have := c (fun j hj => by rw [getD_lt (by simpa using hj)]; simp) i hi2
  rw [← ev, ← getD_lt hi]; exact this
theorem order_row {o : List Nat} (h : OrdOk o.length o) : orderOf (rowOf o) = o := by
  by_cases e : o.length = 0
  · have : o = [] := List.length_eq_zero_iff.mp e
    subst this; rfl
  obtain ⟨a, b, c, d⟩ := walkR_row h (o.length - 1) (List.range o.length) (List.replicate o.length 0) (by omega) (ord_range _) List.length_replicate (fun j h1 h2 => by omega)
  obtain ⟨x, y⟩ := d (fun i => (rowOf o).getD i 0) (fun _ _ => rfl)
  have e1 : orderOf (rowOf o) = walkO (fun i => (rowOf o).getD i 0) (o.length - 1) (List.range o.length) := by
    unfold orderOf
    rw [(row_ok h).1]
  rw [e1]
  refine ext_getD x.len fun i hi => ?_
  rw [x.len] at hi
  by_cases z : 1 ≤ i
  · exact y i z hi
  have hi0 : i = 0 := by omega
  subst hi0
  -- the number that is left
  have hm := ord_has x _ (h.lt _ (mem_getD.mpr ⟨0, hi, rfl⟩))
  obtain ⟨j, hj, ej⟩ := mem_getD.mp hm
  by_cases z : j = 0
  · subst z; exact ej
  · rw [x.len] at hj
    rw [y j (by omega) hj] at ej
    have := nodup_getD.mp h.nd j 0 hj hi ej
    omega
end

section
variable {K : PySem.W.Frag} {vs : List V} {G : Hp} {M : Mem} {R : KR} {Z : KX}
theorem asg_C {lo c v : Int} {n i : Nat} {g : KG} {σ : St} {R : St → Hp → Mem → Prop} (e : lo + (i : Nat) * c = v) (q : g.val (.int v) σ G M R) : asg g ((srcC lo c n).get i) σ G M R := by subst e; exact q
theorem asg_R {lo v : Int} {n i : Nat} {g : KG} {σ : St} {R : St → Hp → Mem → Prop} (e : lo + (i : Nat) = v) (q : g.val (.int v) σ G M R) : asg g ((srcR lo n).get i) σ G M R := by subst e; exact q
theorem rgV_nats (n : Nat) : rgV 0 (n : Int) = natsV (List.range n) := by
  unfold rgV natsV
  rw [show ((n : Int) - 0).toNat = n by omega]
  refine List.map_congr_left fun i _ => ?_
  rw [Int.zero_add]
theorem atI_natD {l : List Nat} {i : Nat} (h : i < l.length) : atI (natsV l) (i : Int) = some (.int (l.getD i 0 : Nat)) := atI_nats (by rw [getD_lt h, List.getElem?_eq_getElem h])
theorem ixN_nat {n i : Nat} (h : i < n) : ixN n (i : Int) = some i := by rw [ixN_int (by omega) (by omega)]; rfl
theorem natsV_set {l : List Nat} {i v : Nat} : (natsV l).set i (.int (v : Int)) = natsV (l.set i v) := by unfold natsV; rw [List.map_set]
theorem pf_exchange (h : S_exchange K vs G M R Z) : rd_exchange K (ends R Z) (sta 3 vs) G M := by
  obtain ⟨_, _, _, rfl, a, n, l, i, j, rfl, rfl, rfl, hn, hi, hj, q⟩ := sp3_of h
  refine ⟨G, M, Wk.refl, _, _, lst_n hn, atI_natD hj, _, _, lst_n hn, atI_natD hi, sz2, fun t ft => ⟨_, sqt_new, n, _, i, hn, ixN_nat (by rw [natsV_len]; exact hi), n, _, j, set_n hn, ixN_nat (by rw [natsV_set, natsV_len, List.length_set]; exact hj), ?_⟩⟩
  refine retW (Wk.less (Ex.new ft)) ?_
  rw [List.set_set, natsV_set, natsV_set]
  exact q
theorem pf_order_of (h : S_order_of K vs G M R Z) : rd_order_of K (ends R Z) (sta 3 vs) G M := by
  obtain ⟨_, rfl, a, l, rfl, ha, hr, hl, q⟩ := sp1_of h
  refine ⟨G, M, Wk.refl, _, .inl ha, RgOk.of_le (by omega) (by rw [natsV_len]; omega) (by omega) (by omega), fun t ft => ?_⟩
  rw [natsV_len, rgV_nats]
  refine ⟨G, _, Wk.refl, _, .inl (lat_cons ha), _, rg_down (by rw [natsV_len]; omega) (by rw [natsV_len]; omega) (by omega) (by omega), fun i σ G' M' => ∃ (o : List Nat) (y2 : Option V), σ = [some (.ref a), some (.ref t), y2] ∧ G' = G ∧ M' = (t, .lst (natsV o)) :: M ∧ o.length = l.length ∧ walkO (fun i => l.getD i 0) (l.length - 1 - i) o = orderOf l, ⟨List.range l.length, none, rfl, rfl, rfl, List.length_range, rfl⟩, fun _ _ _ _ _ _ => trivial, ?_, ?_⟩
  · rintro i σ G' M' hi ⟨o, y2, rfl, rfl, rfl, ho, hw⟩
    have hi : i < (((natsV l).length : Int) - 1 - 0).toNat := hi
    rw [natsV_len] at hi
    obtain ⟨m, hm⟩ : ∃ m, l.length - 1 - i = m + 1 := ⟨l.length - 1 - i - 1, by omega⟩
    rw [hm] at hw
    have hr1 := rowok_getD hr (m + 1) (by omega)
    refine asg_C (v := ((m + 1 : Nat) : Int)) (by rw [natsV_len]; omega) ?_
    refine ⟨G', _, Wk.refl, _, _, .inl (lat_cons ha), atI_natD (by omega), t, 0, o, m + 1, l.getD (m + 1) 0, rfl, rfl, rfl, rfl, by omega, by omega, ?_⟩
    exact ⟨G', _, Wk.refl, swapL o (m + 1) (l.getD (m + 1) 0), _, rfl, rfl, rfl, by rw [swap_len]; exact ho, by rw [show l.length - 1 - (i + 1) = m by omega]; exact hw⟩
  · rintro σ G' M' ⟨o, y2, rfl, rfl, rfl, ho, hw⟩
    have hw : walkO (fun i => l.getD i 0) (l.length - 1 - (((natsV l).length : Int) - 1 - 0).toNat) o = orderOf l := hw
    rw [show l.length - 1 - (((natsV l).length : Int) - 1 - 0).toNat = 0 by rw [natsV_len]; omega] at hw
    have hw : o = orderOf l := hw
    subst hw
    exact ⟨_, _, Wk.refl, ret0 (q t ft)⟩
theorem tyk_cons {x : V} {T : PT} {y : Addr × HO} (h : TyK K G M x T) : TyK K G (y :: M) x T := fun H hv => h H (Wk.drop0 H hv)
theorem all_snoc (bs : List Bool) (b : Bool) : (bs ++ [b]).all id = (bs.all id && b) := by simp
theorem within_int {x : V} {lo hi : Int} (h : withinV x lo hi = true) : ∃ i, x = .int i ∧ lo ≤ i ∧ i ≤ hi := by
  cases x with
  | int i =>
    have h : (decide (lo ≤ i) && decide (i ≤ hi)) = true := h
    rw [Bool.and_eq_true] at h
    exact ⟨i, rfl, of_decide_eq_true h.1, of_decide_eq_true h.2⟩
  | _ => cases h
theorem map_intOf {xs : List V} {hi : Int} (h : xs.all (fun x => withinV x 0 hi) = true) : xs = (xs.map intOf).map V.int := by
  rw [List.map_map]
  have : ∀ x, x ∈ xs → x = (V.int ∘ intOf) x := fun x hx => by
    obtain ⟨i, rfl, _⟩ := within_int (List.all_eq_true.mp h x hx)
    rfl
  exact (List.map_id xs).symm.trans (List.map_congr_left this)
theorem pf_is_order (h : S_is_order K vs G M R Z) : rd_is_order K (ends R Z) (sta 2 vs) G M := by
  obtain ⟨x, rfl, b, hx, q⟩ := sp1_of h
  rcases hx with ⟨T, hT, hne, rfl⟩ | ⟨a, xs, rfl, ha, hl, hi, rfl⟩
  · refine ⟨G, M, Wk.refl, .type T.name, .type "list", _, .ty "list", hT, kit_pt T .list, ite2' (c := !isaB T .list) (fun _ => ⟨G, M, Wk.refl, ret0 q⟩) (fun e => ?_)⟩
    exfalso; revert e hne; cases T <;> decide
  refine ⟨G, M, Wk.refl, .type PT.list.name, .type "list", _, .ty "list", ty_lst ha, kit_pt .list .list, ?_⟩
  refine ⟨xs, .inl ha, ite2' (c := decide ((xs.length : Int) < 1)) (fun e => ?_) (fun e => ?_)⟩
  · have e := of_decide_eq_true e
    have e2 : orderB xs = false := by unfold orderB; rw [decide_eq_false (p := 1 ≤ xs.length) (by omega)]; rfl
    rw [e2] at q
    exact ⟨G, M, Wk.refl, ret0 q⟩
  have e := of_decide_eq_false e
  refine ⟨xs, .inl ha, ite2' (c := decide ((64 : Int) < (xs.length : Int))) (fun f => ?_) (fun f => ?_)⟩
  · have f := of_decide_eq_true f
    have e2 : orderB xs = false := by unfold orderB; rw [decide_eq_false (p := xs.length ≤ 64) (by omega), Bool.and_false]; rfl
    rw [e2] at q
    exact ⟨G, M, Wk.refl, ret0 q⟩
  have f := of_decide_eq_false f
  refine ⟨G, M, Wk.refl, xs, ha, sz (by show xs.length ≤ _; omega), fun i acc G' M' => acc = ((xs.take i).map fun x => withinV x 0 ((xs.length : Int) - 1)).map V.bl ∧ G' = G ∧ M' = M, ⟨rfl, rfl, rfl⟩, ?_, ?_, ?_⟩
  · rintro i acc G' M' _ ⟨rfl, rfl, rfl⟩; exact ha
  · rintro i acc G' M' D hi2 _ ⟨rfl, rfl, rfl⟩ fD
    obtain ⟨v, hv⟩ : ∃ v, xs[i]? = some v := ⟨_, List.getElem?_eq_getElem hi2⟩
    obtain ⟨T, hT, ht⟩ := hi v (List.mem_of_getElem? hv)
    refine asg_L hv ⟨rfl, xs, .inl (lat_cons ha), T, 0, (xs.length : Int) - 1, rfl, rfl, tyk_cons hT, ht, _, _, Wk.refl, ?_, rfl, rfl⟩
    rw [take_succ' hv, List.map_append, List.map_append]; rfl
  rintro acc G' M' p ⟨rfl, rfl, rfl⟩ _ fp
  have hta : (xs.take xs.length) = xs := List.take_length
  obtain ⟨B, hB⟩ : ∃ B, B = ((xs.take xs.length).map fun x => withinV x 0 ((xs.length : Int) - 1)).all id := ⟨_, rfl⟩
  have hB2 : B = xs.all fun x => withinV x 0 ((xs.length : Int) - 1) := by rw [hB, hta, List.all_map]; rfl
  refine ⟨_, lat_0, ?_⟩
  show if (!(((xs.take xs.length).map fun x => withinV x 0 ((xs.length : Int) - 1)).all id)) = true then _ else _
  rw [← hB]
  refine ite2' (c := !B) (fun g => ?_) (fun g => ?_)
  · have e2 : orderB xs = false := by
      have : B = false := by simpa using g
      unfold orderB; rw [← hB2, this, Bool.and_false, Bool.false_and]
    rw [e2] at q
    exact ⟨_, _, Wk.refl, retW Wk.drop0 q⟩
  have g : B = true := by simpa using g
  rw [hB2] at g
  have hm := map_intOf g
  have hlen : (xs.map intOf).length = xs.length := List.length_map _
  refine ⟨G', M', Wk.drop0, xs.map intOf, by rw [← hm]; exact ha, by omega, fun m h1 h2 => ?_⟩
  refine ⟨xs, .inl ha, ret0 ?_⟩
  have e3 : orderB xs = decide (V.int (m : Int) = .int (xs.length : Int)) := by
    unfold orderB
    rw [g, decide_eq_true (p := 1 ≤ xs.length) (by omega), decide_eq_true (p := xs.length ≤ 64) (by omega)]
    rw [hlen] at h2
    by_cases z : (xs.map intOf).Nodup
    · rw [decide_eq_true z, decide_eq_true (by rw [h2.mpr z])]; rfl
    · rw [decide_eq_false z, decide_eq_false (fun y => z (h2.mp (by have := V.int.inj y; omega)))]; rfl
  show R (.bl (decide (V.int (m : Int) = .int (xs.length : Int)))) G' M'
  rw [← e3]; exact q
theorem ints_ty {l : List Nat} : ItemsTy K G M (natsV l) := fun x hx => by
  obtain ⟨n, _, rfl⟩ := List.mem_map.mp hx
  exact ⟨.int, ty_int, rfl⟩
theorem nodup_natsV {l : List Nat} : ((natsV l).map intOf).Nodup ↔ l.Nodup := by
  unfold natsV
  rw [List.map_map]
  constructor
  · intro h
    exact (List.pairwise_map.mp h).imp fun {a b} (z : ((a : Nat) : Int) ≠ (b : Nat)) (e : a = b) => z (by rw [e])
  · intro h
    exact List.pairwise_map.mpr (h.imp fun {a b} z (e : ((a : Nat) : Int) = (b : Nat)) => z (by omega))
theorem orderB_nats {o : List Nat} (h : OrdOk o.length o) (h1 : 1 ≤ o.length) (h2 : o.length ≤ 64) : orderB (natsV o) = true := by
  unfold orderB
  rw [natsV_len, decide_eq_true h1, decide_eq_true h2, decide_eq_true (nodup_natsV.mpr h.nd), List.all_eq_true.mpr]
  · rfl
  · intro x hx
    obtain ⟨n, hn, rfl⟩ := List.mem_map.mp hx
    have := h.lt n hn
    exact wi_in (by omega) (by omega)
theorem ordV_nats {a : Addr} {o : List Nat} (ha : LstAt K G M a (natsV o)) (h : OrdOk o.length o) (h1 : 1 ≤ o.length) (h2 : o.length ≤ 64) : ordV K G M (.ref a) true :=
  .inr ⟨a, _, rfl, ha, by rw [natsV_len]; omega, ints_ty, (orderB_nats h h1 h2).symm⟩
theorem natsV_flat (l : List Nat) : (natsV l).all flatV = true := List.all_eq_true.mpr fun x hx => by
  obtain ⟨n, _, rfl⟩ := List.mem_map.mp hx
  rfl
theorem idx_before {l : List Nat} {x m : Nat} (h : m < l.idxOf x) (hl : m < l.length) : l.getD m 0 ≠ x := fun e => by
  have := List.not_of_lt_findIdx (p := fun y => y == x) (xs := l) (i := m) h
  rw [getD_lt hl] at e
  rw [e] at this
  simp at this
theorem rep_zeros (n : Nat) : (List.replicate n [V.int 0]).flatten = natsV (List.replicate n 0) := by
  induction n with
  | zero => rfl
  | succ n ih => rw [List.replicate_succ, List.flatten_cons, ih]; rfl
theorem pf_row_of (h : S_row_of K vs G M R Z) : rd_row_of K (ends R Z) (sta 4 vs) G M := by
  obtain ⟨x, rfl, h⟩ := sp1_of h
  rcases h with ⟨hx, z⟩ | ⟨a, o, rfl, ha, ho, h1, h2, q⟩
  · exact ⟨G, M, Wk.refl, false, hx, G, M, Wk.refl, G, M, Wk.refl, z⟩
  have hol := natsV_len o
  refine ⟨G, M, Wk.refl, true, ordV_nats ha ho h1 h2, ?_⟩
  refine ⟨G, M, Wk.refl, sz1, fun d fd => ⟨_, .inl (lat_cons ha), _, .inl List.mem_cons_self, by rw [hol]; omega, by rw [hol]; omega, by rw [hol]; exact sz (by show 1 * ((o.length : Int)).toNat ≤ _; omega), fun t ft => ?_⟩⟩
  rw [hol, Int.toNat_natCast, rep_zeros]
  refine ⟨G, (t, .lst (natsV (List.replicate o.length 0))) :: M, Wk.drop1, _, .inl (lat_cons ha), RgOk.of_le (by omega) (by rw [hol]; omega) (by omega) (by omega), fun u fu => ?_⟩
  rw [hol, rgV_nats]
  refine ⟨G, _, Wk.refl, _, .inl (lat_cons (lat_cons ha)), _, rg_down (by rw [hol]; omega) (by rw [hol]; omega) (by omega) (by omega), fun i σ G' M' => ∃ (left row : List Nat) (y : Option V), σ = [some (.ref a), some (.ref t), some (.ref u), y] ∧ G' = G ∧ M' = (u, .lst (natsV left)) :: (t, .lst (natsV row)) :: M ∧ OrdOk o.length left ∧ row.length = o.length ∧
    (∀ j, o.length - 1 - i < j → j < o.length → left.getD j 0 = o.getD j 0) ∧ walkR (fun i => o.getD i 0) (o.length - 1 - i) left row = rowOf o, ⟨List.range o.length, List.replicate o.length 0, none, rfl, rfl, rfl, ord_range _, List.length_replicate, fun j _ _ => by omega, rfl⟩, fun _ _ _ _ _ _ => trivial, ?_, ?_⟩
  · rintro i σ G' M' hi ⟨left, row, y, rfl, rfl, rfl, hl, hr, hj, hw⟩
    have hi : i < (((natsV o).length : Int) - 1 - 0).toNat := hi
    rw [hol] at hi
    obtain ⟨m, hm⟩ : ∃ m, o.length - 1 - i = m + 1 := ⟨o.length - 1 - i - 1, by omega⟩
    rw [hm] at hw hj
    obtain ⟨i1, i2⟩ := left_idx ho hl (show m + 1 < o.length by omega) hj
    have hll := hl.len
    refine asg_C (v := ((m + 1 : Nat) : Int)) (by rw [hol]; omega) ?_
    have hset : ∀ D : Kd, (∀ left row, OrdOk o.length left → row.length = o.length → (∀ j, m < j → j < o.length → left.getD j 0 = o.getD j 0) → walkR (fun i => o.getD i 0) m left row = rowOf o → D.nx [some (.ref a), some (.ref t), some (.ref u), some (.int ((m + 1 : Nat) : Int))] G' ((u, .lst (natsV left)) :: (t, .lst (natsV row)) :: M)) →
        rd_row_of_b0_1 K D [some (.ref a), some (.ref t), some (.ref u), some (.int ((m + 1 : Nat) : Int))] G' ((u, .lst (natsV left)) :: (t, .lst (natsV (row.set (m + 1) (left.idxOf (o.getD (m + 1) 0))))) :: M) := by
      intro D hD
      have e0 : (row.set (m + 1) (left.idxOf (o.getD (m + 1) 0))).getD (m + 1) 0 = left.idxOf (o.getD (m + 1) 0) := by rw [getD_set (by omega), if_pos rfl]
      refine ⟨G', _, Wk.refl, _, _, .inl (lat_n (n := 1) rfl), atI_natD (i := m + 1) (by rw [List.length_set]; omega), u, 0, left, m + 1, left.idxOf (o.getD (m + 1) 0), rfl, rfl, by rw [e0], rfl, by omega, by omega, ?_⟩
      refine hD _ _ (hl.swap (by omega) (by omega)) (by rw [List.length_set]; exact hr) (fun j j1 j2 => ?_) hw
      · rw [swap_getD (by omega) (by omega)]
        by_cases z : j = left.idxOf (o.getD (m + 1) 0)
        · have : j = m + 1 := by omega
          rw [if_pos z, ← this]
          rw [← z] at i2
          rw [← this] at i2
          exact i2
        · rw [if_neg z]
          by_cases y : j = m + 1
          · rw [if_pos y, i2, y]
          · rw [if_neg y]; exact hj j (by omega) j2
    refine ⟨G', _, Wk.refl, tyl_n (n := 0) rfl, _, _, .inl (lat_cons (lat_cons ha)), atI_natD (i := m + 1) (by omega), ?_⟩
    refine ⟨natsV left, left.idxOf (o.getD (m + 1) 0), .int ((o.getD (m + 1) 0 : Nat) : Int), lat_0, rfl, natsV_flat _, ?_, ?_, ?_, ?_⟩
    · have : left.idxOf (o.getD (m + 1) 0) < left.length := by omega
      refine natsV_get (v := o.getD (m + 1) 0) ?_
      rw [List.getElem?_eq_getElem this, ← getD_lt this, i2]
    · show (((o.getD (m + 1) 0 : Nat) : Int) == ((o.getD (m + 1) 0 : Nat) : Int)) = true
      exact beq_self_eq_true _
    · intro k z hk hz
      have hkl : k < left.length := by omega
      have hz2 : (natsV left)[k]? = some (.int ((left.getD k 0 : Nat) : Int)) := natsV_get (by rw [getD_lt hkl, List.getElem?_eq_getElem hkl])
      rw [hz2] at hz
      cases hz
      show (((left.getD k 0 : Nat) : Int) == ((o.getD (m + 1) 0 : Nat) : Int)) = false
      have := idx_before hk hkl
      exact beq_false_of_ne fun e => this (by omega)
    · refine ⟨1, _, m + 1, rfl, ixN_nat (by rw [natsV_len]; omega), ?_⟩
      rw [natsV_set]
      refine hset _ fun left row h1 h2 h3 h4 => ⟨G', _, Wk.refl, left, row, _, rfl, rfl, rfl, h1, h2, ?_, ?_⟩
      · rw [show o.length - 1 - (i + 1) = m by omega]; exact h3
      · rw [show o.length - 1 - (i + 1) = m by omega]; exact h4
  · rintro σ G' M' ⟨left, row, y, rfl, rfl, rfl, hl, hr, hj, hw⟩
    have hw : walkR (fun i => o.getD i 0) (o.length - 1 - (((natsV o).length : Int) - 1 - 0).toNat) left row = rowOf o := hw
    rw [show o.length - 1 - (((natsV o).length : Int) - 1 - 0).toNat = 0 by rw [hol]; omega] at hw
    have hw : row = rowOf o := hw
    subst hw
    exact ⟨_, _, Wk.refl, retW Wk.drop0 (q t ft.cons)⟩
end

section
variable {K : PySem.W.Frag} {vs : List V} {G : Hp} {M : Mem} {R : KR} {Z : KX}
theorem Fr.keys {M M' : Mem} {p : Addr} (h : Fr G M p) (e : M'.map (·.1) = M.map (·.1) := by rfl) : Fr G M' p := ⟨h.1, fun x hx z => by
  have : x.1 ∈ M'.map (·.1) := List.mem_map.mpr ⟨x, hx, rfl⟩
  rw [e] at this
  obtain ⟨y, hy, ey⟩ := List.mem_map.mp this
  exact h.2 y hy (ey.trans z)⟩
/-! ### cells that were just laid, frozen together -/
inductive Frs (G : Hp) (M : Mem) : Mem → Prop
  | nil : Frs G M []
  | cons {p : Addr} {o : HO} {Mx : Mem} : Fr G (Mx ++ M) p → Frs G M Mx → Frs G M ((p, o) :: Mx)
theorem Frs.key {Mx : Mem} (h : Frs G M Mx) : ∀ x, x ∈ Mx → G x.1 = none ∧ ∀ y, y ∈ M → y.1 ≠ x.1 := by
  induction h with
  | nil => intro x hx; cases hx
  | cons f _ ih =>
    intro x hx
    rcases List.mem_cons.mp hx with rfl | hx
    · exact ⟨f.1, fun y hy => f.2 y (List.mem_append.mpr (.inr hy))⟩
    · exact ih x hx
theorem Frs.upd {Mx : Mem} {p : Addr} {o : HO} (h : Frs G M Mx) (f : ∀ x, x ∈ Mx → x.1 ≠ p) : Frs (upd G p o) M Mx := by
  induction h with
  | nil => exact .nil
  | cons f1 _ ih => exact .cons ⟨by rw [upd_ne (f _ List.mem_cons_self)]; exact f1.1, f1.2⟩ (ih fun x hx => f x (List.mem_cons_of_mem _ hx))
theorem frz_pre {M : Mem} : ∀ {Mx : Mem} {G : Hp}, Frs G M Mx → ∃ G', Ex G G' ∧ (∀ x, x ∈ Mx → G' x.1 = some x.2) ∧ Wk G (Mx ++ M) G' M ∧ ∀ q, G q = none → (∀ x, x ∈ Mx → x.1 ≠ q) → G' q = none
  | [], G, _ => ⟨G, Ex.refl, fun _ h => (nomatch h), Wk.refl, fun _ h _ => h⟩
  | (p, o) :: Mx, G, h => by
    cases h with
    | cons f h =>
      have hp : ∀ x, x ∈ Mx → x.1 ≠ p := fun x hx => f.2 x (List.mem_append.mpr (.inl hx))
      obtain ⟨G', e, a, w, n⟩ := frz_pre (h.upd (o := o) hp)
      refine ⟨G', (Ex.new f).trans e, fun x hx => ?_, Wk.frz0.trans w, fun q hq hx => ?_⟩
      · rcases List.mem_cons.mp hx with rfl | hx
        · exact e p o upd_same
        · exact a x hx
      · exact n q (by rw [upd_ne (Ne.symm (hx (p, o) List.mem_cons_self))]; exact hq) fun x h2 => hx x (List.mem_cons_of_mem _ h2)
theorem Frs.more {Mx : Mem} {x : Addr × HO} (h : Frs G M Mx) (f : ∀ y, y ∈ Mx → x.1 ≠ y.1) : Frs G (x :: M) Mx := by
  induction h with
  | nil => exact .nil
  | @cons p o Mx f1 _ ih =>
    refine .cons ⟨f1.1, fun y hy => ?_⟩ (ih fun y hy => f y (List.mem_cons_of_mem _ hy))
    rcases List.mem_append.mp hy with hy | hy
    · exact f1.2 y (List.mem_append.mpr (.inl hy))
    · rcases List.mem_cons.mp hy with rfl | hy
      · exact f _ List.mem_cons_self
      · exact f1.2 y (List.mem_append.mpr (.inr hy))
/-- the same beneath one cell -/
theorem frz_pre1 {Mx : Mem} {s : Addr} {o : HO} (h : Frs G M Mx) (f : Fr G (Mx ++ M) s) : ∃ G', Ex G G' ∧ (∀ x, x ∈ Mx → G' x.1 = some x.2) ∧ Wk G ((s, o) :: (Mx ++ M)) G' ((s, o) :: M) ∧ Fr G' M s := by
  obtain ⟨G', a, b, c, d⟩ := frz_pre (h.more (x := (s, o)) fun y hy => Ne.symm (f.2 y (List.mem_append.mpr (.inl hy))))
  exact ⟨G', a, b, (Wk.perm List.perm_middle).trans c, d s f.1 fun x hx => f.2 x (List.mem_append.mpr (.inl hx)), fun x hx => f.2 x (List.mem_append.mpr (.inr hx))⟩
theorem kseq_wk {t u : KS} {D : Kd} {σ : St} {G G' : Hp} {M M' : Mem} (w : Wk G M G' M') (h : kSeq t u D σ G' M') : kSeq t u D σ G M := by
  obtain ⟨a, b, c, d⟩ := h
  exact ⟨a, b, w.trans c, d⟩
/-! ### things whose type is known -/
theorem ty_ex {G' : Hp} {x : V} {T : PT} (e : Ex G G') (h : ∀ M, TyK K G M x T) : ∀ M, TyK K G' M x T := fun M H hv => h M H (Wk.less e H hv)
theorem WOk.ex {G' : Hp} {w : V} (e : Ex G G') (h : WOk K G w) : WOk K G' w := by
  obtain ⟨S, h1, h2⟩ := h
  exact ⟨S, ty_ex e h1, h2⟩
theorem IOk.ex {G' : Hp} {w : V} (e : Ex G G') (h : IOk K G w) : IOk K G' w := by
  obtain ⟨S, h1, h2⟩ := h
  exact ⟨S, ty_ex e h1, h2⟩
theorem iok_int {i : Int} : IOk K G (.int i) := ⟨.int, fun _ => ty_int, rfl⟩
theorem iok_non : IOk K G .non := ⟨.non, fun _ => ty_non, rfl⟩
theorem iok_bl {b : Bool} : IOk K G (.bl b) := ⟨.bool, fun _ => ty_bl, rfl⟩
theorem iok_str {b : Str} : IOk K G (.str b) := ⟨.str, fun _ => ty_str, rfl⟩
theorem iok_tup {a : Addr} {xs : List V} (h : SqT K G a xs) : IOk K G (.ref a) := ⟨.tuple, fun _ => ty_tup h, rfl⟩
theorem iok_lst {a : Addr} {xs : List V} (h : SqL K G a xs) : IOk K G (.ref a) := ⟨.list, fun _ => ty_lst (.inr h), rfl⟩
theorem iok_dict {a : Addr} {xs : List (Key × V)} (h : G a = some (.dK xs)) : IOk K G (.ref a) := ⟨.dict, fun _ => ty_dict (.inr h), rfl⟩
theorem wok_str {b : Str} : WOk K G (.str b) := ⟨.str, fun _ => ty_str, rfl⟩
def boolsD (l : List Bool) : PyData := .list (l.map .bool)
theorem dp_bools : ∀ l : List Bool, DpAll K G (l.map V.bl) (l.map PyData.bool)
  | [] => .nil
  | b :: l => .cons (.bl b) (dp_bools l)
theorem shp_bools (l : List Bool) : Shp 1 (boolsD l) := .list fun d hd => by
  obtain ⟨b, _, rfl⟩ := List.mem_map.mp hd
  exact .bl
/-! ### slices of numbers -/
theorem cut_take {xs : List V} {k : Nat} : cutV xs none (some (k : Int)) = xs.take k := by
  unfold cutV
  rw [HT.sIx_none, HT.sIx_nat, List.drop_zero, Nat.sub_zero]
  rw [Nat.min_def]; split
  · rfl
  · rw [List.take_length, List.take_of_length_le (by omega)]
theorem cut_drop {xs : List V} {k : Nat} : cutV xs (some (k : Int)) none = xs.drop k := by
  unfold cutV
  rw [HT.sIx_none, HT.sIx_nat, Nat.min_def]; split
  · rw [List.take_of_length_le (by rw [List.length_drop]; exact Nat.le_refl _)]
  · rw [List.drop_length, List.take_nil, List.drop_of_length_le (by omega)]
theorem cut_init {xs : List V} : cutV xs none (some (-1)) = xs.dropLast := by
  unfold cutV
  rw [HT.sIx_none, List.drop_zero, Nat.sub_zero, List.dropLast_eq_take]
  have e : HT.sIx xs.length xs.length (some (-1)) = xs.length - 1 := by
    show (if (-1 : Int) < 0 then (-1 + (xs.length : Int)).toNat else min (-1 : Int).toNat xs.length) = _
    rw [if_pos (by decide)]; omega
  rw [e]
theorem natsV_take {l : List Nat} {k : Nat} : (natsV l).take k = natsV (l.take k) := by unfold natsV; rw [List.map_take]
theorem natsV_drop {l : List Nat} {k : Nat} : (natsV l).drop k = natsV (l.drop k) := by unfold natsV; rw [List.map_drop]
theorem natsV_app {l m : List Nat} : natsV l ++ natsV m = natsV (l ++ m) := by unfold natsV; rw [List.map_append]
/-- numbers as data -/
def natsD (l : List Nat) : List PyData := l.map fun (n : Nat) => PyData.int (n : Int)
theorem dp_nats : ∀ (l : List Nat), DpAll K G (natsV l) (natsD l)
  | [] => .nil
  | n :: l => .cons (.int _) (dp_nats l)
theorem shp_nats {n : Nat} (l : List Nat) : Shp (n + 1) (.list (natsD l)) := .list fun d hd => by
  obtain ⟨i, _, rfl⟩ := List.mem_map.mp hd
  exact .int
theorem dat_nats {a : Addr} {l : List Nat} (h : LstAt K G M a (natsV l)) : DatAt K G M (.ref a) (.list (natsD l)) := dat_list h (dats_g (dp_nats l))
theorem natsD_inj : ∀ {l m : List Nat}, natsD l = natsD m → l = m
  | [], [], _ => rfl
  | [], _ :: _, h => by cases h
  | _ :: _, [], h => by cases h
  | a :: l, b :: m, h => by
    have h1 := List.cons.inj h
    have := PyData.int.inj h1.1
    rw [natsD_inj h1.2]
    congr 1; omega
/-- something drawn from a written list -/
theorem pick {l : List V} {p : Addr} {n : Nat} {c s : Int} (hn : M[n]? = some (p, pool c s)) (hs : PoolOk s) (h0 : 0 < l.length) (h1 : l.length ≤ 1000)
    (q : ∀ y c' s' d, y ∈ l → PoolOk s' → Fr G M d → R y G ((d, .lst l) :: M.set n (p, pool c' s'))) :
    l.length ≤ sizeLine ∧ ∀ d, Fr G M d → S_law_take K [.ref p, .int (l.length : Int)] G ((d, .lst l) :: M) (fun y G M => kIx K (.ref d) y G M R) E0 := by
  refine ⟨sz (by omega), fun d fd => ⟨p, l.length, n + 1, c, s, rfl, rfl, hn, hs, by omega, ?_, fun r c' s' r0 r1 hs' => ?_⟩⟩
  · have : (l.length : Int) ≤ 1000 := by omega
    have : (1000 : Int) < 2 ^ 200 := by decide
    omega
  · obtain ⟨y, hy, hm⟩ := at_mem (l := l) r0 r1
    exact ⟨l, y, lst_n (n := 0) rfl, hy, q y c' s' d hm hs' fd⟩
end

section
variable {K : PySem.W.Frag} {vs : List V} {G : Hp} {M : Mem} {R : KR} {Z : KX}
end

section
theorem eqvA_ints : ∀ xs ys : List Int, PyData.eqvAll (xs.map .int) (ys.map .int) = decide (xs = ys)
  | [], [] => by simp [PyData.eqvAll]
  | [], _ :: _ => by simp [PyData.eqvAll]
  | _ :: _, [] => by simp [PyData.eqvAll]
  | x :: xs, y :: ys => by
    show (PyData.eqv (.int x) (.int y) && PyData.eqvAll (xs.map .int) (ys.map .int)) = _
    rw [eqvA_ints xs ys]
    have : PyData.eqv (.int x) (.int y) = decide (x = y) := by
      show (x == y) = _
      by_cases e : x = y <;> simp [e]
    rw [this]
    by_cases e1 : x = y <;> by_cases e2 : xs = ys <;> simp [e1, e2]
theorem eqvL_ints (xs ys : List Int) : PyData.eqv (.list (xs.map .int)) (.list (ys.map .int)) = decide (xs = ys) := eqvA_ints xs ys
theorem natsD_ints (l : List Nat) : natsD l = (l.map fun (n : Nat) => (n : Int)).map PyData.int := by unfold natsD; rw [List.map_map]; rfl
theorem eqvL_nats (l m : List Nat) : PyData.eqv (.list (natsD l)) (.list (natsD m)) = decide (l = m) := by
  rw [natsD_ints, natsD_ints, eqvL_ints]
  by_cases e : l = m
  · subst e; simp
  · rw [decide_eq_false e, decide_eq_false]
    intro z
    exact e (natsD_inj (by rw [natsD_ints, natsD_ints, z]))
theorem eqvL_nil (ds : List PyData) : PyData.eqv (.list ds) (.list []) = ds.isEmpty := by
  cases ds <;> rfl
end

section
variable {K : PySem.W.Frag} {vs : List V} {G : Hp} {M : Mem} {R : KR} {Z : KX}
theorem range_all_succ (f : Nat → Bool) (i : Nat) : (List.range (i + 1)).all f = ((List.range i).all f && f i) := by rw [List.range_succ, List.all_append]; simp
theorem draw_ok {k : Kn} {d : Dr} {v : V} (h : DrOk k d) (hk : KnOk k) (hv : DrV K G M v d) : DrawV K G M k v true := by
  unfold DrawV
  cases d with
  | leaf n =>
    obtain ⟨e, hn⟩ := h
    rw [if_pos e]
    have hv : v = .int n := hv
    subst hv
    exact ⟨.int, ty_int, rfl, (wi_in (by omega) (by omega)).symm⟩
  | row l =>
    obtain ⟨e, hl, hr⟩ := h
    rw [if_neg (by rw [e]; exact Bool.false_ne_true)]
    obtain ⟨b, rfl, hb⟩ := hv
    have := hk.1
    refine .inr ⟨b, natsV l, rfl, hb, by rw [natsV_len]; omega, ints_ty, ?_⟩
    unfold rowB
    rw [natsV_len, decide_eq_true hl, Bool.true_and]
    refine (List.all_eq_true.mpr fun i hi => ?_).symm
    have hi := List.mem_range.mp hi
    have hg := List.getElem?_eq_getElem hi
    rw [getD_of (natsV_get hg)]
    have := hr i _ hg
    exact wi_in (by omega) (by omega)
theorem DrV.ex {G' : Hp} {v : V} {d : Dr} (e : Ex G G') (h : DrV K G M v d) : DrV K G' M v d := by
  cases d with
  | leaf n => exact h
  | row l => obtain ⟨b, rfl, hb⟩ := h; exact ⟨b, rfl, lat_ex e hb⟩
theorem DrsG.ex {G' : Hp} {p : Addr} {ds : List Dr} (e : Ex G G') (h : DrsG K G p ds) : DrsG K G' p ds := by
  obtain ⟨us, h1, h2⟩ := h
  exact ⟨us, ex_l e h1, h2.mono fun _ _ q => q.ex e⟩
end

section
variable {K : PySem.W.Frag} {vs : List V} {G : Hp} {M : Mem} {R : KR} {Z : KX}
theorem LogC.ex {G' : Hp} {ts : List Tch} {o : HO} (e : Ex G G') (h : LogC K G ts o) : LogC K G' ts o := by
  obtain ⟨vs, rfl, h⟩ := h
  exact ⟨vs, rfl, ex_ds e _ h⟩
theorem dp_tch {T : Addr} {t : Tch} (h : SqT K G T [.str t.txt, .int t.shelf, .int t.room]) : Dp K G (.ref T) (tchD t) := .tup h (.cons (.str _) (.cons (.int _) (.cons (.int _) .nil)))
theorem LstN.at {n : Nat} {b : Addr} {xs : List V} (h : LstN K G M n b xs) : LstAt K G M b xs := by
  rcases h with ⟨i, _, h⟩ | h
  · exact lat_n h
  · exact .inr h
theorem LstN.set {n : Nat} {b : Addr} {xs : List V} {x : Addr × HO} (h : LstN K G M n b xs) : LstN K G (M.set n x) n b xs := by
  rcases h with ⟨i, e, h⟩ | h
  · exact .inl ⟨i, e, by rw [List.getElem?_set_ne e]; exact h⟩
  · exact .inr h
end

section
variable {K : PySem.W.Frag} {vs : List V} {G : Hp} {M : Mem} {R : KR} {Z : KX}
theorem eq_ref {a b : Addr} {d : PyData} {n : Nat} {neg : Bool} (ha : DatAt K G M (.ref a) d) (hb : DatAt K G M (.ref b) d) (sh : Shp n d) (hn : n ≤ 64) (q : R (.bl (!neg)) G M) : kEqv neg K (.ref a) (.ref b) G M R := by
  refine ⟨d, d, ha, hb, sh.shaped hn, sh.shaped hn, ?_⟩
  rw [sh.refl]
  cases neg <;> exact q
theorem eq_bools {a b : Addr} {l : List Bool} {neg : Bool} (ha : LstAt K G M a (l.map V.bl)) (hb : LstAt K G M b (l.map V.bl)) (q : R (.bl (!neg)) G M) : kEqv neg K (.ref a) (.ref b) G M R :=
  eq_ref (d := boolsD l) (dat_list ha (dats_g (dp_bools l))) (dat_list hb (dats_g (dp_bools l))) (shp_bools l) (by decide) q
theorem eq_nats {a b : Addr} {l : List Nat} {neg : Bool} (ha : LstAt K G M a (natsV l)) (hb : LstAt K G M b (natsV l)) (q : R (.bl (!neg)) G M) : kEqv neg K (.ref a) (.ref b) G M R :=
  eq_ref (dat_nats ha) (dat_nats hb) (shp_nats (n := 0) l) (by decide) q
theorem shp_tchs (ts : List Tch) : Shp 2 (.list (ts.map tchD)) := .list fun d hd => by
  obtain ⟨t, _, rfl⟩ := List.mem_map.mp hd
  refine .tuple fun d hd => ?_
  simp only [List.mem_cons, List.not_mem_nil, or_false] at hd
  rcases hd with rfl | rfl | rfl
  · refine .str ?_
    unfold Tch.txt; split
    · exact (by decide +kernel : PyData.strOk ("lay" : Str) = true)
    · exact (by decide +kernel : PyData.strOk ("look" : Str) = true)
  · exact .int
  · exact .int
theorem neq_self {x : V} (h : (!decide (x = x)) = true) : False := by rw [decide_eq_true rfl] at h; cases h
end

section
variable {K : PySem.W.Frag} {vs : List V} {G : Hp} {M : Mem} {R : KR} {Z : KX}
theorem pf_law_pool (h : S_law_pool K vs G M R Z) : rd_law_pool K (ends R Z) (sta 4 vs) G M := by
  obtain ⟨_, _, rfl, a, ns, k, rfl, rfl, hS, k0, k1, hl, q⟩ := sp2_of h
  have rest : ∀ cell : Int, rd_law_pool_2 K (ends R Z) [some (.ref a), some (.int k), some (.int cell), none] G M := fun cell => by
    refine ⟨G, M, Wk.refl, (by show (0 : Int) < _; decide), mul_l (by decide) (by decide), mul_r (by omega) (by omega), mul_r (by decide) (by decide), (by show (0 : Int) < _; decide), ?_⟩
    refine ⟨G, M, Wk.refl, pow10_18, ite2' (fun e => ?_) (fun e => ?_)⟩
    · exact ⟨G, M, Wk.refl, G, M, Wk.refl, sz2, fun p fp => ret0 (q p _ _ fp ⟨Int.emod_nonneg _ (by decide), Int.emod_lt_of_pos _ (by decide)⟩)⟩
    · exact ⟨G, M, Wk.refl, sz2, fun p fp => ret0 (q p _ _ fp ⟨Int.emod_nonneg _ (by decide), Int.emod_lt_of_pos _ (by decide)⟩)⟩
  refine ⟨G, M, Wk.refl, ?_⟩
  refine ⟨G, M, Wk.refl, _, lst_g hS, ite2' (fun e => ?_) (fun e => rest _)⟩
  have e1 : k < ((ns.map V.int).length : Int) := of_decide_eq_true e
  rw [List.length_map] at e1
  exact ⟨G, M, Wk.refl, _, _, lst_g hS, atI_int k0 e1, rest _⟩
end

section
variable {K : PySem.W.Frag} {vs : List V} {G : Hp} {M : Mem} {R : KR} {Z : KX}
theorem Wk.of_eq {N : Mem} (e : M = N) : Wk G M G N := e ▸ Wk.refl
theorem get_app {B N : Mem} {n : Nat} {x : Addr × HO} (h : N[n]? = some x) : (B ++ N)[B.length + n]? = some x := by
  rw [List.getElem?_append_right (by omega), Nat.add_sub_cancel_left]; exact h
theorem set_app {B N : Mem} {n : Nat} {x : Addr × HO} : (B ++ N).set (B.length + n) x = B ++ N.set n x := by
  rw [List.set_append_right _ _ (by omega), Nat.add_sub_cancel_left]
theorem set_keys : ∀ {N : Mem} {n : Nat} {p : Addr} {o o' : HO}, N[n]? = some (p, o) → (N.set n (p, o')).map (·.1) = N.map (·.1)
  | [], _, _, _, _, h => by simp at h
  | _ :: _, 0, _, _, _, h => by cases h; rfl
  | x :: N, n + 1, p, o, o', h => by
    show x.1 :: (N.set n (p, o')).map (·.1) = x.1 :: N.map (·.1)
    rw [set_keys (by simpa using h)]
theorem natsV_app2 (a b : List Nat) : natsV (a ++ b) = natsV a ++ natsV b := by unfold natsV; rw [List.map_append]
theorem in_nats {c : Nat} {l : List Nat} : inV (.int (c : Int)) (natsV l) = decide (c ∈ l) := by
  induction l with
  | nil => rfl
  | cons x l ih =>
    show (((x : Int) == (c : Int)) || inV (.int (c : Int)) (natsV l)) = _
    rw [ih]
    by_cases e : x = c
    · subst e; simp
    · have : ¬ ((x : Int) = (c : Int)) := by omega
      have e2 : ¬ (c = x) := fun z => e z.symm
      simp [this, e2]
theorem flat_nats (l : List Nat) : (natsV l).all flatV = true := List.all_eq_true.mpr fun v hv => by
  obtain ⟨n, _, rfl⟩ := List.mem_map.mp hv; rfl
theorem ints_nats : ∀ {ys : List Int}, (∀ y, y ∈ ys → 0 ≤ y) → ∃ l : List Nat, ys = l.map fun (i : Nat) => (i : Int)
  | [], _ => ⟨[], rfl⟩
  | y :: ys, h => by
    obtain ⟨l, rfl⟩ := ints_nats fun z hz => h z (List.mem_cons_of_mem _ hz)
    obtain ⟨n, rfl⟩ := Int.eq_ofNat_of_zero_le (h y List.mem_cons_self)
    exact ⟨n :: l, rfl⟩
theorem natsV_ints (l : List Nat) : (l.map fun (i : Nat) => (i : Int)).map V.int = natsV l := by unfold natsV; rw [List.map_map]; rfl
theorem perm_nats {l m : List Nat} (h : (l.map fun (i : Nat) => (i : Int)).Perm (m.map fun (i : Nat) => (i : Int))) : l.Perm m := by
  have := h.map Int.toNat
  rw [List.map_map, List.map_map, List.map_congr_left (g := id) (fun _ _ => by simp), List.map_congr_left (l := m) (g := id) (fun _ _ => by simp), List.map_id, List.map_id] at this
  exact this
theorem nat_sorted_eq {a b : List Nat} (h : a.Perm b) (ha : a.Pairwise (· ≤ ·)) (hb : b.Pairwise (· ≤ ·)) : a = b := List.Perm.eq_of_pairwise (fun x y _ _ h1 h2 => by omega) ha hb h
end

section
theorem rowok_snoc {l : List Nat} {v : Nat} (h : RowOk l) (hv : v ≤ l.length) : RowOk (l ++ [v]) := fun i w e => by
  by_cases z : i < l.length
  · rw [List.getElem?_append_left z] at e; exact h i w e
  · rw [List.getElem?_append_right (by omega)] at e
    have : i - l.length = 0 := by
      apply Decidable.byContradiction
      intro hn
      rw [List.getElem?_eq_none (by show 1 ≤ _; omega)] at e; cases e
    rw [this] at e
    cases e
    omega
end

section
variable {K : PySem.W.Frag} {vs : List V} {G : Hp} {M : Mem} {R : KR} {Z : KX}
theorem pf_law_draw (h : S_law_draw K vs G M R Z) : rd_law_draw K (ends R Z) (sta 3 vs) G M := by
  obtain ⟨_, _, rfl, p, n, c, s, k, rfl, hn, hs, hd, hk, q⟩ := sp2_of h
  obtain ⟨t, rfl, ht⟩ := dp_kn_inv hd
  have hk1 := hk.1
  refine ⟨G, M, Wk.refl, _, _, tup_g ht, rfl, ?_⟩
  show if decide (V.str k.txt = .str "leaf") = true then _ else _
  rw [txt_leaf]
  refine ite2' (fun e => ?_) (fun e => ?_)
  · have h6 := hk.2.1 e
    have e2 : (1 : Int) * 2 ^ (k.n : Int).toNat = ((2 ^ k.n : Nat) : Int) := by simp
    have p0 : 0 < 2 ^ k.n := Nat.pow_pos (by decide)
    have p6 : 2 ^ k.n ≤ 64 := Nat.pow_le_pow_right (n := 2) (by decide) h6
    refine ⟨G, M, Wk.refl, _, _, tup_g ht, rfl, ⟨by omega, by omega, by decide⟩, p, _, n, c, s, rfl, rfl, hn, hs, ?_, ?_, fun r c1 s1 r0 r1 hs1 => ?_⟩
    · rw [e2]; omega
    · rw [e2]
      have : (64 : Int) < 2 ^ 200 := by decide
      omega
    · rw [e2] at r1
      obtain ⟨v, rfl⟩ := Int.eq_ofNat_of_zero_le r0
      exact ret0 (q _ (.leaf v) c1 s1 G Ex.refl rfl ⟨e, by omega⟩ hs1)
  · refine ⟨G, M, Wk.refl, ?_⟩
    refine ⟨_, _, tup_g ht, rfl, ⟨by omega, by omega⟩, sz (by show (k.n : Int).toNat ≤ _; omega), fun i acc G' M' => ∃ (l : List Nat) (c' s' : Int), G' = G ∧ M' = M.set n (p, pool c' s') ∧ PoolOk s' ∧ l.length = i ∧ acc = natsV l ∧ RowOk l,
      ⟨[], c, s, rfl, (set_self hn).symm, hs, rfl, rfl, fun i v e => by simp at e⟩, fun _ _ _ _ _ _ => trivial, ?_, ?_⟩
    · rintro i acc G' M' D hi hacc ⟨l, c1, s1, rfl, rfl, hs1, rfl, rfl, hl⟩ fD
      have hi : l.length < (k.n : Int).toNat := hi
      have e0 : (0 : Int) + (l.length : Int) = (l.length : Int) := by omega
      refine ⟨rfl, p, (0 : Int) + (l.length : Int) + 1, n + 1, c1, s1, rfl, rfl, set_n hn, hs1, by omega, ?_, fun r c2 s2 r0 r1 hs2 => ?_⟩
      · have : (100 : Int) < 2 ^ 200 := by decide
        omega
      · obtain ⟨v, rfl⟩ := Int.eq_ofNat_of_zero_le r0
        refine ⟨G', M.set n (p, pool c2 s2), Wk.of_eq (by rw [List.set_cons_succ, List.set_set]), l ++ [v], c2, s2, rfl, rfl, hs2, by rw [List.length_append]; rfl, by rw [natsV_app2]; rfl, rowok_snoc hl (by omega)⟩
    · rintro acc G' M' w ⟨l, c1, s1, rfl, rfl, hs1, hl, rfl, hlr⟩ hacc fw
      have hl : l.length = (k.n : Int).toNat := hl
      refine retW (Wk.frz0 (M := M.set n (p, pool c1 s1))) (q _ (.row l) c1 s1 _ (Ex.new fw) ⟨w, rfl, .inr sql_new⟩ ⟨?_, by omega, hlr⟩ hs1)
      cases e3 : k.leaf with
      | false => rfl
      | true => rw [e3] at e; cases e
theorem DrV.exn {G' : Hp} {v : V} {d : Dr} (e : Ex G G') (h : DrV K G [] v d) : DrV K G' [] v d := by
  cases d with
  | leaf n => exact h
  | row l =>
    obtain ⟨b, rfl, hb⟩ := h
    exact ⟨b, rfl, lat_ex e hb⟩
theorem pf_law_draws (h : S_law_draws K vs G M R Z) : rd_law_draws K (ends R Z) (sta 3 vs) G M := by
  obtain ⟨_, _, rfl, p, n, c, s, a, us, ks, rfl, rfl, hn, hs, hu, hd, hk, hl, q⟩ := sp2_of h
  have hul := dpall_len hd
  rw [List.length_map] at hul
  have hul2 : ∀ {G' : Hp} {x : Addr × HO}, Ex G G' → LstAt K G' (M.set n x) a us := fun {G' x} e => by
    rcases hu with ⟨i, ni, hi⟩ | hu
    · exact .inl (List.mem_of_getElem? (i := i) (by rw [List.getElem?_set_ne ni]; exact hi))
    · exact .inr (ex_l e hu)
  have hu0 : LstAt K G M a us := by
    rcases hu with ⟨i, ni, hi⟩ | hu
    · exact .inl (List.mem_of_getElem? hi)
    · exact .inr hu
  refine ⟨G, M, Wk.refl, us, hu0, sz (by show us.length ≤ _; omega), fun i acc G' M' => ∃ (ds : List Dr) (c' s' : Int), Ex G G' ∧ M' = M.set n (p, pool c' s') ∧ PoolOk s' ∧ A2 (DrV K G' []) acc ds ∧ A2 DrOk (ks.take i) ds,
    ⟨[], c, s, Ex.refl, (set_self hn).symm, hs, .nil, .nil⟩, ?_, ?_, ?_⟩
  · rintro i acc G' M' _ ⟨ds, c', s', ex, rfl, _⟩; exact hul2 ex
  · rintro i acc G' M' D hi hacc ⟨ds, c1, s1, ex, rfl, hs1, ha, hok⟩ fD
    have hi : i < us.length := hi
    obtain ⟨k, hki⟩ : ∃ k, ks[i]? = some k := ⟨_, List.getElem?_eq_getElem (by omega)⟩
    obtain ⟨v, hv, hvd⟩ := dpall_get hd (i := i) (d := knD k) (by rw [List.getElem?_map, hki]; rfl)
    refine asg_L hv ⟨rfl, p, n + 1, c1, s1, k, rfl, set_n hn, hs1, ex_d ex _ hvd, hk k (List.mem_of_getElem? hki), fun y d c2 s2 G2 e2 hy hyd hs2 => ?_⟩
    refine ⟨G2, M.set n (p, pool c2 s2), Wk.of_eq (by rw [List.set_cons_succ, List.set_set]), ds ++ [d], c2, s2, ex.trans e2, rfl, hs2, (ha.mono fun _ _ z => z.exn e2).app (.cons hy .nil), ?_⟩
    rw [take_succ' hki]
    exact hok.app (.cons hyd .nil)
  · rintro acc G' M' w ⟨ds, c1, s1, ex, rfl, hs1, ha, hok⟩ hacc fw
    have hok : A2 DrOk (ks.take us.length) ds := hok
    rw [hul, List.take_length] at hok
    exact retW (Wk.frz0 (M := M.set n (p, pool c1 s1))) (q w ds c1 s1 _ (ex.trans (Ex.new fw)) ⟨acc, sql_new, ha.mono fun _ _ z => z.exn (Ex.new fw)⟩ hok hs1)
end

section
theorem PapOk.len {ks : List Kn} {ps : List Pp} (h : PapOk ks ps) : ks.length = ps.length := h.ok.len
theorem PapOk.at {ks : List Kn} {ps : List Pp} (h : PapOk ks ps) {d : Nat} {k : Kn} (e : ks[d]? = some k) : ∃ pp, ps[d]? = some pp ∧ ps.getD d ⟨0, none⟩ = pp ∧ PpOk ks k pp := by
  obtain ⟨pp, h1, h2⟩ := h.ok.get' e
  exact ⟨pp, h1, by rw [List.getD_eq_getElem?_getD, h1]; rfl, h2⟩
theorem src_lt {ks : List Kn} {ps : List Pp} (h : PapOk ks ps) : ∀ x, x ∈ ps.map (·.src) → x < ps.length := fun x hx => by
  obtain ⟨pp, hp, rfl⟩ := List.mem_map.mp hx
  obtain ⟨i, hi⟩ := List.getElem?_of_mem hp
  obtain ⟨k, hk, h1, _⟩ := h.ok.get hi
  have := (List.getElem?_eq_some_iff.mp h1).1
  rw [h.len] at this; exact this
theorem srcs_ord {ks : List Kn} {ps : List Pp} (h : PapOk ks ps) : OrdOk ps.length (ps.map (·.src)) := ⟨List.length_map _, h.nd, src_lt h⟩
theorem srcs_getD {ps : List Pp} {d : Nat} (h : d < ps.length) : (ps.map (·.src)).getD d 0 = srcOf ps d := by
  unfold srcOf
  rw [List.getD_eq_getElem?_getD, List.getD_eq_getElem?_getD, List.getElem?_map, List.getElem?_eq_getElem h]; rfl
theorem comp_ord {n : Nat} {l o : List Nat} (hl : OrdOk n l) (ho : OrdOk n o) : OrdOk n (l.map fun j => o.getD j 0) := by
  refine ⟨by rw [List.length_map, hl.len], ?_, fun x hx => ?_⟩
  · have hln := hl.nd
    rw [List.Nodup, List.pairwise_map]
    refine List.Pairwise.imp_of_mem (fun {a b} ha hb ne e => ?_) hln
    exact ne (nodup_getD.mp ho.nd a b (by rw [ho.len]; exact hl.lt a ha) (by rw [ho.len]; exact hl.lt b hb) e)
  · obtain ⟨j, hj, rfl⟩ := List.mem_map.mp hx
    have : j < o.length := by rw [ho.len]; exact hl.lt j hj
    rw [getD_lt this]
    exact ho.lt _ (List.getElem_mem this)
theorem row_of_dr {k : Kn} {d : Dr} (h : DrOk k d) (hl : k.leaf = false) : OrdOk k.n (orderOf (rowD d)) := by
  cases d with
  | leaf n => obtain ⟨h1, _⟩ := h; rw [hl] at h1; cases h1
  | row l =>
    obtain ⟨_, h2, h3⟩ := h
    have := order_ok (l := l) h3
    rw [h2] at this
    exact this
theorem drs_at {ks : List Kn} {ds : List Dr} (h : A2 DrOk ks ds) {d : Nat} {k : Kn} (e : ks[d]? = some k) : ∃ x, ds[d]? = some x ∧ ds.getD d (.leaf 0) = x ∧ DrOk k x := by
  obtain ⟨x, h1, h2⟩ := h.get' e
  exact ⟨x, h1, by rw [List.getD_eq_getElem?_getD, h1]; rfl, h2⟩
theorem ledP_ok {ks : List Kn} {ds : List Dr} {k : Kn} {pp : Pp} (hd : A2 DrOk ks ds) (h : PpOk ks k pp) : DrOk k (ledP ds pp) := by
  obtain ⟨h1, h2, h3⟩ := h
  obtain ⟨x, hx, ex, hk⟩ := drs_at hd h1
  unfold ledP
  cases hl : k.leaf with
  | true => rw [h2 hl, ex]; exact hk
  | false =>
    obtain ⟨l, hl1, hl2⟩ := h3 hl
    rw [hl1, ex]
    have hc := comp_ord hl2 (row_of_dr hk hl)
    obtain ⟨a, b⟩ := row_ok (o := l.map fun j => (orderOf (rowD x)).getD j 0) (by rw [hc.len]; exact hc)
    exact ⟨hl, by rw [a, hc.len], b⟩
theorem a2_map {α β γ : Type} {r : α → β → Prop} {q : α → γ → Prop} {f : β → γ} (m : ∀ a b, r a b → q a (f b)) {as : List α} {bs : List β} (h : A2 r as bs) : A2 q as (bs.map f) := by
  induction h with
  | nil => exact .nil
  | cons h _ ih => exact .cons (m _ _ h) ih
theorem ledD_ok {ks : List Kn} {ds : List Dr} {ps : List Pp} (hd : A2 DrOk ks ds) (h : PapOk ks ps) : A2 DrOk ks (ledD ps ds) := a2_map (fun _ _ z => ledP_ok hd z) h.ok
theorem ledD_getD {ks : List Kn} {ds : List Dr} {ps : List Pp} {d : Nat} {k : Kn} (h : PapOk ks ps) (e : ks[d]? = some k) : ∃ pp, ps[d]? = some pp ∧ ps.getD d ⟨0, none⟩ = pp ∧ PpOk ks k pp ∧ (ledD ps ds).getD d (.leaf 0) = ledP ds pp := by
  obtain ⟨pp, h1, h2, h3⟩ := h.at e
  refine ⟨pp, h1, h2, h3, ?_⟩
  unfold ledD
  rw [List.getD_eq_getElem?_getD, List.getElem?_map, h1]; rfl
/-- what a led sign shows -/
theorem led_touch {ks : List Kn} {ds : List Dr} {ps : List Pp} {s1 s2 : Sg} (hd : A2 DrOk ks ds) (h : PapOk ks ps) (o1 : SgOk ks s1) (o2 : SgOk ks s2) (e : ledB ps s1 s2 = true) : tchOf ks ds s1 = tchOf ks (ledD ps ds) s2 := by
  cases s1 with
  | room b s r =>
    cases s2 with
    | room b' s' r' =>
      simp only [ledB, Bool.and_eq_true, decide_eq_true_eq] at e
      obtain ⟨rfl, rfl, rfl⟩ := e
      rfl
    | _ => cases e
  | item b s d i =>
    cases s2 with
    | item b' s' d' i' =>
      simp only [ledB, Bool.and_eq_true, decide_eq_true_eq] at e
      obtain ⟨rfl, rfl, e1, e2⟩ := e
      obtain ⟨n, hn, hi⟩ := o2
      obtain ⟨pp, h1, h2, ⟨h3, _, h4⟩, h5⟩ := ledD_getD (ds := ds) h hn
      obtain ⟨l, hl1, hl2⟩ := h4 rfl
      unfold srcOf at e1
      unfold turnOf at e2
      rw [h2] at e1 e2
      rw [hl1] at e2
      have e2 : l.getD i' 0 = i := e2
      obtain ⟨x, hx, ex, hk⟩ := drs_at hd h3
      show Tch.mk b s _ = Tch.mk b s _
      rw [h5]
      unfold ledP
      rw [hl1]
      have hc := comp_ord hl2 (row_of_dr hk rfl)
      have hi' : i' < l.length := by rw [hl2.len]; exact hi
      rw [ex, ← e1, ex]
      show Tch.mk b s ((orderOf (rowD x)).getD i 0) = Tch.mk b s ((orderOf (rowOf (l.map fun j => (orderOf (rowD x)).getD j 0))).getD i' 0)
      rw [order_row (by rw [hc.len]; exact hc)]
      congr 1
      rw [List.getD_eq_getElem?_getD (l := l.map _), List.getElem?_map, List.getElem?_eq_getElem hi']
      rw [getD_lt hi'] at e2
      rw [e2]; rfl
    | _ => cases e
  | way b s d p e0 =>
    cases s2 with
    | way b' s' d' p' e' =>
      simp only [ledB, Bool.and_eq_true, decide_eq_true_eq] at e
      obtain ⟨rfl, rfl, e1, rfl, rfl⟩ := e
      obtain ⟨hh, hn, hp, he⟩ := o2
      obtain ⟨pp, h1, h2, ⟨h3, h4, _⟩, h5⟩ := ledD_getD (ds := ds) h hn
      unfold srcOf at e1
      rw [h2] at e1
      show Tch.mk b s _ = Tch.mk b s _
      rw [h5]
      unfold ledP
      rw [h4 rfl, ← e1]
      have k1 : ks.getD pp.src ⟨true, 0⟩ = ⟨true, hh⟩ := by rw [List.getD_eq_getElem?_getD, h3]; rfl
      have k2 : ks.getD d' ⟨true, 0⟩ = ⟨true, hh⟩ := by rw [List.getD_eq_getElem?_getD, hn]; rfl
      rw [k1, k2]
    | _ => cases e
theorem zip_all {α : Type} {f : α → α → Bool} : ∀ {l m : List α}, l.length = m.length → (List.zipWith f l m).all id = true → A2 (fun a b => f a b = true) l m
  | [], [], _, _ => .nil
  | a :: l, b :: m, h, e => by
    rw [List.zipWith_cons_cons, List.all_cons, Bool.and_eq_true] at e
    exact .cons e.1 (zip_all (by simpa using h) e.2)
  | [], _ :: _, h, _ => by simp at h
  | _ :: _, [], h, _ => by simp at h
theorem all_zip {α : Type} {f : α → α → Bool} {l m : List α} (h : A2 (fun a b => f a b = true) l m) : l.length = m.length ∧ (List.zipWith f l m).all id = true := by
  induction h with
  | nil => exact ⟨rfl, rfl⟩
  | cons h _ ih => exact ⟨by simp [ih.1], by rw [List.zipWith_cons_cons, List.all_cons, ih.2]; simp [h]⟩
theorem leadB_iff {ps : List Pp} {one other : List Sg} : leadB ps one other = true ↔ A2 (fun a b => ledB ps a b = true) one other := by
  unfold leadB
  constructor
  · intro h
    rw [Bool.and_eq_true, decide_eq_true_eq] at h
    exact zip_all h.1 h.2
  · intro h
    obtain ⟨a, b⟩ := all_zip h
    rw [decide_eq_true a, b]; rfl
theorem lead_seen {ks : List Kn} {ds : List Dr} {ps : List Pp} {one other : List Sg} (hd : A2 DrOk ks ds) (h : PapOk ks ps) (o1 : ∀ s, s ∈ one → SgOk ks s) (o2 : ∀ s, s ∈ other → SgOk ks s) (e : leadB ps one other = true) : one.map (tchOf ks ds) = other.map (tchOf ks (ledD ps ds)) := by
  have e' := leadB_iff.mp e
  clear e
  induction e' with
  | nil => rfl
  | cons a _ ih =>
    rw [List.map_cons, List.map_cons, led_touch hd h (o1 _ List.mem_cons_self) (o2 _ List.mem_cons_self) a, ih (fun s hs => o1 s (List.mem_cons_of_mem _ hs)) (fun s hs => o2 s (List.mem_cons_of_mem _ hs))]
/-! back -/
theorem inv_len (l : List Nat) : (invN l).length = l.length := by unfold invN; rw [List.length_map, List.length_range]
theorem inv_getD {l : List Nat} {i : Nat} (h : i < l.length) : (invN l).getD i 0 = l.idxOf i := by
  unfold invN
  rw [List.getD_eq_getElem?_getD, List.getElem?_map, List.getElem?_range h]; rfl
theorem inv_ok {n : Nat} {l : List Nat} (h : OrdOk n l) : OrdOk n (invN l) := by
  refine ⟨by rw [inv_len, h.len], nodup_getD.mpr fun i j hi hj e => ?_, fun x hx => ?_⟩
  · rw [inv_len] at hi hj
    rw [inv_getD hi, inv_getD hj] at e
    have a := (getD_idx (ord_has h i (by rw [← h.len]; exact hi))).2
    have b := (getD_idx (ord_has h j (by rw [← h.len]; exact hj))).2
    rw [e] at a
    exact a.symm.trans b
  · obtain ⟨i, hi, rfl⟩ := List.mem_map.mp hx
    have hi := List.mem_range.mp hi
    have := (getD_idx (ord_has h i (by rw [← h.len]; exact hi))).1
    rw [h.len] at this; exact this
theorem back_len (ps : List Pp) : (backP ps).length = ps.length := by unfold backP; rw [List.length_map, List.length_range]
theorem back_get {ps : List Pp} {s : Nat} (h : s < ps.length) : (backP ps)[s]? = some ⟨(ps.map (·.src)).idxOf s, ((ps.getD ((ps.map (·.src)).idxOf s) ⟨0, none⟩).turn).map invN⟩ := by
  unfold backP
  rw [List.getElem?_map, List.getElem?_range h]; rfl
theorem a2_of {α β : Type} {r : α → β → Prop} : ∀ {as : List α} {bs : List β}, as.length = bs.length → (∀ (i : Nat) (a : α) (b : β), as[i]? = some a → bs[i]? = some b → r a b) → A2 r as bs
  | [], [], _, _ => .nil
  | a :: as, b :: bs, h, f => .cons (f 0 a b rfl rfl) (a2_of (by simpa using h) fun i x y hx hy => f (i + 1) x y (by simpa using hx) (by simpa using hy))
  | [], _ :: _, h, _ => by simp at h
  | _ :: _, [], h, _ => by simp at h
theorem back_ok {ks : List Kn} {ps : List Pp} (h : PapOk ks ps) : PapOk ks (backP ps) := by
  have ho := srcs_ord h
  constructor
  · refine a2_of (by rw [back_len, h.len]) fun s k pp hk hp => ?_
    have hs : s < ps.length := by rw [← h.len]; exact (List.getElem?_eq_some_iff.mp hk).1
    rw [back_get hs] at hp
    obtain ⟨g1, g2⟩ := getD_idx (ord_has ho s hs)
    have g1' : (ps.map (·.src)).idxOf s < ps.length := by rw [List.length_map] at g1; exact g1
    have hkj : ∃ kj, ks[(ps.map (·.src)).idxOf s]? = some kj := ⟨_, List.getElem?_eq_getElem (by rw [h.len]; exact g1')⟩
    obtain ⟨kj, hkj⟩ := hkj
    obtain ⟨pj, p1, p2, ⟨p3, p4, p5⟩⟩ := h.at hkj
    rw [srcs_getD g1'] at g2
    unfold srcOf at g2
    rw [p2] at g2 hp
    rw [g2, hk] at p3
    have e : k = kj := by injection p3
    subst e
    have e : pp = ⟨(ps.map (·.src)).idxOf s, pj.turn.map invN⟩ := by injection hp with hp; exact hp.symm
    subst e
    refine ⟨hkj, fun z => ?_, fun z => ?_⟩
    · show pj.turn.map invN = none
      rw [p4 z]; rfl
    · obtain ⟨l, a, b⟩ := p5 z
      exact ⟨invN l, by show pj.turn.map invN = _; rw [a]; rfl, inv_ok b⟩
  · have e : (backP ps).map (·.src) = invN (ps.map (·.src)) := by
      unfold backP invN
      rw [List.map_map, List.length_map]; rfl
    rw [e]
    exact (inv_ok ho).nd
theorem back_led {ks : List Kn} {ps : List Pp} {s1 s2 : Sg} (h : PapOk ks ps) (o1 : SgOk ks s1) (o2 : SgOk ks s2) (e : ledB ps s1 s2 = true) : ledB (backP ps) s2 s1 = true := by
  have ho := srcs_ord h
  have key : ∀ {d d' : Nat} {k : Kn}, ks[d']? = some k → srcOf ps d' = d → (backP ps).getD d ⟨0, none⟩ = ⟨d', ((ps.getD d' ⟨0, none⟩).turn).map invN⟩ := fun {d d' k} hk e1 => by
    have hd' : d' < ps.length := by rw [← h.len]; exact (List.getElem?_eq_some_iff.mp hk).1
    have hi : (ps.map (·.src)).idxOf d = d' := by
      have g := srcs_getD hd'
      rw [e1] at g
      have := idx_of_nodup h.nd (i := d') (by rw [List.length_map]; exact hd')
      rw [g] at this
      exact this
    have hd : d < ps.length := by
      rw [← e1, ← srcs_getD hd']
      refine ho.lt _ ?_
      rw [getD_lt (by rw [List.length_map]; exact hd')]
      exact List.getElem_mem _
    rw [List.getD_eq_getElem?_getD, back_get hd, hi]; rfl
  cases s1 with
  | room b s r =>
    cases s2 with
    | room b' s' r' =>
      simp only [ledB, Bool.and_eq_true, decide_eq_true_eq] at e ⊢
      obtain ⟨rfl, rfl, rfl⟩ := e
      exact ⟨rfl, rfl, rfl⟩
    | _ => cases e
  | item b s d i =>
    cases s2 with
    | item b' s' d' i' =>
      simp only [ledB, Bool.and_eq_true, decide_eq_true_eq] at e ⊢
      obtain ⟨rfl, rfl, e1, e2⟩ := e
      obtain ⟨n, hn, hi⟩ := o2
      obtain ⟨pp, h1, h2, ⟨h3, _, h4⟩⟩ := h.at hn
      obtain ⟨l, hl1, hl2⟩ := h4 rfl
      have kk := key hn e1
      refine ⟨rfl, rfl, ?_, ?_⟩
      · unfold srcOf; rw [kk]
      · unfold turnOf at e2 ⊢
        rw [kk]
        rw [h2, hl1] at e2 ⊢
        have e2 : l.getD i' 0 = i := e2
        show (invN l).getD i 0 = i'
        have hi' : i' < l.length := by rw [hl2.len]; exact hi
        have hil : i < l.length := by
          rw [← e2, getD_lt hi', hl2.len]
          exact hl2.lt _ (List.getElem_mem hi')
        rw [inv_getD hil, ← e2]
        exact idx_of_nodup hl2.nd hi'
    | _ => cases e
  | way b s d p e0 =>
    cases s2 with
    | way b' s' d' p' e' =>
      simp only [ledB, Bool.and_eq_true, decide_eq_true_eq] at e ⊢
      obtain ⟨rfl, rfl, e1, rfl, rfl⟩ := e
      obtain ⟨hh, hn, hp, he⟩ := o2
      have kk := key hn e1
      refine ⟨rfl, rfl, ?_, rfl, rfl⟩
      unfold srcOf; rw [kk]
    | _ => cases e
theorem back_lead {ks : List Kn} {ps : List Pp} {one other : List Sg} (h : PapOk ks ps) (o1 : ∀ s, s ∈ one → SgOk ks s) (o2 : ∀ s, s ∈ other → SgOk ks s) (e : leadB ps one other = true) : leadB (backP ps) other one = true := by
  refine leadB_iff.mpr ?_
  have e' := leadB_iff.mp e
  clear e
  induction e' with
  | nil => exact .nil
  | cons a _ ih => exact .cons (back_led h (o1 _ List.mem_cons_self) (o2 _ List.mem_cons_self) a) (ih (fun s hs => o1 s (List.mem_cons_of_mem _ hs)) (fun s hs => o2 s (List.mem_cons_of_mem _ hs)))
end

section
variable {K : PySem.W.Frag} {vs : List V} {G : Hp} {M : Mem} {R : KR} {Z : KX}
theorem dp_sg {T : Addr} {s : Sg} (h : SqT K G T s.vs) : Dp K G (.ref T) (sgD s) := by
  cases s with
  | room b s r => exact .tup h (.cons (.str _) (.cons (.str _) (.cons (.int _) (.cons (.int _) .nil))))
  | item b s d i => exact .tup h (.cons (.str _) (.cons (.str _) (.cons (.int _) (.cons (.int _) (.cons (.int _) .nil)))))
  | way b s d p e => exact .tup h (.cons (.str _) (.cons (.str _) (.cons (.int _) (.cons (.int _) (.cons (.int _) (.cons (.int _) .nil))))))
theorem sg_inv {v : V} {s : Sg} (h : Dp K G v (sgD s)) : ∃ T, v = .ref T ∧ SqT K G T s.vs := by
  cases s with
  | room b s r =>
    obtain ⟨T, xs, rfl, q, a⟩ := dp_tup_inv h
    cases a with | cons a1 a => cases a1; cases a with | cons a2 a => cases a2; cases a with | cons a3 a => cases a3; cases a with | cons a4 a => cases a4; cases a; exact ⟨T, rfl, q⟩
  | item b s d i =>
    obtain ⟨T, xs, rfl, q, a⟩ := dp_tup_inv h
    cases a with | cons a1 a => cases a1; cases a with | cons a2 a => cases a2; cases a with | cons a3 a => cases a3; cases a with | cons a4 a => cases a4; cases a with | cons a5 a => cases a5; cases a; exact ⟨T, rfl, q⟩
  | way b s d p e =>
    obtain ⟨T, xs, rfl, q, a⟩ := dp_tup_inv h
    cases a with | cons a1 a => cases a1; cases a with | cons a2 a => cases a2; cases a with | cons a3 a => cases a3; cases a with | cons a4 a => cases a4; cases a with | cons a5 a => cases a5; cases a with | cons a6 a => cases a6; cases a; exact ⟨T, rfl, q⟩
theorem deedS_ok (b : Bool) : PyData.strOk (deedS b) = true := by
  cases b
  · exact (by decide +kernel : PyData.strOk ("look" : Str) = true)
  · exact (by decide +kernel : PyData.strOk ("lay" : Str) = true)
theorem shp_sg (s : Sg) : Shp 1 (sgD s) := by
  cases s with
  | room b s r =>
    refine .tuple fun d hd => ?_
    simp only [List.mem_cons, List.not_mem_nil, or_false] at hd
    rcases hd with rfl | rfl | rfl | rfl
    · exact .str (by decide +kernel : PyData.strOk ("room" : Str) = true)
    · exact .str (deedS_ok b)
    · exact .int
    · exact .int
  | item b s d i =>
    refine .tuple fun d hd => ?_
    simp only [List.mem_cons, List.not_mem_nil, or_false] at hd
    rcases hd with rfl | rfl | rfl | rfl | rfl
    · exact .str (by decide +kernel : PyData.strOk ("item" : Str) = true)
    · exact .str (deedS_ok b)
    · exact .int
    · exact .int
    · exact .int
  | way b s d p e =>
    refine .tuple fun d hd => ?_
    simp only [List.mem_cons, List.not_mem_nil, or_false] at hd
    rcases hd with rfl | rfl | rfl | rfl | rfl | rfl
    · exact .str (by decide +kernel : PyData.strOk ("way" : Str) = true)
    · exact .str (deedS_ok b)
    · exact .int
    · exact .int
    · exact .int
    · exact .int
theorem shp_sgs (l : List Sg) : Shp 2 (.list (l.map sgD)) := .list fun d hd => by
  obtain ⟨s, _, rfl⟩ := List.mem_map.mp hd
  exact shp_sg s
end

section
variable {K : PySem.W.Frag} {vs : List V} {G : Hp} {M : Mem} {R : KR} {Z : KX}
theorem pf_node_at (h : S_node_at K vs G M R Z) : rd_node_at K (ends R Z) (sta 3 vs) G M := by
  obtain ⟨_, _, _, rfl, hg, d, l, rfl, rfl, rfl, hd, hh, q⟩ := sp3_of h
  clear h
  refine ⟨G, M, Wk.refl, ⟨by omega, by omega, by decide⟩, by show (0 : Int) ≤ (hg : Int) - (d : Int); omega, ret0 ?_⟩
  have e : (1 : Int) * 2 ^ ((d : Int)).toNat - 1 + (l : Int) / 2 ^ ((hg : Int) - (d : Int)).toNat = ((nodeN hg d l : Nat) : Int) := by
    unfold nodeN
    rw [Int.toNat_natCast, show ((hg : Int) - (d : Int)).toNat = hg - d by omega, Int.one_mul]
    have h1 : 1 ≤ 2 ^ d := Nat.one_le_two_pow
    rw [Int.natCast_add, Int.natCast_ediv, Int.natCast_sub h1]
    simp
  show R (.int ((1 : Int) * 2 ^ ((d : Int)).toNat - 1 + (l : Int) / 2 ^ ((hg : Int) - (d : Int)).toNat)) G M
  rw [e]
  exact q
theorem pf_room_of (h : S_room_of K vs G M R Z) : rd_room_of K (ends R Z) (sta 2 vs) G M := by
  obtain ⟨_, _, rfl, n, s, rfl, rfl, q⟩ := sp2_of h
  refine ⟨G, M, Wk.refl, mul_l (by decide) (by decide), ret0 ?_⟩
  have e : (2 : Int) * (n : Int) + (s : Int) = ((2 * n + s : Nat) : Int) := by omega
  show R (.int ((2 : Int) * (n : Int) + (s : Int))) G M
  rw [e]
  exact q
/-! hands -/
theorem HandF.ex {G' : Hp} {m : Nat} {hv : List (Key × V)} {f : HF} (e : Ex G G') (h : HandF K G m hv f) : HandF K G' m hv f :=
  ⟨h.nd, h.key, h.non, fun c p hc => by obtain ⟨v, h1, h2⟩ := h.val c p hc; exact ⟨v, h1, ex_d e _ h2⟩⟩
theorem HandF.nil {m : Nat} : HandF K G m [] (fun _ => none) := ⟨List.nodup_nil, fun _ z => (nomatch z), fun _ _ => rfl, fun _ _ z => nomatch z⟩
theorem inl_ne {a b : Nat} (h : ¬ a = b) : ¬ ((Sum.inl (a : Int) : Key) = Sum.inl (b : Int)) := fun z => h (by have := Sum.inl.inj z; omega)
theorem putK_keys (hv : List (Key × V)) (k : Key) (v : V) : (putK hv k v).map (·.1) = if (valV hv k).isSome = true then hv.map (·.1) else hv.map (·.1) ++ [k] := by
  unfold putK
  rw [valV_any]
  by_cases z : (valV hv k).isSome = true
  · rw [if_pos z, if_pos z, List.map_map]
    refine List.map_congr_left fun p _ => ?_
    show (if p.1 = k then (p.1, v) else p).1 = p.1
    split <;> rfl
  · rw [if_neg z, if_neg z, List.map_append]; rfl
theorem HandF.put {m : Nat} {hv : List (Key × V)} {f : HF} {c : Nat} {p : Nat × Nat} {v : V} (h : HandF K G m hv f) (hc : c < m) (hv2 : Dp K G v (.tuple [.int p.1, .int p.2])) : HandF K G m (putK hv (Sum.inl (c : Int)) v) (f.put c p) := by
  refine ⟨?_, fun q hq => ?_, fun x hx => ?_, fun x q hx => ?_⟩
  · rw [putK_keys]
    split
    · exact h.nd
    · rename_i z
      rw [List.nodup_append]
      refine ⟨h.nd, (List.nodup_cons.mpr ⟨fun z => (nomatch z), List.nodup_nil⟩), fun a ha b hb e => ?_⟩
      have hb : b = Sum.inl (c : Int) := by simpa using hb
      subst hb
      subst e
      have : valV hv (Sum.inl (c : Int)) = none := by
        cases q : valV hv (Sum.inl (c : Int)) with
        | none => rfl
        | some w => rw [q] at z; exact absurd rfl z
      exact valV_not this ha
  · have : q.1 ∈ (putK hv (Sum.inl (c : Int)) v).map (·.1) := List.mem_map.mpr ⟨q, hq, rfl⟩
    rw [putK_keys] at this
    split at this
    · obtain ⟨r, hr, e⟩ := List.mem_map.mp this
      obtain ⟨d, h1, h2⟩ := h.key r hr
      exact ⟨d, h1, by rw [← e]; exact h2⟩
    · rcases List.mem_append.mp this with this | this
      · obtain ⟨r, hr, e⟩ := List.mem_map.mp this
        obtain ⟨d, h1, h2⟩ := h.key r hr
        exact ⟨d, h1, by rw [← e]; exact h2⟩
      · exact ⟨c, hc, by simpa using this⟩
  · rw [valV_put]
    unfold HF.put at hx
    by_cases e : x = c
    · rw [if_pos e] at hx; cases hx
    · rw [if_neg e] at hx
      rw [if_neg (inl_ne e)]
      exact h.non x hx
  · rw [valV_put]
    unfold HF.put at hx
    by_cases e : x = c
    · rw [if_pos e] at hx
      cases hx
      rw [e, if_pos rfl]
      exact ⟨v, rfl, hv2⟩
    · rw [if_neg e] at hx
      rw [if_neg (inl_ne e)]
      exact h.val x q hx
theorem valV_drop (k j : Key) : ∀ hv : List (Key × V), valV (dropK hv k) j = if j = k then none else valV hv j
  | [] => by unfold dropK; rw [List.filter_nil, valV_nil]; split <;> rfl
  | p :: hv => by
    by_cases e : p.1 = k
    · rw [dropK_pos e, valV_drop k j hv]
      by_cases z : j = k
      · rw [if_pos z, if_pos z]
      · rw [if_neg z, if_neg z, valV_neg (fun y => z (by rw [← y, e]))]
    · rw [dropK_neg e]
      by_cases y : p.1 = j
      · rw [valV_pos y, if_neg (fun z => e (by rw [y, z])), valV_pos y]
      · rw [valV_neg y, valV_neg y, valV_drop k j hv]
theorem HandF.drop {m : Nat} {hv : List (Key × V)} {f : HF} {c : Nat} (h : HandF K G m hv f) : HandF K G m (dropK hv (Sum.inl (c : Int))) (fun x => if x = c then none else f x) := by
  refine ⟨?_, fun q hq => h.key q (List.mem_filter.mp hq).1, fun x hx => ?_, fun x q hx => ?_⟩
  · exact h.nd.sublist ((List.filter_sublist).map _)
  · rw [valV_drop]
    by_cases e : x = c
    · rw [e, if_pos rfl]
    · rw [if_neg (inl_ne e)]
      rw [if_neg e] at hx
      exact h.non x hx
  · rw [valV_drop]
    by_cases e : x = c
    · rw [if_pos e] at hx; cases hx
    · rw [if_neg (inl_ne e)]
      rw [if_neg e] at hx
      exact h.val x q hx
theorem HandF.in_ {m : Nat} {hv : List (Key × V)} {f : HF} (h : HandF K G m hv f) (c : Nat) : (valV hv (Sum.inl (c : Int))).isSome = (f c).isSome := by
  cases e : f c with
  | none => rw [h.non c e]; rfl
  | some p =>
    obtain ⟨v, h1, _⟩ := h.val c p e
    rw [h1]; rfl
/-- the keys of a hand, sorted -/
theorem HandF.keys {m : Nat} {hv : List (Key × V)} {f : HF} (h : HandF K G m hv f) : ∃ ks : List Nat, hv.map (·.1) = (ks.map fun (c : Nat) => (c : Int)).map Sum.inl ∧ ks.Nodup ∧ (∀ c, c ∈ ks → c < m) ∧ (∀ c, c ∈ ks ↔ (f c).isSome = true) ∧ ks.length ≤ m := by
  have hk : ∀ l : List (Key × V), (∀ p, p ∈ l → ∃ c : Nat, c < m ∧ p.1 = Sum.inl (c : Int)) → ∃ ks : List Nat, l.map (·.1) = (ks.map fun (c : Nat) => (c : Int)).map Sum.inl ∧ ∀ c, c ∈ ks → c < m := fun l => by
    induction l with
    | nil => exact fun _ => ⟨[], rfl, fun _ z => nomatch z⟩
    | cons p l ih =>
      intro q
      obtain ⟨ks, h1, h2⟩ := ih fun x hx => q x (List.mem_cons_of_mem _ hx)
      obtain ⟨c, h3, h4⟩ := q p List.mem_cons_self
      exact ⟨c :: ks, by rw [List.map_cons, h1, h4]; rfl, fun x hx => by rcases List.mem_cons.mp hx with rfl | hx; exact h3; exact h2 x hx⟩
  obtain ⟨ks, h1, h2⟩ := hk hv h.key
  have hn : ks.Nodup := by
    have := h.nd
    rw [h1, List.map_map] at this
    exact List.Pairwise.of_map _ (fun a b z e => z (by rw [e])) this
  have hm : ∀ c, c ∈ ks ↔ (f c).isSome = true := fun c => by
    rw [← h.in_ c]
    constructor
    · intro hc
      have : (Sum.inl (c : Int) : Key) ∈ hv.map (·.1) := by rw [h1, List.map_map]; exact List.mem_map.mpr ⟨c, hc, rfl⟩
      cases e : valV hv (Sum.inl (c : Int)) with
      | none => exact absurd this (valV_not e)
      | some v => rfl
    · intro hc
      obtain ⟨v, e⟩ := Option.isSome_iff_exists.mp hc
      have := valV_in e
      rw [h1, List.map_map] at this
      obtain ⟨d, hd, ed⟩ := List.mem_map.mp this
      have : d = c := by have : (d : Int) = (c : Int) := Sum.inl.inj ed; omega
      rw [← this]; exact hd
  exact ⟨ks, h1, hn, h2, hm, nodup_lt_len m ks hn h2⟩
theorem keys_sorted {m : Nat} {f : HF} {ks l : List Nat} (hn : ks.Nodup) (hm : ∀ c, c ∈ ks → c < m) (hf : ∀ c, c ∈ ks ↔ (f c).isSome = true) (hp : l.Perm ks) (hs : l.Pairwise (· ≤ ·)) : l = (List.range m).filter fun c => (f c).isSome := by
  refine nat_sorted_eq (hp.trans ?_) hs ((List.pairwise_lt_range).imp (fun h => Nat.le_of_lt h) |>.filter _)
  refine (List.perm_ext_iff_of_nodup hn (List.nodup_range.filter _)).mpr fun c => ?_
  rw [List.mem_filter, List.mem_range, hf]
  exact ⟨fun hc => ⟨hm c ((hf c).mpr hc), hc⟩, fun hc => hc.2⟩
/-- sorted(hand) -/
theorem sorted_hand {m : Nat} {hv : List (Key × V)} {f : HF} {a : Addr} {R : KR} (h : HandF K G m hv f) (ha : At G M a (.dK hv)) (hm : m ≤ 32) (q : ∀ p, Fr G M p → R (.ref p) G ((p, .lst (natsV ((List.range m).filter fun c => (f c).isSome))) :: M)) : kSortedD [.ref a] G M R := by
  obtain ⟨ks, h1, h2, h3, h4, h5⟩ := h.keys
  refine ⟨hv, ks.map fun (c : Nat) => (c : Int), ha, h1, by rw [List.length_map]; omega, fun ys p pm pw fp => ?_⟩
  obtain ⟨l, rfl⟩ := ints_nats (ys := ys) fun y hy => by
    obtain ⟨c, _, rfl⟩ := List.mem_map.mp (pm.mem_iff.mp hy)
    exact Int.natCast_nonneg _
  have e := keys_sorted h2 h3 h4 (perm_nats pm) ((List.pairwise_map.mp pw).imp fun {a b} h => by omega)
  rw [natsV_ints, e]
  exact q p fp
end
section
variable {K : PySem.W.Frag} {vs : List V} {G : Hp} {M : Mem} {R : KR} {Z : KX}
theorem BodyI.ex {G' : Hp} {A : BodyA} {m high : Nat} {fs : List Nat} {th : Th} {f : HF} {xs : List V} {hv : List (Key × V)} (e : Ex G G') (h : BodyI K G A m high fs th f xs hv) : BodyI K G' A m high fs th f xs hv :=
  ⟨ex_l e h.sf, h.fl, ex_ds e _ h.sx, h.sv.ex e, h.tl, h.tm, h.hi, h.m1⟩
theorem HandF.len {m : Nat} {hv : List (Key × V)} {f : HF} (h : HandF K G m hv f) : hv.length ≤ m := by
  obtain ⟨ks, h1, _, _, _, h5⟩ := h.keys
  have := congrArg List.length h1
  rw [List.length_map, List.length_map, List.length_map] at this
  omega
theorem filter_take_two {l : List V} : cutV l none (some 2) = l.take 2 := cut_take (k := 2)
theorem node_lt {high d leaf : Nat} (hd : d ≤ high) (hl : leaf < 2 ^ high) : 2 * nodeN high d leaf + 1 < 2 * (2 * 2 ^ high - 1) := by
  unfold nodeN
  have h1 : leaf / 2 ^ (high - d) < 2 ^ d := by
    rw [Nat.div_lt_iff_lt_mul (Nat.two_pow_pos _), ← Nat.pow_add, show d + (high - d) = high by omega]; exact hl
  have h2 : 2 ^ d ≤ 2 ^ high := Nat.pow_le_pow_right (by decide) hd
  have h3 : 1 ≤ 2 ^ d := Nat.one_le_two_pow
  omega
theorem ent_get {xs : List V} {th : Th} {r : Nat} (h : DpAll K G xs (th.map entD)) (hr : r < th.length) : ∃ v, xs[r]? = some v ∧ Dp K G v (entD (th.getD r none)) := by
  have e : th[r]? = some (th.getD r none) := by rw [List.getD_eq_getElem?_getD, List.getElem?_eq_getElem hr]; rfl
  exact dpall_get (d := entD (th.getD r none)) h (by rw [List.getElem?_map, e]; rfl)
theorem ent_none {v : V} (h : Dp K G v (entD none)) : v = .non := by cases h; rfl
theorem ent_some {v : V} {e : Nat × Nat × Nat} (h : Dp K G v (entD (some e))) : ∃ T, v = .ref T ∧ SqT K G T [.int e.1, .int e.2.1, .int e.2.2] := by
  obtain ⟨T, xs, rfl, s, a⟩ := dp_tup_inv h
  have e2 : xs = [V.int e.1, V.int e.2.1, V.int e.2.2] := dpall_ints_inv (ns := [(e.1 : Int), e.2.1, e.2.2]) a
  subst e2
  exact ⟨T, rfl, s⟩
theorem lookW_succ (th : Th) (high leaf : Nat) (f : HF) (k : Nat) : lookW th high leaf f (k + 1) = lookR th (lookR th (lookW th high leaf f k) (2 * nodeN high k leaf)) (2 * nodeN high k leaf + 1) := by
  unfold lookW; rw [List.range_succ, List.foldl_append]; rfl
theorem lookT_succ (num high leaf k : Nat) : lookT num high leaf (k + 1) = lookT num high leaf k ++ [⟨false, num, 2 * nodeN high k leaf⟩, ⟨false, num, 2 * nodeN high k leaf + 1⟩] := by
  unfold lookT; rw [List.range_succ, List.flatMap_append]; simp
theorem lookT_len (num high leaf k : Nat) : (lookT num high leaf k).length = 2 * k := by
  induction k with
  | zero => rfl
  | succ k ih => rw [lookT_succ, List.length_append, ih]; show 2 * k + 2 = _; omega
theorem layT_succ (num high leaf k : Nat) : layT num high leaf (k + 1) = layT num high leaf k ++ [⟨true, num, 2 * nodeN high (high - k) leaf⟩, ⟨true, num, 2 * nodeN high (high - k) leaf + 1⟩] := by
  unfold layT; rw [List.range_succ, List.flatMap_append]; simp
theorem layT_len (num high leaf k : Nat) : (layT num high leaf k).length = 2 * k := by
  induction k with
  | zero => rfl
  | succ k ih => rw [layT_succ, List.length_append, ih]; show 2 * k + 2 = _; omega
theorem layW_succ (m high leaf : Nat) (s : Th × HF) (k : Nat) : layW m high leaf s (k + 1) = layD m high leaf (layW m high leaf s k) (high - k) := by
  unfold layW; rw [List.range_succ, List.foldl_append]; rfl
def rmC (f : HF) : Option Nat → HF
  | some c => fun x => if x = c then none else f x
  | none => f
theorem dpall_setT : ∀ {vs : List V} {ds : List PyData} {i : Nat} {v : V} {d : PyData}, DpAll K G vs ds → Dp K G v d → DpAll K G (vs.set i v) (ds.set i d)
  | _, _, _, _, _, .nil, _ => .nil
  | _, _, 0, _, _, .cons _ b, h => .cons h b
  | _, _, i + 1, _, _, .cons a b, h => .cons a (dpall_setT b h)
theorem BodyI.lay {A : BodyA} {m high r : Nat} {fs : List Nat} {th : Th} {f f' : HF} {xs : List V} {hv hv' : List (Key × V)} {e : Option (Nat × Nat × Nat)} {v : V} (hi : BodyI K G A m high fs th f xs hv) (hv2 : HandF K G m hv' f') (hd : Dp K G v (entD e)) (he : ∀ x, e = some x → x.1 < m) : BodyI K G A m high fs (th.set r e) f' (xs.set r v) hv' :=
  ⟨hi.sf, hi.fl, by rw [List.map_set]; exact dpall_setT hi.sx hd, hv2, by rw [List.length_set]; exact hi.tl, fun r' x hx => by
    rw [List.getElem?_set] at hx
    split at hx
    · split at hx
      · exact he x (Option.some.inj hx)
      · cases hx
    · exact hi.tm r' x hx, hi.hi, hi.m1⟩
theorem fits_mem {m high d node : Nat} {f : HF} {c : Nat} (h : c ∈ fitsN m high d node f) : c < m ∧ (f c).isSome = true := by
  have := List.mem_of_mem_take h
  rw [List.mem_filter, List.mem_range] at this
  refine ⟨this.1, ?_⟩
  have h2 := this.2
  unfold fitB at h2
  cases e : f c with
  | none => rw [e] at h2; cases h2
  | some p => rfl
theorem fits_nodup {m high d node : Nat} {f : HF} : (fitsN m high d node f).Nodup := (List.nodup_range.filter _).sublist (List.take_sublist _ _)
theorem fits_len {m high d node : Nat} {f : HF} : (fitsN m high d node f).length ≤ 2 := by unfold fitsN; rw [List.length_take]; omega
end

section
variable {K : PySem.W.Frag} {vs : List V} {G : Hp} {M : Mem} {R : KR} {Z : KX}
/-! stairs -/
theorem roomsSg_len (b : Bool) (m st : Nat) : (roomsSg b m st).length = roomsN m st := by unfold roomsSg; rw [List.length_map, List.length_range]
theorem slotsN_len (m c n : Nat) (s : ClM) : (slotsN m c n s).length ≤ lastN m + 1 := by
  unfold slotsN
  exact Nat.le_trans (List.length_filterMap_le _ _) (by rw [List.length_range]; exact Nat.le_refl _)
theorem items_len {β : Type} (f : β → List Sg) (h : ∀ x, (f x).length = 2) : ∀ l : List β, (l.flatMap f).length = 2 * l.length
  | [] => rfl
  | x :: l => by rw [List.flatMap_cons, List.length_append, h, items_len f h l, List.length_cons]; omega
/-! all ways -/
theorem wayV_str (s : Wy) : wayV (.str s.str) = true := by cases s <;> decide +kernel
/-! touches of signs -/
theorem ToldV.ex {G' : Hp} {v : V} {d : Dr} (e : Ex G G') (h : ToldV K G v d) : ToldV K G' v d := by
  cases d with
  | leaf n => exact h
  | row l =>
    obtain ⟨b, e1, e2⟩ := h
    exact ⟨b, e1, ex_l e e2⟩
theorem cut1_3 (x a b c : V) : cutV [x, a, b, c] (some 1) none = [a, b, c] := rfl
theorem txt_shuf (k : Kn) : decide (V.str k.txt = .str "shuffle") = !k.leaf := by
  obtain ⟨l, n⟩ := k
  cases l
  · exact (by decide +kernel : decide (V.str "shuffle" = .str "shuffle") = true)
  · exact (by decide +kernel : decide (V.str "leaf" = .str "shuffle") = false)
theorem a2_getD {α β : Type} {r : α → β → Prop} {as : List α} {bs : List β} (h : A2 r as bs) {i : Nat} {a : α} (e : as[i]? = some a) (z : β) : bs[i]? = some (bs.getD i z) ∧ r a (bs.getD i z) := by
  obtain ⟨b, hb, hr⟩ := h.get' e
  rw [List.getD_eq_getElem?_getD, hb]
  exact ⟨rfl, hr⟩
theorem pf_touch_of (h : S_touch_of K vs G M R Z) : rd_touch_of K (ends R Z) (sta 4 vs) G M := by
  obtain ⟨_, _, _, rfl, a, t, b, uk, ut, ks, drs, s, rfl, rfl, rfl, hk, hkd, hko, ht, hu, hud, hok, hs, q⟩ := sp3_of h
  clear h
  cases s with
  | room b0 sh r =>
    refine ⟨G, M, Wk.refl, _, _, tup_g ht, rfl, G, M, Wk.refl, _, ht, fun z => ?_, fun _ p fp => ?_⟩
    · have : ¬ (HT.sIx 4 0 (some 1) = 0 ∧ HT.sIx 4 4 none = 4) := by decide
      exact absurd z this
    · exact ret0 (q p _ (Ex.new fp) sqt_new)
  | item b0 sh d i =>
    obtain ⟨n, hkn, hi⟩ := hs
    obtain ⟨hd1, hd2⟩ := a2_getD hok hkn (.leaf 0)
    obtain ⟨o, ho, hto⟩ := hud.get hd1
    obtain ⟨dr, hdr⟩ : ∃ dr, dr = drs.getD d (.leaf 0) := ⟨_, rfl⟩
    have eq : tchOf ks drs (.item b0 sh d i) = ⟨b0, sh, (orderOf (rowD dr)).getD i 0⟩ := by rw [hdr]; rfl
    rw [eq] at q
    rw [← hdr] at hd2 hto
    cases dr with
    | leaf x => have := hd2.1; cases this
    | row l =>
      obtain ⟨o, rfl, hol⟩ := hto
      have hll : l.length = n := hd2.2.1
      have hil : i < (orderOf l).length := by rw [order_len hd2.2.2]; omega
      refine ⟨G, M, Wk.refl, _, _, tup_g ht, rfl, G, M, Wk.refl, _, _, tup_g ht, rfl, G, M, Wk.refl, _, _, tup_g ht, rfl, _, _, tup_g ht, rfl, _, _, tup_g ht, rfl, _, _, .inl hu, atI_nat ho, _, _, tup_g ht, rfl, _, _, lst_g hol, atI_natD hil, sz3, fun T fT => ret0 (q T _ (Ex.new fT) sqt_new)⟩
  | way b0 sh d p e =>
    obtain ⟨hh, hkn, hp, he⟩ := hs
    obtain ⟨hd1, hd2⟩ := a2_getD hok hkn (.leaf 0)
    obtain ⟨o, ho, hto⟩ := hud.get hd1
    obtain ⟨dr, hdr⟩ : ∃ dr, dr = drs.getD d (.leaf 0) := ⟨_, rfl⟩
    have ekn : ks.getD d ⟨true, 0⟩ = ⟨true, hh⟩ := by rw [List.getD_eq_getElem?_getD, hkn]; rfl
    have eq : tchOf ks drs (.way b0 sh d p e) = ⟨b0, sh, 2 * nodeN hh p (leafD dr) + e⟩ := by
      show (⟨b0, sh, 2 * nodeN (ks.getD d ⟨true, 0⟩).n p (leafD (drs.getD d (.leaf 0))) + e⟩ : Tch) = _
      rw [ekn, hdr]
    rw [eq] at q
    rw [← hdr] at hd2 hto
    have h6 : hh ≤ 6 := (hko _ (List.mem_of_getElem? hkn)).2.1 rfl
    obtain ⟨kv, hkv, hkvd⟩ := dpall_get hkd (i := d) (d := knD ⟨true, hh⟩) (by rw [List.getElem?_map, hkn]; rfl)
    obtain ⟨kt, rfl, hkt⟩ := dp_kn_inv hkvd
    cases dr with
    | row l => have := hd2.1; cases this
    | leaf x =>
      obtain rfl : o = .int x := hto
      refine ⟨G, M, Wk.refl, _, _, tup_g ht, rfl, G, M, Wk.refl, _, _, tup_g ht, rfl, G, M, Wk.refl, _, _, tup_g ht, rfl, _, _, .inl hk, atI_nat hkv, _, _, tup_g hkt, rfl, _, _, tup_g ht, rfl, _, _, tup_g ht, rfl, _, _, .inl hu, atI_nat ho, hh, p, x, rfl, rfl, rfl, hp, h6, ?_⟩
      exact ⟨G, M, Wk.refl, _, _, tup_g ht, rfl, _, _, tup_g ht, rfl, _, _, tup_g ht, rfl, nodeN hh p x, e, rfl, rfl, sz3, fun T fT => ret0 (q T _ (Ex.new fT) sqt_new)⟩
theorem pf_told_by (h : S_told_by K vs G M R Z) : rd_told_by K (ends R Z) (sta 4 vs) G M := by
  obtain ⟨_, _, rfl, a, b, uk, ks, drs, rfl, rfl, hk, hkd, hko, hb, hok, hl, q⟩ := sp2_of h
  obtain ⟨ud, hu, hd⟩ := hb
  have hul : uk.length = ks.length := by rw [dpall_len hkd, List.length_map]
  have hdl : ud.length = drs.length := hd.len
  have hkl := hok.len
  have en : min uk.length ud.length = drs.length := by omega
  refine ⟨G, M, Wk.refl, uk, ud, hk, hu, sz (by show min uk.length ud.length ≤ _; omega), fun i acc G' M' => Ex G G' ∧ M' = M ∧ A2 (ToldV K G') acc (drs.take i), ⟨Ex.refl, rfl, .nil⟩, ?_, ?_, ?_⟩
  · rintro i acc G' M' _ ⟨ex, rfl, _⟩; exact ⟨lat_ex ex hk, lat_ex ex hu⟩
  · rintro i acc G' M' D hi hacc ⟨ex, hM, ha⟩ fD
    subst hM
    have hi : i < min uk.length ud.length := hi
    rw [en] at hi
    obtain ⟨k, hki⟩ : ∃ k, ks[i]? = some k := ⟨_, List.getElem?_eq_getElem (by omega)⟩
    obtain ⟨d, hdi, hokd⟩ := hok.get' hki
    obtain ⟨u, hui, hud⟩ := hd.get hdi
    obtain ⟨kv, hkv, hkvd⟩ := dpall_get hkd (i := i) (d := knD k) (by rw [List.getElem?_map, hki]; rfl)
    obtain ⟨kt, rfl, hkt⟩ := dp_kn_inv hkvd
    refine asg_Z hkv hui ⟨rfl, ?_⟩
    refine ⟨_, _, tup_g (ex_t ex hkt), rfl, ?_⟩
    show if decide (V.str k.txt = .str "shuffle") = true then _ else _
    rw [txt_shuf]
    cases d with
    | leaf n =>
      have e1 : k.leaf = true := hokd.1
      rw [e1]
      obtain rfl : u = .int n := hud
      refine ⟨G', _, Wk.refl, ex, rfl, ?_⟩
      rw [take_succ' hdi]
      exact ha.app (.cons rfl .nil)
    | row l =>
      have e1 : k.leaf = false := hokd.1
      rw [e1]
      obtain ⟨o, rfl, ho⟩ := hud
      have hlen : l.length ≤ 1000 := by have := hokd.2.1; have := (hko _ (List.mem_of_getElem? hki)).1; omega
      refine ⟨o, l, rfl, lat_cons (lat_ex ex ho), hokd.2.2, hlen, fun t ft => ?_⟩
      have et := Ex.new (o := .lst (natsV (orderOf l))) ft
      refine ⟨_, _, Wk.frz0, ex.trans et, rfl, ?_⟩
      rw [take_succ' hdi]
      exact (ha.mono fun _ _ z => z.ex et).app (.cons ⟨t, rfl, sql_new⟩ .nil)
  · rintro acc G' M' t ⟨ex, rfl, ha⟩ hacc ft
    have ha : A2 (ToldV K G') acc (drs.take (min uk.length ud.length)) := ha
    rw [en, List.take_length] at ha
    exact ret0 (q t acc G' ex ha)
theorem pf_seen_by (h : S_seen_by K vs G M R Z) : rd_seen_by K (ends R Z) (sta 5 vs) G M := by
  obtain ⟨_, _, _, rfl, a, s, b, uk, us, ks, sg, drs, rfl, rfl, rfl, hk, hkd, hko, hu, hud, hb, hok, hl, hsl, hs, q⟩ := sp3_of h
  have hul : us.length = sg.length := by rw [dpall_len hud, List.length_map]
  refine ⟨G, M, Wk.refl, a, b, uk, ks, drs, rfl, rfl, hk, hkd, hko, hb, hok, hl, fun t ut G1 ex1 hut => ?_⟩
  refine ⟨G1, _, Wk.refl, us, lat_cons (lat_ex ex1 hu), sz (by show us.length ≤ _; omega), fun i acc G' M' => Ex G1 G' ∧ M' = (t, .lst ut) :: M ∧ DpAll K G' acc (((sg.take i).map (tchOf ks drs)).map tchD), ⟨Ex.refl, rfl, .nil⟩, ?_, ?_, ?_⟩
  · rintro i acc G' M' _ ⟨ex, rfl, _⟩; exact lat_cons (lat_ex (ex1.trans ex) hu)
  · rintro i acc G' M' D hi hacc ⟨ex, rfl, ha⟩ fD
    have hi : i < us.length := hi
    obtain ⟨g, hg⟩ : ∃ g, sg[i]? = some g := ⟨_, List.getElem?_eq_getElem (by omega)⟩
    obtain ⟨v, hv, hvd⟩ := dpall_get hud (i := i) (d := sgD g) (by rw [List.getElem?_map, hg]; rfl)
    obtain ⟨T, rfl, hT⟩ := sg_inv hvd
    have ex2 := ex1.trans ex
    refine asg_L hv ⟨rfl, a, T, t, uk, ut, ks, drs, g, rfl, rfl, rfl, lat_cons (lat_cons (lat_ex ex2 hk)), ex_ds ex2 _ hkd, hko, ex_t ex2 hT, lat_cons lat_0, hut.mono fun _ _ z => z.ex ex, hok, hs g (List.mem_of_getElem? hg), fun T2 G2 ex3 hT2 => ?_⟩
    refine ⟨G2, _, Wk.refl, ex.trans ex3, rfl, ?_⟩
    rw [take_succ' hg, List.map_append, List.map_append]
    exact dpall_app2 (ex_ds ex3 _ ha) (.cons (dp_tch hT2) .nil)
  · rintro acc G' M' p ⟨ex, rfl, ha⟩ hacc fp
    have ha : DpAll K G' acc (((sg.take us.length).map (tchOf ks drs)).map tchD) := ha
    rw [hul, List.take_length] at ha
    exact retW Wk.drop1 (q p acc G' (ex1.trans ex) ha)
end

section
variable {K : PySem.W.Frag} {vs : List V} {G : Hp} {M : Mem} {R : KR} {Z : KX}
theorem eqv_si {s t : Str} {i j : Int} : PyData.eqv (.tuple [.str s, .int i]) (.tuple [.str t, .int j]) = (decide (s = t) && decide (i = j)) := by
  show ((s == t) && ((i == j) && true)) = _
  rw [Bool.and_true]
  by_cases e1 : s = t <;> by_cases e2 : i = j <;> simp [e1, e2]
theorem kn_txt_inj {a b : Kn} (h : a.txt = b.txt) : a.leaf = b.leaf := by
  have h1 := txt_leaf a
  have h2 := txt_leaf b
  rw [h] at h1
  rw [← h1, ← h2]
theorem kn_ext {a b : Kn} (h1 : a.leaf = b.leaf) (h2 : a.n = b.n) : a = b := by
  obtain ⟨x, y⟩ := a
  obtain ⟨z, w⟩ := b
  have h1 : x = z := h1
  have h2 : y = w := h2
  rw [h1, h2]
theorem eqv_kn_ne {a b : Kn} (h : a ≠ b) : PyData.eqv (knD a) (knD b) = false := by
  show PyData.eqv (.tuple [.str a.txt, .int a.n]) (.tuple [.str b.txt, .int b.n]) = false
  rw [eqv_si]
  by_cases e1 : a.txt = b.txt
  · have e2 : ¬ (a.n : Int) = b.n := fun e2 => h (kn_ext (kn_txt_inj e1) (by omega))
    rw [decide_eq_false e2, Bool.and_false]
  · rw [decide_eq_false e1, Bool.false_and]
theorem shp_kn (k : Kn) : Shp 1 (knD k) := by
  have h := shp_kns (n := 0) [k]
  cases h with
  | list h => exact h _ List.mem_cons_self
theorem eqv_kn_refl (a : Kn) : PyData.eqv (knD a) (knD a) = true := (shp_kn a).refl
theorem ret_false {c : Bool} {D : Kd} {σ : St} {G : Hp} {M : Mem} {u : KS} (hc : c = true) (h : D.rt (.bl false) G M) : (if c = true then (kSeq (kRet (kC (.bl false))) kNext) D σ G M else u D σ G M) := by
  rw [if_pos hc]; exact ⟨G, M, Wk.refl, h⟩
theorem kn_get {a : Addr} {ks : List Kn} {i : Nat} {k : Kn} (h : KnAt K G M a ks) (e : ks[i]? = some k) : ∃ us v, LstAt K G M a us ∧ us[i]? = some v ∧ Dp K G v (knD k) ∧ us.length = ks.length := by
  obtain ⟨us, h1, h2, _⟩ := h
  obtain ⟨v, hv, hd⟩ := dpall_get h2 (i := i) (d := knD k) (by rw [List.getElem?_map, e]; rfl)
  exact ⟨us, v, h1, hv, hd, by rw [dpall_len h2, List.length_map]⟩
theorem pf_is_part (h : S_is_part K vs G M R Z) : rd_is_part K (ends R Z) (sta 4 vs) G M := by
  obtain ⟨_, _, z, rfl, a, ks, i, k, b, rfl, hk, rfl, hi, hz, q⟩ := sp3_of h
  clear h
  rcases hz with ⟨T, hT, hne, rfl⟩ | ⟨t, xs, rfl, ht, hx, hh⟩
  · refine ⟨G, M, Wk.refl, isi_pt PT.tuple hT ?_⟩
    cases T <;> first
      | exact absurd rfl hne
      | exact ⟨G, M, Wk.refl, ret0 q⟩
  obtain ⟨us, vk, hu, hvk, hdk, hul⟩ := kn_get hk hi
  refine ⟨G, M, Wk.refl, isi_pt PT.tuple (ty_tup ht) ?_⟩
  refine ⟨xs, .inr ht, ?_⟩
  show if (!decide (V.int (xs.length : Int) = .int 2)) = true then _ else _
  rcases hh with ⟨h2, rfl⟩ | ⟨u, w, rfl, ⟨T, hT, hTi⟩, hh⟩
  · have e : (!decide (V.int (xs.length : Int) = .int 2)) = true := by
      rw [decide_eq_false]; · rfl
      · intro z; injection z with z; omega
    rw [if_pos e]
    exact ⟨G, M, Wk.refl, ret0 q⟩
  have e : (!decide (V.int (([u, w] : List V).length : Int) = .int 2)) = false := by
    rw [decide_eq_true (show V.int (([u, w] : List V).length : Int) = .int 2 from rfl)]; rfl
  rw [if_neg (by rw [e]; exact Bool.false_ne_true)]
  refine ⟨[u, w], u, .inr ht, atI_nat (j := 0) rfl, us, .inl hu, T, 0, (us.length : Int) - 1, rfl, rfl, hT, hTi, ?_⟩
  show if (!withinV u 0 ((us.length : Int) - 1)) = true then _ else _
  rw [hul]
  rcases hh with ⟨hw, rfl⟩ | ⟨s, k', rfl, hs, hh⟩
  · rw [hw]; exact ⟨G, M, Wk.refl, ret0 q⟩
  have hsl := (List.getElem?_eq_some_iff.mp hs).1
  have hin : withinV (.int (s : Int)) 0 ((ks.length : Int) - 1) = true := wi_in (by omega) (by omega)
  rw [hin]
  obtain ⟨us2, vs2, hu2, hvs2, hds2, _⟩ := kn_get hk hs
  refine ⟨G, M, Wk.refl, us, vk, .inl hu, atI_nat hvk, ?_⟩
  obtain ⟨t1, rfl, ht1⟩ := dp_kn_inv hdk
  obtain ⟨t2, rfl, ht2⟩ := dp_kn_inv hds2
  refine ⟨G, M, Wk.refl, [.int (s : Int), w], .int (s : Int), .inr ht, atI_nat (j := 0) rfl, us2, .ref t2, .inl hu2, atI_nat hvs2, ?_⟩
  refine ⟨knD k', knD k, dat_g hds2, dat_g hdk, (shp_kn k').shaped (by decide), (shp_kn k).shaped (by decide), ?_⟩
  show if (!PyData.eqv (knD k') (knD k)) = true then _ else _
  rcases hh with ⟨hne, rfl⟩ | ⟨rfl, hlf, hrw⟩
  · rw [eqv_kn_ne hne]; exact ⟨G, M, Wk.refl, ret0 q⟩
  rw [eqv_kn_refl]
  refine ⟨G, M, Wk.refl, [.str k'.txt, .int k'.n], .str k'.txt, .inr ht1, atI_nat (j := 0) rfl, ?_⟩
  show if decide (V.str k'.txt = .str "leaf") = true then _ else _
  rw [txt_leaf]
  cases hl : k'.leaf with
  | true =>
    refine ⟨G, M, Wk.refl, [.int (s : Int), w], w, .inr ht, atI_nat (j := 1) rfl, ?_⟩
    have hb := hlf hl
    subst hb
    have hz : kIs2 false w .non G M (fun v G M => wkR R v G M) := by
      cases w <;> exact ret0 q
    exact hz
  | false =>
    have hb := hrw hl
    refine ⟨G, M, Wk.refl, [.int (s : Int), w], w, .inr ht, atI_nat (j := 1) rfl, ?_⟩
    rcases hb with ⟨U, hU, hnU, rfl⟩ | ⟨c, ys, rfl, hc, h1000, hit, rfl⟩
    · exact ⟨false, .inl ⟨U, hU, hnU, rfl⟩, ret0 q⟩
    · refine ⟨orderB ys, .inr ⟨c, ys, rfl, hc, h1000, hit, rfl⟩, ?_⟩
      cases ho : orderB ys with
      | false => rw [ho] at q; exact ret0 q
      | true =>
        rw [ho] at q
        refine ⟨[.int (s : Int), .ref c], .ref c, .inr ht, atI_nat (j := 1) rfl, ys, .inl hc, [.str k'.txt, .int k'.n], .int k'.n, .inr ht1, atI_nat (j := 1) rfl, ?_⟩
        show wkR R (.bl (decide (V.int (ys.length : Int) = .int (k'.n : Int)))) G M
        have e3 : decide (V.int (ys.length : Int) = .int (k'.n : Int)) = decide (ys.length = k'.n) := by
          rw [Bool.eq_iff_iff, decide_eq_true_eq, decide_eq_true_eq]
          constructor
          · intro e; injection e with e; omega
          · intro e; rw [e]
        rw [e3]
        exact ret0 q
theorem nodup_ints (l : List Nat) : (l.map fun (n : Nat) => (n : Int)).Nodup ↔ l.Nodup := by
  constructor
  · intro h
    rw [List.Nodup, List.pairwise_map] at h
    exact h.imp fun {a b} ne e => ne (by rw [e])
  · intro h
    rw [List.Nodup, List.pairwise_map]
    exact List.Pairwise.imp (fun {a b} ne e => ne (by omega)) h
theorem a2_at {α β : Type} {r : α → β → Prop} {as : List α} {bs : List β} (h : A2 r as bs) {i : Nat} {a : α} {b : β} (ha : as[i]? = some a) (hb : bs[i]? = some b) : r a b := by
  obtain ⟨a', h1, h2⟩ := h.get hb
  rw [ha] at h1; cases h1; exact h2
theorem pf_is_paper (h : S_is_paper K vs G M R Z) : rd_is_paper K (ends R Z) (sta 4 vs) G M := by
  obtain ⟨_, z, rfl, a, ks, b, rfl, hk, hz, q⟩ := sp2_of h
  clear h
  obtain ⟨us, hu, hd, hkn, hkl⟩ := hk
  have hul := dpall_len hd
  rw [List.length_map] at hul
  have hk : KnAt K G M a ks := ⟨us, hu, hd, hkn, hkl⟩
  rcases hz with ⟨T, hT, hne, rfl⟩ | ⟨p, zs, rfl, hp, hzl, hh⟩
  · refine ⟨G, M, Wk.refl, isi_pt PT.list hT ?_⟩
    cases T <;> first
      | exact absurd rfl hne
      | exact ⟨G, M, Wk.refl, ret0 q⟩
  refine ⟨G, M, Wk.refl, isi_pt PT.list (ty_lst hp) ⟨zs, .inl hp, us, .inl hu, ?_⟩⟩
  show if (!decide (V.int (zs.length : Int) = .int (us.length : Int))) = true then _ else _
  have eb : decide (V.int (zs.length : Int) = .int (us.length : Int)) = decide (zs.length = ks.length) := by
    rw [Bool.eq_iff_iff, decide_eq_true_eq, decide_eq_true_eq, hul]
    constructor
    · intro e; injection e with e; omega
    · intro e; rw [e]
  rw [eb]
  rcases hh with ⟨hne, rfl⟩ | ⟨bs, hl, hbl, hparts, hh⟩
  · rw [decide_eq_false hne]; exact ⟨G, M, Wk.refl, ret0 q⟩
  rw [decide_eq_true hl]
  refine ⟨G, M, Wk.refl, us, .inl hu, by omega, fun i σ G' M' => ∃ y2, σ = [some (.ref a), some (.ref p), y2, none] ∧ G' = G ∧ M' = M ∧ ∀ j c, j < i → bs[j]? = some c → c = true, ⟨none, rfl, rfl, rfl, fun _ _ z => nomatch z⟩, fun _ _ _ _ _ _ => trivial, ?_, ?_⟩
  · rintro i σ G' M' hi ⟨y2, rfl, rfl, rfl, hall⟩
    have hi : i < (us.length : Int).toNat := hi
    have h1 : ks[i]? = some ks[i] := List.getElem?_eq_getElem (by omega)
    have h2 : zs[i]? = some zs[i] := List.getElem?_eq_getElem (by omega)
    have h3 : bs[i]? = some bs[i] := List.getElem?_eq_getElem (by omega)
    refine asg_R (v := (i : Int)) (by omega) ⟨G', M', Wk.refl, zs, zs[i], .inl hp, atI_nat h2, a, ks, i, ks[i], bs[i], rfl, hk, rfl, h1, hparts i _ _ _ h1 h2 h3, ?_⟩
    show if (!bs[i]) = true then _ else _
    cases hb : bs[i] with
    | false =>
      have ef : b = false := by
        rcases hh with ⟨_, e⟩ | ⟨ss, e1, _⟩
        · exact e
        · have := List.all_eq_true.mp e1 bs[i] (List.getElem_mem _)
          rw [hb] at this; cases this
      subst ef
      exact ⟨G', M', Wk.refl, ret0 q⟩
    | true =>
      refine ⟨G', M', Wk.refl, _, rfl, rfl, rfl, fun j c hj hc => ?_⟩
      by_cases e : j = i
      · subst e
        rw [h3] at hc; cases hc; exact hb
      · exact hall j c (by omega) hc
  · rintro σ G' M' ⟨y2, rfl, rfl, rfl, hall⟩
    have ball : bs.all id = true := List.all_eq_true.mpr fun c hc => by
      obtain ⟨j, hj⟩ := List.getElem?_of_mem hc
      exact hall j c (by have := (List.getElem?_eq_some_iff.mp hj).1; show j < (us.length : Int).toNat; omega) hj
    rcases hh with ⟨e1, _⟩ | ⟨ss, _, hss, rfl⟩
    · rw [ball] at e1; cases e1
    have hsl := hss.len
    refine ⟨G', M', Wk.refl, zs, hp, sz (by show zs.length ≤ _; omega), fun i acc G2 M2 => G2 = G' ∧ M2 = M' ∧ acc = natsV (ss.take i), ⟨rfl, rfl, rfl⟩, ?_, ?_, ?_⟩
    · rintro i acc G2 M2 _ ⟨rfl, rfl, _⟩; exact hp
    · rintro i acc G2 M2 X hi hac ⟨hG, rfl, rfl⟩ fX
      subst hG
      have hi : i < zs.length := hi
      obtain ⟨s, hs⟩ : ∃ s, ss[i]? = some s := ⟨_, List.getElem?_eq_getElem (by omega)⟩
      obtain ⟨v, hv, T, w, rfl, hT⟩ := hss.get hs
      refine asg_L hv ⟨rfl, _, _, .inr hT, atI_nat (j := 0) rfl, _, _, Wk.refl, rfl, rfl, ?_⟩
      rw [take_succ' hs]
      unfold natsV; rw [List.map_append]; rfl
    · rintro acc G2 M2 y ⟨hG, rfl, rfl⟩ hac fy
      subst hG
      have en : (srcL K p zs).n = ss.length := hsl
      rw [en, List.take_length] at hac ⊢
      refine ⟨ss.map fun (n : Nat) => (n : Int), by rw [show (ss.map fun (n : Nat) => (n : Int)).map V.int = natsV ss by unfold natsV; rw [List.map_map]; rfl]; exact lat_0, by rw [List.length_map]; omega, fun m hm hiff => ?_⟩
      refine ⟨zs, .inl (lat_cons hp), ?_⟩
      show wkR R (.bl (decide (V.int (m : Int) = .int (zs.length : Int)))) _ _
      have e : decide (V.int (m : Int) = .int (zs.length : Int)) = decide ss.Nodup := by
        rw [Bool.eq_iff_iff, decide_eq_true_eq, decide_eq_true_eq]
        rw [List.length_map] at hiff
        constructor
        · intro e
          injection e with e
          have := hiff.mp (by omega)
          exact (nodup_ints ss).mp this
        · intro e
          have := hiff.mpr ((nodup_ints ss).mpr e)
          rw [this, ← hsl]
      rw [e]
      exact retW Wk.drop0 q
theorem TurnM.more {Mx : Mem} {w : V} {t : Option (List Nat)} (h : TurnM K G M w t) : TurnM K G (Mx ++ M) w t := by
  cases t with
  | none => exact h
  | some l => obtain ⟨b, e, hb⟩ := h; exact ⟨b, e, hb.elim (fun z => .inl (List.mem_append.mpr (.inr z))) .inr⟩
theorem PpM.more {Mx : Mem} {v : V} {pp : Pp} (h : PpM K G M v pp) : PpM K G (Mx ++ M) v pp := by
  obtain ⟨T, w, e, h1, h2⟩ := h
  exact ⟨T, w, e, h1, h2.more⟩
theorem PapM.more {Mx : Mem} {p : Addr} {ps : List Pp} (h : PapM K G M p ps) : PapM K G (Mx ++ M) p ps := by
  obtain ⟨us, h1, h2⟩ := h
  exact ⟨us, h1.elim (fun z => .inl (List.mem_append.mpr (.inr z))) .inr, h2.mono fun _ _ z => z.more⟩
theorem TurnM.ex {G' : Hp} {w : V} {t : Option (List Nat)} (e : Ex G G') (h : TurnM K G M w t) : TurnM K G' M w t := by
  cases t with
  | none => exact h
  | some l => obtain ⟨b, e1, hb⟩ := h; exact ⟨b, e1, lat_ex e hb⟩
theorem PpM.ex {G' : Hp} {v : V} {pp : Pp} (e : Ex G G') (h : PpM K G M v pp) : PpM K G' M v pp := by
  obtain ⟨T, w, e1, h1, h2⟩ := h
  exact ⟨T, w, e1, ex_t e h1, h2.ex e⟩
theorem PapM.ex {G' : Hp} {p : Addr} {ps : List Pp} (e : Ex G G') (h : PapM K G M p ps) : PapM K G' M p ps := by
  obtain ⟨us, h1, h2⟩ := h
  exact ⟨us, lat_ex e h1, h2.mono fun _ _ z => z.ex e⟩
theorem PapM.any {p : Addr} {ps : List Pp} (h : PapM K G [] p ps) : PapM K G M p ps := by
  have := h.more (Mx := M)
  rwa [List.append_nil] at this
theorem ord_nats {n : Nat} {l : List Nat} (h : OrdOk n l) (h1 : 1 ≤ n) (h2 : n ≤ 64) : orderB (natsV l) = true := orderB_nats (by rw [h.len]; exact h) (by rw [h.len]; exact h1) (by rw [h.len]; exact h2)
/-- a good paper is one -/
theorem pap_paperV {p : Addr} {ks : List Kn} {ps : List Pp} (h : PapM K G M p ps) (ho : PapOk ks ps) (hk : ∀ k, k ∈ ks → KnOk k) (h1 : ks.length ≤ 1000) : PaperV K G M ks (.ref p) true := by
  obtain ⟨us, hu, ha⟩ := h
  have hl := ho.len
  have hul := ha.len
  refine .inr ⟨p, us, rfl, hu, by omega, .inr ⟨List.replicate ks.length true, by omega, by rw [List.length_replicate], fun i k v c hi hv hc => ?_, .inr ⟨ps.map (·.src), ?_, ?_, ?_⟩⟩⟩
  · have hc : c = true := by
      rw [List.getElem?_replicate] at hc
      split at hc
      · cases hc; rfl
      · cases hc
    subst hc
    obtain ⟨pp, hp, hpv⟩ := ha.get' hv
    obtain ⟨a1, a2, a3⟩ := a2_at ho.ok hi hp
    obtain ⟨T, w, rfl, hT, hw⟩ := hpv
    have kk := hk k (List.mem_of_getElem? hi)
    refine .inr ⟨T, _, rfl, hT, (by show (2 : Nat) ≤ 100; decide), .inr ⟨_, w, rfl, ⟨.int, ty_int, rfl⟩, .inr ⟨pp.src, k, rfl, a1, .inr ⟨rfl, fun z => ?_, fun z => ?_⟩⟩⟩⟩
    · rw [a2 z] at hw
      obtain rfl : w = .non := hw
      exact (decide_eq_true rfl).symm
    · obtain ⟨l, e1, e2⟩ := a3 z
      rw [e1] at hw
      obtain ⟨b, rfl, hb⟩ := hw
      refine .inr ⟨b, natsV l, rfl, hb, by rw [natsV_len, e2.len]; have := kk.1; omega, ints_ty, ?_⟩
      rw [ord_nats e2 (kk.2.2 z) kk.1, natsV_len, decide_eq_true e2.len]; rfl
  · rw [List.all_eq_true]
    intro x hx
    rw [(List.mem_replicate.mp hx).2]; rfl
  · have : A2 (fun (v : V) (s : Nat) => ∃ T w, v = V.ref T ∧ SqT K G T [.int (s : Nat), w]) us (ps.map (·.src)) := a2_map (fun _ _ ⟨T, w, e, hT, _⟩ => ⟨T, w, e, hT⟩) ha
    exact this
  · exact (decide_eq_true ho.nd).symm
end

section
variable {K : PySem.W.Frag} {vs : List V} {G : Hp} {M : Mem} {R : KR} {Z : KX}
theorem cut13 {a b c : V} {r : List V} : cutV (a :: b :: c :: r) (some 1) (some 3) = [b, c] := by
  unfold cutV
  have e1 : HT.sIx (a :: b :: c :: r).length 0 (some 1) = 1 := by
    rw [show (some (1 : Int)) = some ((1 : Nat) : Int) from rfl, HT.sIx_nat]
    simp only [List.length_cons]; omega
  have e3 : HT.sIx (a :: b :: c :: r).length (a :: b :: c :: r).length (some 3) = 3 := by
    rw [show (some (3 : Int)) = some ((3 : Nat) : Int) from rfl, HT.sIx_nat]
    simp only [List.length_cons]; omega
  rw [e1, e3]; rfl
theorem cut13_not {a b c : V} {r : List V} {A : Prop} (h : HT.sIx (a :: b :: c :: r).length 0 (some 1) = 0 ∧ HT.sIx (a :: b :: c :: r).length (a :: b :: c :: r).length (some 3) = (a :: b :: c :: r).length) : A := by
  have e1 : HT.sIx (a :: b :: c :: r).length 0 (some 1) = 1 := by
    rw [show (some (1 : Int)) = some ((1 : Nat) : Int) from rfl, HT.sIx_nat]
    simp only [List.length_cons]; omega
  rw [e1] at h; exact absurd h.1 (by decide)
theorem deed_inj {a b : Bool} (h : deedS a = deedS b) : a = b := by
  cases a <;> cases b <;> first
    | rfl
    | exact absurd h (by decide)
theorem strok_deed (b : Bool) : PyData.strOk (deedS b) = true := by cases b <;> decide +kernel
theorem shp_si {s : Str} {i : Int} (h : PyData.strOk s = true) : Shp 1 (.tuple [.str s, .int i]) := .tuple fun d hd => by
  rcases List.mem_cons.mp hd with rfl | hd
  · exact .str h
  · rw [List.mem_singleton.mp hd]; exact .int
/-- two signs of one sort, ahead of what is their own -/
theorem led_pre {D : Kd} {T1 T2 : Addr} {p : V} {t1 t2 : Str} {b1 b2 : Bool} {n1 n2 : Nat} {r1 r2 : List V} (h1 : SqT K G T1 (.str t1 :: .str (deedS b1) :: .int (n1 : Nat) :: r1)) (h2 : SqT K G T2 (.str t2 :: .str (deedS b2) :: .int (n2 : Nat) :: r2))
    (qf : ¬ (t1 = t2 ∧ b1 = b2 ∧ n1 = n2) → ∀ G', Ex G G' → D.rt (.bl false) G' M) (qt : t1 = t2 → b1 = b2 → n1 = n2 → ∀ G', Ex G G' → rd_is_led_1 K D [some (.ref T1), some (.ref T2), some p, none, none] G' M) :
    rd_is_led K D [some (.ref T1), some (.ref T2), some p, none, none] G M := by
  refine ⟨G, M, Wk.refl, _, _, .inr h1, atI_nat (j := 0) rfl, _, _, .inr h2, atI_nat (j := 0) rfl, ?_⟩
  show if (!decide (V.str t1 = .str t2)) = true then _ else _
  refine ite2' (fun e => ⟨G, M, Wk.refl, qf (fun z => ?_) G Ex.refl⟩) (fun e => ?_)
  · rw [z.1, decide_eq_true rfl] at e; cases e
  have et : t1 = t2 := by
    cases z : decide (V.str t1 = .str t2) with
    | false => rw [z] at e; cases e
    | true => have := of_decide_eq_true z; injection this
  refine ⟨_, h1, fun z => cut13_not z, fun _ c1 f1 => ?_⟩
  have ex1 := Ex.new (o := .tup (cutV (.str t1 :: .str (deedS b1) :: .int (n1 : Nat) :: r1) (some 1) (some 3))) f1
  refine ⟨_, ex_t ex1 h2, fun z => cut13_not z, fun _ c2 f2 => ?_⟩
  have ex2 := Ex.new (o := .tup (cutV (.str t2 :: .str (deedS b2) :: .int (n2 : Nat) :: r2) (some 1) (some 3))) f2
  obtain ⟨G', hG'⟩ : ∃ G', G' = upd (upd G c1 (.tup (cutV (.str t1 :: .str (deedS b1) :: .int (n1 : Nat) :: r1) (some 1) (some 3)))) c2 (.tup (cutV (.str t2 :: .str (deedS b2) :: .int (n2 : Nat) :: r2) (some 1) (some 3))) := ⟨_, rfl⟩
  have exG : Ex G G' := by rw [hG']; exact ex1.trans ex2
  have s1 : SqT K G' c1 [.str (deedS b1), .int (n1 : Nat)] := by
    have : SqT K (upd G c1 (.tup (cutV (.str t1 :: .str (deedS b1) :: .int (n1 : Nat) :: r1) (some 1) (some 3)))) c1 _ := sqt_new
    rw [cut13] at this
    rw [hG']
    refine ex_t ex2 ?_
    rw [cut13]; exact this
  have s2 : SqT K G' c2 [.str (deedS b2), .int (n2 : Nat)] := by
    have : SqT K G' c2 (cutV (.str t2 :: .str (deedS b2) :: .int (n2 : Nat) :: r2) (some 1) (some 3)) := by rw [hG']; exact sqt_new
    rwa [cut13] at this
  rw [← hG']
  clear hG'
  refine ⟨.tuple [.str (deedS b1), .int (n1 : Nat)], .tuple [.str (deedS b2), .int (n2 : Nat)], dat_tup s1 (dats_cons dat_str (dats_cons dat_int dats_nil)), dat_tup s2 (dats_cons dat_str (dats_cons dat_int dats_nil)), (shp_si (strok_deed b1)).shaped (by decide), (shp_si (strok_deed b2)).shaped (by decide), ?_⟩
  show if (!PyData.eqv (.tuple [.str (deedS b1), .int (n1 : Nat)]) (.tuple [.str (deedS b2), .int (n2 : Nat)])) = true then _ else _
  rw [eqv_si]
  by_cases hb : b1 = b2
  · by_cases hn : n1 = n2
    · rw [decide_eq_true (by rw [hb]), decide_eq_true (by rw [hn])]
      exact qt et hb hn G' exG
    · rw [decide_eq_false (p := (n1 : Int) = (n2 : Int)) (by omega), Bool.and_false]
      exact ⟨G', M, Wk.refl, qf (fun z => hn z.2.2) G' exG⟩
  · rw [decide_eq_false (p := deedS b1 = deedS b2) (fun z => hb (deed_inj z)), Bool.false_and]
    exact ⟨G', M, Wk.refl, qf (fun z => hb z.2.1) G' exG⟩
theorem int_dec {i j : Nat} : decide (V.int (i : Int) = .int (j : Int)) = decide (i = j) := by
  rw [Bool.eq_iff_iff, decide_eq_true_eq, decide_eq_true_eq]
  constructor
  · intro e; injection e with e; omega
  · intro e; rw [e]
theorem sg_differ {a b : Bool} {x y : Nat} {c : Bool} {G' : Hp} {s1 s2 : Sg} {ps : List Pp} (q : ∀ G', Ex G G' → R (.bl (ledB ps s1 s2)) G' M) (e : ledB ps s1 s2 = false) (ex : Ex G G') : wkR R (.bl false) G' M := by
  have := q G' ex
  rw [e] at this
  exact ret0 this
theorem cut4_4 {a b c d : V} {r : List V} (h : r ≠ []) : cutV (a :: b :: c :: d :: r) (some 4) none = r := by
  unfold cutV
  have e1 : HT.sIx (a :: b :: c :: d :: r).length 0 (some 4) = 4 := by
    rw [show (some (4 : Int)) = some ((4 : Nat) : Int) from rfl, HT.sIx_nat]
    simp only [List.length_cons]; omega
  rw [e1, HT.sIx_none]
  show (r.take ((a :: b :: c :: d :: r).length - 4)) = r
  rw [List.take_of_length_le]
  simp only [List.length_cons]; omega
theorem cut4_not {xs : List V} {A : Prop} (h : HT.sIx xs.length 0 (some 4) = 0 ∧ HT.sIx xs.length xs.length none = xs.length) (h6 : xs.length = 6) : A := by
  rw [h6] at h
  exact absurd h.1 (by decide)
theorem shp_ii {i j : Int} : Shp 1 (.tuple [.int i, .int j]) := .tuple fun d hd => by
  rcases List.mem_cons.mp hd with rfl | hd
  · exact .int
  · rw [List.mem_singleton.mp hd]; exact .int
theorem eqv_ii {i j k l : Nat} : PyData.eqv (.tuple [.int (i : Nat), .int (j : Nat)]) (.tuple [.int (k : Nat), .int (l : Nat)]) = (decide (i = k) && decide (j = l)) := by
  show (((i : Int) == (k : Int)) && (((j : Int) == (l : Int)) && true)) = _
  rw [Bool.and_true]
  have f : ∀ a b : Nat, ((a : Int) == (b : Int)) = decide (a = b) := fun a b => by
    rw [Bool.eq_iff_iff, beq_iff_eq, decide_eq_true_eq]; omega
  rw [f, f]
/-- the part of a paper at a draw -/
theorem pap_at {p : Addr} {ks : List Kn} {ps : List Pp} {d : Nat} {k : Kn} (h : PapM K G M p ps) (ho : PapOk ks ps) (e : ks[d]? = some k) : ∃ us v pp, LstAt K G M p us ∧ us[d]? = some v ∧ PpM K G M v pp ∧ ps[d]? = some pp ∧ ps.getD d ⟨0, none⟩ = pp ∧ PpOk ks k pp := by
  obtain ⟨us, h1, h2⟩ := h
  obtain ⟨pp, a1, a2, a3⟩ := ho.at e
  obtain ⟨v, b1, b2⟩ := h2.get a1
  exact ⟨us, v, pp, h1, b1, b2, a1, a2, a3⟩
theorem pf_is_led (h : S_is_led K vs G M R Z) : rd_is_led K (ends R Z) (sta 5 vs) G M := by
  obtain ⟨_, _, _, rfl, T1, T2, p, s1, s2, ks, ps, rfl, rfl, rfl, h1, h2, hp, ho, o1, o2, q⟩ := sp3_of h
  clear h
  have ne1 : ("room" : Str) ≠ "item" := by decide
  have ne2 : ("room" : Str) ≠ "way" := by decide
  have ne3 : ("item" : Str) ≠ "way" := by decide
  have fl : ∀ G', Ex G G' → ledB ps s1 s2 = false → wkR R (.bl false) G' M := fun G' ex e => by
    have := q G' ex
    rw [e] at this; exact ret0 this
  cases s1 with
  | room b s r =>
    cases s2 with
    | item b' s' d' i' => exact led_pre h1 h2 (fun _ G' ex => fl G' ex rfl) (fun e => absurd e ne1)
    | way b' s' d' p' e' => exact led_pre h1 h2 (fun _ G' ex => fl G' ex rfl) (fun e => absurd e ne2)
    | room b' s' r' =>
      refine led_pre h1 h2 (fun hn G' ex => fl G' ex ?_) (fun _ eb es G' ex => ?_)
      · cases z : ledB ps (.room b s r) (.room b' s' r') with
        | false => rfl
        | true =>
          simp only [ledB, Bool.and_eq_true, decide_eq_true_eq] at z
          exact absurd ⟨rfl, z.1, z.2.1⟩ hn
      · subst eb es
        refine ⟨G', M, Wk.refl, _, _, .inr (ex_t ex h1), atI_nat (j := 0) rfl, ?_⟩
        refine ⟨G', M, Wk.refl, _, _, .inr (ex_t ex h1), atI_nat (j := 3) rfl, _, _, .inr (ex_t ex h2), atI_nat (j := 3) rfl, ?_⟩
        show wkR R (.bl (decide (V.int (r : Int) = .int (r' : Int)))) G' M
        rw [int_dec]
        have := q G' ex
        simp only [ledB, decide_true, Bool.true_and] at this
        exact ret0 this
  | item b s d i =>
    cases s2 with
    | room b' s' r' => exact led_pre h1 h2 (fun _ G' ex => fl G' ex rfl) (fun e => absurd e.symm ne1)
    | way b' s' d' p' e' => exact led_pre h1 h2 (fun _ G' ex => fl G' ex rfl) (fun e => absurd e ne3)
    | item b' s' d' i' =>
      refine led_pre h1 h2 (fun hn G' ex => fl G' ex ?_) (fun _ eb es G' ex => ?_)
      · cases z : ledB ps (.item b s d i) (.item b' s' d' i') with
        | false => rfl
        | true =>
          simp only [ledB, Bool.and_eq_true, decide_eq_true_eq] at z
          exact absurd ⟨rfl, z.1, z.2.1⟩ hn
      · subst eb es
        obtain ⟨n, hn, hi⟩ := o2
        obtain ⟨us, v, pp, hu, hv, hpp, e1, e2, a1, a2, a3⟩ := pap_at (hp.ex ex) ho hn
        obtain ⟨l, hl, hol⟩ := a3 rfl
        obtain ⟨T, w, rfl, hT, hw⟩ := hpp
        rw [hl] at hw
        obtain ⟨c, rfl, hc⟩ := hw
        have eq0 : ledB ps (.item b s d i) (.item b s d' i') = (decide (pp.src = d) && decide (l.getD i' 0 = i)) := by
          simp only [ledB, decide_true, Bool.true_and]
          unfold srcOf turnOf
          rw [e2, hl]; rfl
        refine ⟨G', M, Wk.refl, _, _, .inr (ex_t ex h1), atI_nat (j := 0) rfl, ?_⟩
        refine ⟨G', M, Wk.refl, _, _, .inr (ex_t ex h2), atI_nat (j := 3) rfl, us, .ref T, .inl hu, atI_nat hv, _, hT, ?_⟩
        refine ⟨G', M, Wk.refl, _, _, .inr (ex_t ex h1), atI_nat (j := 3) rfl, ?_⟩
        show if (!decide (V.int (pp.src : Int) = .int (d : Int))) = true then _ else _
        rw [int_dec]
        refine ite2' (fun e => ⟨G', M, Wk.refl, fl G' ex ?_⟩) (fun e => ?_)
        · rw [eq0]
          cases z : decide (pp.src = d) with
          | false => rfl
          | true => rw [z] at e; cases e
        refine ⟨G', M, Wk.refl, _, _, .inr (ex_t ex h1), atI_nat (j := 0) rfl, ?_⟩
        have hi' : i' < l.length := by rw [hol.len]; exact hi
        refine ⟨G', M, Wk.refl, _, _, .inr (ex_t ex h2), atI_nat (j := 4) rfl, natsV l, _, .inl hc, atI_natD hi', _, _, .inr (ex_t ex h1), atI_nat (j := 4) rfl, ?_⟩
        show wkR R (.bl (decide (V.int ((l.getD i' 0 : Nat) : Int) = .int (i : Int)))) G' M
        rw [int_dec]
        have := q G' ex
        rw [eq0] at this
        have e3 : decide (pp.src = d) = true := by
          cases z : decide (pp.src = d) with
          | true => rfl
          | false => rw [z] at e; cases e
        rw [e3, Bool.true_and] at this
        exact ret0 this
  | way b s d p0 e0 =>
    cases s2 with
    | room b' s' r' => exact led_pre h1 h2 (fun _ G' ex => fl G' ex rfl) (fun e => absurd e.symm ne2)
    | item b' s' d' i' => exact led_pre h1 h2 (fun _ G' ex => fl G' ex rfl) (fun e => absurd e.symm ne3)
    | way b' s' d' p' e' =>
      refine led_pre h1 h2 (fun hn G' ex => fl G' ex ?_) (fun _ eb es G' ex => ?_)
      · cases z : ledB ps (.way b s d p0 e0) (.way b' s' d' p' e') with
        | false => rfl
        | true =>
          simp only [ledB, Bool.and_eq_true, decide_eq_true_eq] at z
          exact absurd ⟨rfl, z.1, z.2.1⟩ hn
      · subst eb es
        obtain ⟨hh, hn, hpq, heq⟩ := o2
        obtain ⟨us, v, pp, hu, hv, hpp, e1, e2, a1, a2, a3⟩ := pap_at (hp.ex ex) ho hn
        obtain ⟨T, w, rfl, hT, hw⟩ := hpp
        have eq0 : ledB ps (.way b s d p0 e0) (.way b s d' p' e') = (decide (pp.src = d) && (decide (p0 = p') && decide (e0 = e'))) := by
          simp only [ledB, decide_true, Bool.true_and]
          unfold srcOf
          rw [e2]
        refine ⟨G', M, Wk.refl, _, _, .inr (ex_t ex h1), atI_nat (j := 0) rfl, ?_⟩
        refine ⟨G', M, Wk.refl, _, _, .inr (ex_t ex h2), atI_nat (j := 3) rfl, us, .ref T, .inl hu, atI_nat hv, _, hT, ?_⟩
        refine ⟨G', M, Wk.refl, _, _, .inr (ex_t ex h1), atI_nat (j := 3) rfl, ?_⟩
        show if (!decide (V.int (pp.src : Int) = .int (d : Int))) = true then _ else _
        rw [int_dec]
        refine ite2' (fun e => ⟨G', M, Wk.refl, fl G' ex ?_⟩) (fun e => ?_)
        · rw [eq0]
          cases z : decide (pp.src = d) with
          | false => rfl
          | true => rw [z] at e; cases e
        refine ⟨G', M, Wk.refl, _, _, .inr (ex_t ex h1), atI_nat (j := 0) rfl, ?_⟩
        refine ⟨G', M, Wk.refl, _, ex_t ex h1, fun z => cut4_not z rfl, fun _ c1 f1 => ?_⟩
        have ex1 := Ex.new (o := .tup (cutV (Sg.way b s d p0 e0).vs (some 4) none)) f1
        refine ⟨_, ex_t ex1 (ex_t ex h2), fun z => cut4_not z rfl, fun _ c2 f2 => ?_⟩
        have ex2 := Ex.new (o := .tup (cutV (Sg.way b s d' p' e').vs (some 4) none)) f2
        have g1 : cutV (Sg.way b s d p0 e0).vs (some 4) none = [.int (p0 : Nat), .int (e0 : Nat)] := cut4_4 (by simp)
        have g2 : cutV (Sg.way b s d' p' e').vs (some 4) none = [.int (p' : Nat), .int (e' : Nat)] := cut4_4 (by simp)
        obtain ⟨G2, hG2⟩ : ∃ G2, G2 = upd (upd G' c1 (.tup (cutV (Sg.way b s d p0 e0).vs (some 4) none))) c2 (.tup (cutV (Sg.way b s d' p' e').vs (some 4) none)) := ⟨_, rfl⟩
        have exG : Ex G' G2 := by rw [hG2]; exact ex1.trans ex2
        have q1 : SqT K G2 c1 [.int (p0 : Nat), .int (e0 : Nat)] := by
          rw [hG2]
          refine ex_t ex2 ?_
          rw [← g1]; exact sqt_new
        have q2 : SqT K G2 c2 [.int (p' : Nat), .int (e' : Nat)] := by
          rw [hG2, ← g2]; exact sqt_new
        show kEqv false K (.ref c1) (.ref c2) (upd (upd G' c1 (.tup (cutV (Sg.way b s d p0 e0).vs (some 4) none))) c2 (.tup (cutV (Sg.way b s d' p' e').vs (some 4) none))) M _
        rw [← hG2]
        refine ⟨.tuple [.int (p0 : Nat), .int (e0 : Nat)], .tuple [.int (p' : Nat), .int (e' : Nat)], dat_tup q1 (dats_cons dat_int (dats_cons dat_int dats_nil)), dat_tup q2 (dats_cons dat_int (dats_cons dat_int dats_nil)), shp_ii.shaped (by decide), shp_ii.shaped (by decide), ?_⟩
        show wkR R (.bl (PyData.eqv (.tuple [.int (p0 : Nat), .int (e0 : Nat)]) (.tuple [.int (p' : Nat), .int (e' : Nat)]))) G2 M
        rw [eqv_ii]
        have := q G2 (ex.trans exG)
        rw [eq0] at this
        have e3 : decide (pp.src = d) = true := by
          cases z : decide (pp.src = d) with
          | true => rfl
          | false => rw [z] at e; cases e
        rw [e3, Bool.true_and] at this
        exact ret0 this
theorem zw_get {ps : List Pp} {one other : List Sg} {i : Nat} {a b : Sg} (h1 : one[i]? = some a) (h2 : other[i]? = some b) : (List.zipWith (ledB ps) one other)[i]? = some (ledB ps a b) := by
  rw [List.getElem?_zipWith, h1, h2]
theorem pf_is_leading (h : S_is_leading K vs G M R Z) : rd_is_leading K (ends R Z) (sta 6 vs) G M := by
  obtain ⟨_, _, _, w, rfl, a, o1, o2, ks, us1, us2, one, other, rfl, rfl, rfl, hk, hu1, hd1, hu2, hd2, hl1, hl2, ok1, ok2, hh⟩ := sp4_of h
  clear h
  have e1 := dpall_len hd1
  have e2 := dpall_len hd2
  rw [List.length_map] at e1 e2
  rcases hh with ⟨hw, q⟩ | ⟨p, ps, rfl, hp, hpo, q⟩
  · refine ⟨G, M, Wk.refl, a, ks, false, rfl, hk, hw, ?_⟩
    exact ⟨G, M, Wk.refl, ret0 q⟩
  have hkn : ∀ k, k ∈ ks → KnOk k := hk.choose_spec.2.2.1
  have hkl : ks.length ≤ 1000 := hk.choose_spec.2.2.2
  refine ⟨G, M, Wk.refl, a, ks, true, rfl, hk, pap_paperV hp hpo hkn hkl, ?_⟩
  refine ⟨us1, .inl hu1, us2, .inl hu2, ?_⟩
  show if (!decide (V.int (us1.length : Int) = .int (us2.length : Int))) = true then _ else _
  rw [int_dec, e1, e2]
  refine ite2' (fun e => ⟨G, M, Wk.refl, ret0 ?_⟩) (fun e => ?_)
  · have := q G Ex.refl
    have z : decide (one.length = other.length) = false := by
      cases z : decide (one.length = other.length) with
      | false => rfl
      | true => rw [z] at e; cases e
    unfold leadB at this
    rw [z, Bool.false_and] at this
    exact this
  have hll : one.length = other.length := by
    cases z : decide (one.length = other.length) with
    | true => exact of_decide_eq_true z
    | false => rw [z] at e; cases e
  refine ⟨G, M, Wk.refl, us1, us2, hu1, hu2, sz (by show min us1.length us2.length ≤ _; omega), fun i acc G' M' => Ex G G' ∧ M' = M ∧ acc = ((List.zipWith (ledB ps) one other).take i).map V.bl, ⟨Ex.refl, rfl, rfl⟩, ?_, ?_, ?_⟩
  · rintro i acc G' M' _ ⟨ex, rfl, _⟩
    exact ⟨lat_ex ex hu1, lat_ex ex hu2⟩
  · rintro i acc G' M' X hi hac ⟨ex, rfl, rfl⟩ fX
    have hi : i < min us1.length us2.length := hi
    have g1 : one[i]? = some one[i] := List.getElem?_eq_getElem (by omega)
    have g2 : other[i]? = some other[i] := List.getElem?_eq_getElem (by omega)
    obtain ⟨v1, hv1, dv1⟩ := dpall_get hd1 (i := i) (d := sgD one[i]) (by rw [List.getElem?_map, g1]; rfl)
    obtain ⟨v2, hv2, dv2⟩ := dpall_get hd2 (i := i) (d := sgD other[i]) (by rw [List.getElem?_map, g2]; rfl)
    obtain ⟨T1, rfl, hT1⟩ := sg_inv dv1
    obtain ⟨T2, rfl, hT2⟩ := sg_inv dv2
    refine asg_Z hv1 hv2 ⟨rfl, T1, T2, p, one[i], other[i], ks, ps, rfl, rfl, rfl, ex_t ex hT1, ex_t ex hT2, (hp.ex ex).more (Mx := [_]), hpo, ok1 _ (List.mem_of_getElem? g1), ok2 _ (List.mem_of_getElem? g2), fun G2 ex2 => ?_⟩
    refine ⟨G2, M', Wk.refl, ex.trans ex2, rfl, ?_⟩
    rw [take_succ' (zw_get g1 g2), List.map_append]; rfl
  · rintro acc G' M' y ⟨ex, rfl, rfl⟩ hac fy
    have en : (srcZ K o1 o2 us1 us2).n = (List.zipWith (ledB ps) one other).length := by
      rw [List.length_zipWith]
      show min us1.length us2.length = _
      omega
    rw [en, List.take_length]
    refine ⟨List.zipWith (ledB ps) one other, lat_0, retW Wk.drop0 ?_⟩
    have := q G' ex
    unfold leadB at this
    rw [decide_eq_true hll, Bool.true_and] at this
    exact this
end

section
variable {K : PySem.W.Frag} {vs : List V} {G : Hp} {M : Mem} {R : KR} {Z : KX}
theorem lat_more1 {x : Addr × HO} {a : Addr} {xs : List V} (h : LstAt K G M a xs) : LstAt K G (x :: M) a xs := h.elim (fun z => .inl (List.mem_cons_of_mem _ z)) .inr
theorem drAt_get {b : Addr} {ks : List Kn} {ds : List Dr} {d : Nat} {k : Kn} (h : DrAt K G M b ds) (ho : A2 DrOk ks ds) (e : ks[d]? = some k) : ∃ us v x, LstAt K G M b us ∧ us[d]? = some v ∧ DrV K G M v x ∧ ds[d]? = some x ∧ ds.getD d (.leaf 0) = x ∧ DrOk k x := by
  obtain ⟨us, h1, h2⟩ := h
  obtain ⟨x, a1, a2, a3⟩ := drs_at ho e
  obtain ⟨v, b1, b2⟩ := h2.get a1
  exact ⟨us, v, x, h1, b1, b2, a1, a2, a3⟩
theorem pf_led_draw (h : S_led_draw K vs G M R Z) : rd_led_draw K (ends R Z) (sta 6 vs) G M := by
  obtain ⟨x, _, rfl, b, k, ks, pp, ds, rfl, hx, hkn, hpp, hb, hok, q⟩ := sp2_of h
  clear h
  obtain ⟨T, w, rfl, hT, hw⟩ := hx
  obtain ⟨a1, a2, a3⟩ := hpp
  obtain ⟨us, v, d, hu, hv, hvd, e1, e2, hd⟩ := drAt_get hb hok a1
  refine ⟨G, M, Wk.refl, _, hT, ?_⟩
  cases hl : k.leaf with
  | true =>
    have ht := a2 hl
    rw [ht] at hw
    obtain rfl : w = .non := hw
    refine ⟨G, M, Wk.refl, ?_⟩
    refine ⟨G, M, Wk.refl, us, v, .inl hu, atI_nat hv, ?_⟩
    cases d with
    | row l => obtain ⟨z, _⟩ := hd; rw [hl] at z; cases z
    | leaf n =>
      obtain rfl : v = .int n := hvd
      refine ret0 (q (.leaf n) ?_ fun _ z => nomatch z)
      unfold ledP; rw [ht, e2]; rfl
  | false =>
    obtain ⟨l, ht, hol⟩ := a3 hl
    rw [ht] at hw
    obtain ⟨c, rfl, hc⟩ := hw
    cases d with
    | leaf n => obtain ⟨z, _⟩ := hd; rw [hl] at z; cases z
    | row r =>
      have hord := row_of_dr hd hl
      obtain ⟨_, hrl, hrok⟩ := hd
      obtain ⟨rb, rfl, hrb⟩ := hvd
      have h64 := hkn.1
      have h11 := hkn.2.2 hl
      refine ⟨G, M, Wk.refl, ?_⟩
      refine ⟨G, M, Wk.refl, us, .ref rb, .inl hu, atI_nat hv, rb, r, rfl, hrb, hrok, by omega, fun o fo => ?_⟩
      have hol2 : (orderOf r).length = k.n := by rw [order_len hrok, hrl]
      refine ⟨G, _, Wk.refl, natsV l, lat_more1 hc, sz (by show (natsV l).length ≤ _; rw [natsV_len, hol.len]; omega), fun i acc G' M' => G' = G ∧ M' = (o, HO.lst (natsV (orderOf r))) :: M ∧ acc = natsV ((l.take i).map fun j => (orderOf r).getD j 0), ⟨rfl, rfl, rfl⟩, ?_, ?_, ?_⟩
      · rintro i acc G' M' _ ⟨rfl, rfl, _⟩; exact lat_more1 hc
      · rintro i acc G' M' X hi hac ⟨rfl, rfl, rfl⟩ fX
        have hi : i < (natsV l).length := hi
        rw [natsV_len] at hi
        obtain ⟨j, hj⟩ : ∃ j, l[i]? = some j := ⟨_, List.getElem?_eq_getElem hi⟩
        have hjl : j < (orderOf r).length := by rw [hol2]; exact hol.lt j (List.mem_of_getElem? hj)
        refine asg_L (natsV_get hj) ⟨rfl, natsV (orderOf r), _, lst_n (n := 1) rfl, atI_natD hjl, _, _, Wk.refl, rfl, rfl, ?_⟩
        rw [take_succ' hj, List.map_append]
        unfold natsV; rw [List.map_append]; rfl
      · rintro acc G' M' y ⟨rfl, rfl, rfl⟩ hac fy
        have en : (srcL K c (natsV l)).n = l.length := natsV_len _
        rw [en, List.take_length]
        have hcomp := comp_ord hol hord
        have hcl : (l.map fun j => (orderOf r).getD j 0).length = k.n := by rw [List.length_map, hol.len]
        refine .inr ⟨y, _, rfl, lat_0, by rw [hcl]; exact hcomp, by rw [hcl]; exact h11, by rw [hcl]; exact h64, fun t ft => ?_⟩
        refine retW (M' := (t, .lst (natsV (rowOf (l.map fun j => (orderOf r).getD j 0)))) :: M) (Wk.drop1.trans Wk.drop1) ?_
        refine q (.row t _) ?_ fun x hx => ?_
        · unfold ledP; rw [ht, e2]; rfl
        · rw [List.mem_singleton.mp hx]; exact ft.cons.cons
theorem DrAt.ex0 {G' : Hp} {b : Addr} {ds : List Dr} (e : Ex G G') (h : DrAt K G M b ds) : DrAt K G' M b ds := by
  obtain ⟨us, h1, h2⟩ := h
  exact ⟨us, lat_ex e h1, h2.mono fun _ _ z => z.ex e⟩
theorem DrAt.more {Mx : Mem} {b : Addr} {ds : List Dr} (h : DrAt K G M b ds) : DrAt K G (Mx ++ M) b ds := by
  obtain ⟨us, h1, h2⟩ := h
  refine ⟨us, h1.elim (fun z => .inl (List.mem_append.mpr (.inr z))) .inr, h2.mono fun v d z => ?_⟩
  cases d with
  | leaf n => exact z
  | row l => obtain ⟨b, rfl, hb⟩ := z; exact ⟨b, rfl, hb.elim (fun z => .inl (List.mem_append.mpr (.inr z))) .inr⟩
theorem pf_led (h : S_led K vs G M R Z) : rd_led K (ends R Z) (sta 4 vs) G M := by
  obtain ⟨x, _, _, rfl, p, b, ks, ps, ds, rfl, rfl, hp, hpo, hkn, hkl, hb, hok, q⟩ := sp3_of h
  clear h
  obtain ⟨us, hu, ha⟩ := hp
  have hal := ha.len
  have hpl := hpo.len
  refine ⟨G, M, Wk.refl, us, hu, sz (by show us.length ≤ _; omega), fun i acc G' M' => Ex G G' ∧ M' = M ∧ A2 (DrV K G' []) acc ((ps.take i).map (ledP ds)), ⟨Ex.refl, rfl, .nil⟩, ?_, ?_, ?_⟩
  · rintro i acc G' M' _ ⟨ex, rfl, _⟩; exact lat_ex ex hu
  · rintro i acc G' M' X hi hac ⟨ex, rfl, hacc⟩ fX
    have hi : i < us.length := hi
    obtain ⟨pp, hpp⟩ : ∃ pp, ps[i]? = some pp := ⟨_, List.getElem?_eq_getElem (by omega)⟩
    obtain ⟨k, hk⟩ : ∃ k, ks[i]? = some k := ⟨_, List.getElem?_eq_getElem (by omega)⟩
    obtain ⟨v, hv, hvp⟩ := ha.get hpp
    have hq := a2_at hpo.ok hk hpp
    refine asg_L hv ⟨rfl, b, k, ks, pp, ds, rfl, (hvp.ex ex).more (Mx := [_]), hkn k (List.mem_of_getElem? hk), hq, (hb.ex0 ex).more (Mx := [_]), hok, fun c hc fc => ?_⟩
    have fin : ∀ G2, Ex G' G2 → DrV K G2 [] c.v (ledP ds pp) → A2 (DrV K G2 []) (acc ++ [c.v]) ((ps.take (i + 1)).map (ledP ds)) := fun G2 e2 hv2 => by
      rw [take_succ' hpp, List.map_append]
      exact (hacc.mono fun _ _ z => z.ex e2).app (.cons hv2 .nil)
    cases c with
    | leaf n => exact ⟨G', M', Wk.refl, ex, rfl, fin G' Ex.refl (by rw [← hc]; rfl)⟩
    | row t l =>
      have ft := fc (t, .lst (natsV l)) List.mem_cons_self
      have e2 := Ex.new (o := .lst (natsV l)) ft
      exact ⟨_, M', Wk.frz0, ex.trans e2, rfl, fin _ e2 (by rw [← hc]; exact ⟨t, rfl, .inr sql_new⟩)⟩
  · rintro acc G' M' y ⟨ex, rfl, hacc⟩ hac fy
    have hacc : A2 (DrV K G' []) acc ((ps.take us.length).map (ledP ds)) := hacc
    rw [hal, List.take_length] at hacc
    have e2 := Ex.new (o := .lst acc) fy
    exact retW Wk.frz0 (q y _ (ex.trans e2) ⟨acc, sql_new, hacc.mono fun _ _ z => z.ex e2⟩)
/-! inverse -/
def invP (l : List Nat) (i : Nat) : List Nat := (List.range l.length).map fun x => if l.idxOf x < i then l.idxOf x else 0
theorem invP_len (l : List Nat) (i : Nat) : (invP l i).length = l.length := by unfold invP; rw [List.length_map, List.length_range]
theorem invP_getD {l : List Nat} {i x : Nat} (h : x < l.length) : (invP l i).getD x 0 = if l.idxOf x < i then l.idxOf x else 0 := by
  unfold invP
  rw [List.getD_eq_getElem?_getD, List.getElem?_map, List.getElem?_range h]; rfl
theorem invP_0 (l : List Nat) : invP l 0 = List.replicate l.length 0 := by
  refine ext_getD (by rw [invP_len, List.length_replicate]) fun x hx => ?_
  rw [invP_len] at hx
  rw [invP_getD hx, if_neg (Nat.not_lt_zero _), List.getD_eq_getElem?_getD, List.getElem?_replicate, if_pos hx]; rfl
theorem invP_set {l : List Nat} {i x : Nat} (h : OrdOk l.length l) (hi : l[i]? = some x) : (invP l i).set x i = invP l (i + 1) := by
  have hil := (List.getElem?_eq_some_iff.mp hi).1
  have hx : l.getD i 0 = x := by rw [List.getD_eq_getElem?_getD, hi]; rfl
  have hxl : x < l.length := h.lt x (List.mem_of_getElem? hi)
  have hidx : l.idxOf x = i := by rw [← hx]; exact idx_of_nodup h.nd hil
  refine ext_getD (by rw [List.length_set, invP_len, invP_len]) fun y hy => ?_
  rw [List.length_set, invP_len] at hy
  rw [getD_set (by rw [invP_len]; exact hxl), invP_getD hy, invP_getD hy]
  by_cases e : y = x
  · subst e
    rw [if_pos rfl, hidx, if_pos (Nat.lt_succ_self _)]
  · rw [if_neg e]
    have : l.idxOf y ≠ i := fun z => by
      have := (getD_idx (ord_has h y hy)).2
      rw [z, hx] at this
      exact e this.symm
    by_cases e2 : l.idxOf y < i
    · rw [if_pos e2, if_pos (by omega)]
    · rw [if_neg e2, if_neg (by omega)]
theorem invP_full {l : List Nat} (h : OrdOk l.length l) : invP l l.length = invN l := by
  refine ext_getD (by rw [invP_len, inv_len]) fun x hx => ?_
  rw [invP_len] at hx
  rw [invP_getD hx, inv_getD hx, if_pos (getD_idx (ord_has h x hx)).1]
theorem rep_nons (n : Nat) : (List.replicate n [V.non]).flatten = List.replicate n V.non := by
  induction n with
  | zero => rfl
  | succ n ih => rw [List.replicate_succ, List.replicate_succ, List.flatten_cons, ih]; rfl
theorem pf_inverse (h : S_inverse K vs G M R Z) : rd_inverse K (ends R Z) (sta 4 vs) G M := by
  obtain ⟨_, rfl, a, l, rfl, ha, ho, hl, q⟩ := sp1_of h
  clear h
  refine ⟨G, M, Wk.refl, sz1, fun z fz => ⟨natsV l, .inl (lat_more1 ha), [.int 0], at_n (n := 0) rfl, by omega, by rw [natsV_len]; omega, sz (by rw [natsV_len]; show 1 * _ ≤ _; omega), fun r fr => ?_⟩⟩
  have e0 : (List.replicate ((natsV l).length : Int).toNat [V.int 0]).flatten = natsV (invP l 0) := by
    rw [rep_zeros, invP_0, natsV_len, Int.toNat_natCast]
  rw [e0]
  refine ⟨G, (r, .lst (natsV (invP l 0))) :: M, Wk.drop1, natsV l, lat_more1 ha, fun i σ G' M' => ∃ y2 y3, σ = [some (.ref a), some (.ref r), y2, y3] ∧ G' = G ∧ M' = (r, .lst (natsV (invP l i))) :: M, ⟨none, none, rfl, rfl, rfl⟩, ?_, ?_, ?_⟩
  · rintro i σ G' M' _ ⟨y2, y3, rfl, rfl, rfl⟩; exact lat_more1 ha
  · rintro i σ G' M' hi ⟨y2, y3, rfl, rfl, rfl⟩
    have hi : i < (natsV l).length := hi
    rw [natsV_len] at hi
    obtain ⟨x, hx⟩ : ∃ x, l[i]? = some x := ⟨_, List.getElem?_eq_getElem hi⟩
    have hxl : x < l.length := ho.lt x (List.mem_of_getElem? hx)
    refine asg_E (natsV_get hx) ⟨G', _, Wk.refl, 0, natsV (invP l i), x, rfl, ixN_nat (by rw [natsV_len, invP_len]; exact hxl), ?_⟩
    refine ⟨G', _, Wk.refl, _, _, rfl, rfl, ?_⟩
    rw [natsV_set, invP_set ho hx]; rfl
  · rintro σ G' M' ⟨y2, y3, rfl, rfl, rfl⟩
    have en : (srcE K a (natsV l)).n = l.length := natsV_len _
    rw [en, invP_full ho]
    exact ⟨G', _, Wk.refl, ret0 (q r fr.cons)⟩
theorem pf_back (h : S_back K vs G M R Z) : rd_back K (ends R Z) (sta 6 vs) G M := by
  obtain ⟨_, rfl, p, ks, ps, rfl, hp, hpo, hkn, hkl, q⟩ := sp1_of h
  clear h
  obtain ⟨us, hu, ha⟩ := hp
  have hal := ha.len
  have hpl := hpo.len
  have hord := srcs_ord hpo
  refine ⟨G, M, Wk.refl, sz1, fun z fz => ⟨us, .inl (lat_more1 hu), [.non], at_n (n := 0) rfl, by omega, by omega, sz (by show 1 * _ ≤ _; omega), fun f ff => ?_⟩⟩
  have e0 : (List.replicate (us.length : Int).toNat [V.non]).flatten = List.replicate ps.length V.non := by rw [rep_nons, Int.toNat_natCast, hal]
  rw [e0]
  refine ⟨G, (f, .lst (List.replicate ps.length V.non)) :: M, Wk.drop1, us, lat_more1 hu, fun i σ G' M' => ∃ (y2 y3 y4 y5 : Option V) (ws : List V), σ = [some (.ref p), some (.ref f), y2, y3, y4, y5] ∧ Ex G G' ∧ G' f = none ∧ M' = (f, .lst ws) :: M ∧ ws.length = ps.length ∧ ∀ (s : Nat) (w : V) (pp : Pp), ws[s]? = some w → (backP ps)[s]? = some pp → (ps.map (·.src)).idxOf s < i → PpM K G' [] w pp, ⟨none, none, none, none, _, rfl, Ex.refl, ff.1, rfl, List.length_replicate, fun _ _ _ _ _ z => nomatch z⟩, ?_, ?_, ?_⟩
  · rintro i σ G' M' _ ⟨y2, y3, y4, y5, ws, rfl, ex, gf, rfl, _⟩; exact lat_more1 (lat_ex ex hu)
  · rintro i σ G' M' hi ⟨y2, y3, y4, y5, ws, rfl, ex, gf, rfl, hwl, hws⟩
    have hi : i < us.length := hi
    obtain ⟨pp, hpp⟩ : ∃ pp, ps[i]? = some pp := ⟨_, List.getElem?_eq_getElem (by omega)⟩
    obtain ⟨k, hk⟩ : ∃ k, ks[i]? = some k := ⟨_, List.getElem?_eq_getElem (by omega)⟩
    obtain ⟨v, hv, T, w, rfl, hT, hw⟩ := ha.get hpp
    obtain ⟨a1, a2, a3⟩ := a2_at hpo.ok hk hpp
    have hsl : pp.src < ps.length := by have := (List.getElem?_eq_some_iff.mp a1).1; omega
    have hgd : ps.getD i ⟨0, none⟩ = pp := by rw [List.getD_eq_getElem?_getD, hpp]; rfl
    have hidx : (ps.map (·.src)).idxOf pp.src = i := by
      have h1 : (ps.map (·.src)).getD i 0 = pp.src := by rw [List.getD_eq_getElem?_getD, List.getElem?_map, hpp]; rfl
      rw [← h1]
      exact idx_of_nodup hpo.nd (by rw [List.length_map]; omega)
    -- what is laid
    have fin : ∀ (G2 : Hp) (u : V), Ex G' G2 → G2 f = none → PpM K G2 [] u ⟨i, pp.turn.map invN⟩ → ∃ G3 M3, Wk G2 ((f, HO.lst (ws.set pp.src u)) :: M) G3 M3 ∧ ∃ (y2 y3 y4 y5 : Option V) (ws2 : List V), [some (V.ref p), some (V.ref f), some (.int (i : Int)), some (.ref T), some (.int (pp.src : Int)), some w] = [some (.ref p), some (.ref f), y2, y3, y4, y5] ∧ Ex G G3 ∧ G3 f = none ∧ M3 = (f, .lst ws2) :: M ∧ ws2.length = ps.length ∧ ∀ (s : Nat) (w : V) (pp : Pp), ws2[s]? = some w → (backP ps)[s]? = some pp → (ps.map (·.src)).idxOf s < i + 1 → PpM K G3 [] w pp := fun G2 u e2 gf2 hu2 => by
      refine ⟨G2, _, Wk.refl, _, _, _, _, ws.set pp.src u, rfl, ex.trans e2, gf2, rfl, by rw [List.length_set, hwl], fun s w2 p2 hs hp2 hlt => ?_⟩
      by_cases e : s = pp.src
      · subst e
        rw [List.getElem?_set_self (by omega)] at hs
        cases hs
        rw [back_get hsl, hidx, hgd] at hp2
        cases hp2
        exact hu2
      · rw [List.getElem?_set_ne (fun z => e z.symm)] at hs
        refine (hws s w2 p2 hs hp2 ?_).ex e2
        have hne : (ps.map (·.src)).idxOf s ≠ i := fun z => by
          have hsp : s < ps.length := by rw [← back_len]; exact (List.getElem?_eq_some_iff.mp hp2).1
          have := (getD_idx (ord_has hord s hsp)).2
          rw [z, List.getD_eq_getElem?_getD, List.getElem?_map, hpp] at this
          exact e this.symm
        omega
    refine asg_E hv ⟨G', _, Wk.refl, _, ex_t ex hT, ?_⟩
    cases hl : k.leaf with
    | true =>
      have ht := a2 hl
      rw [ht] at hw
      obtain rfl : w = .non := hw
      refine ⟨G', _, Wk.refl, sz2, fun P fP => ?_⟩
      have e2 := Ex.new (o := .tup [.int (i : Int), .non]) fP
      refine ⟨0, ws, pp.src, rfl, ixN_nat (by omega), ?_⟩
      obtain ⟨G3, M3, h1, h2⟩ := fin _ (.ref P) e2 (by rw [upd_ne (fun z => fP.2 (f, .lst ws) List.mem_cons_self z)]; exact gf) ⟨P, .non, rfl, sqt_new, by rw [ht]; exact rfl⟩
      exact ⟨G3, M3, h1, h2⟩
    | false =>
      obtain ⟨l, ht, hol⟩ := a3 hl
      rw [ht] at hw
      obtain ⟨c, rfl, hc⟩ := hw
      have h64 := (hkn k (List.mem_of_getElem? hk)).1
      have hll := hol.len
      refine ⟨G', _, Wk.refl, c, l, rfl, lat_more1 (lat_ex ex hc), by rw [hll]; exact hol, by omega, fun t ft => ⟨sz2, fun P fP => ?_⟩⟩
      have e2 := Ex.new (o := .tup [.int (i : Int), .ref t]) fP
      have hPt : t ≠ P := fP.2 (t, .lst (natsV (invN l))) List.mem_cons_self
      have hPf : f ≠ P := fP.2 (f, .lst ws) (List.mem_cons_of_mem _ List.mem_cons_self)
      have htf : f ≠ t := ft.2 (f, .lst ws) List.mem_cons_self
      have gt : (upd G' P (.tup [.int (i : Int), .ref t])) t = none := by rw [upd_ne hPt]; exact ft.1
      have e3 := Ex.new' (o := .lst (natsV (invN l))) gt
      refine ⟨1, ws, pp.src, rfl, ixN_nat (by omega), ?_⟩
      obtain ⟨G3, M3, h1, h2⟩ := fin (upd (upd G' P (.tup [.int (i : Int), .ref t])) t (.lst (natsV (invN l)))) (.ref P) (e2.trans e3) (by rw [upd_ne htf, upd_ne hPf]; exact gf) ⟨P, .ref t, rfl, ex_t e3 sqt_new, by rw [ht]; exact ⟨t, rfl, .inr sql_new⟩⟩
      exact ⟨G3, M3, Wk.frz0.trans h1, h2⟩
  · rintro σ G' M' ⟨y2, y3, y4, y5, ws, rfl, ex, gf, rfl, hwl, hws⟩
    have e2 := Ex.new' (o := .lst ws) gf
    refine ⟨G', _, Wk.refl, retW Wk.frz0 (q f _ (ex.trans e2) ⟨ws, .inr sql_new, a2_of (by rw [hwl, back_len]) fun s w pp hs hp2 => (hws s w pp hs hp2 ?_).ex e2⟩)⟩
    show (ps.map (·.src)).idxOf s < us.length
    have hsp : s < ps.length := by rw [← hwl]; exact (List.getElem?_eq_some_iff.mp hs).1
    have := (getD_idx (ord_has hord s hsp)).1
    rw [List.length_map] at this
    omega
end

section
variable {K : PySem.W.Frag} {vs : List V} {G : Hp} {M : Mem} {R : KR} {Z : KX}
/-! papers as data -/
def turnD : Option (List Nat) → PyData
  | none => .none
  | some l => .list (natsD l)
def ppD (pp : Pp) : PyData := .tuple [.int (pp.src : Nat), turnD pp.turn]
theorem turn_dat {w : V} {t : Option (List Nat)} (h : TurnM K G M w t) : DatAt K G M w (turnD t) := by
  cases t with
  | none => obtain rfl : w = .non := h; exact dat_non
  | some l => obtain ⟨b, rfl, hb⟩ := h; exact dat_nats hb
theorem pp_dat {v : V} {pp : Pp} (h : PpM K G M v pp) : DatAt K G M v (ppD pp) := by
  obtain ⟨T, w, rfl, hT, hw⟩ := h
  exact dat_tup hT (dats_cons dat_int (dats_cons (turn_dat hw) dats_nil))
theorem pps_dat {us : List V} {ps : List Pp} (h : A2 (PpM K G M) us ps) : DatAll K G M us (ps.map ppD) := by
  induction h with
  | nil => exact dats_nil
  | cons h _ ih => exact dats_cons (pp_dat h) ih
theorem shp_turn {n : Nat} (t : Option (List Nat)) : Shp (n + 1) (turnD t) := by
  cases t with
  | none => exact .non
  | some l => exact shp_nats l
theorem shp_pp {n : Nat} (pp : Pp) : Shp (n + 2) (ppD pp) := .tuple fun d hd => by
  rcases List.mem_cons.mp hd with rfl | hd
  · exact .int
  · rw [List.mem_singleton.mp hd]; exact shp_turn pp.turn
theorem shp_pps {n : Nat} (ps : List Pp) : Shp (n + 3) (.list (ps.map ppD)) := .list fun d hd => by
  obtain ⟨x, _, rfl⟩ := List.mem_map.mp hd
  exact shp_pp x
end

section
variable {K : PySem.W.Frag} {vs : List V} {G : Hp} {M : Mem} {R : KR} {Z : KX}
theorem knF_at {a : Addr} {ks : List Kn} (h : KnF K G a ks) (hk : ∀ k, k ∈ ks → KnOk k) (hl : ks.length ≤ 1000) : KnAt K G M a ks := by
  obtain ⟨us, h1, h2⟩ := h
  refine ⟨us, .inr h1, ?_, hk, hl⟩
  clear h1 hk hl
  induction h2 with
  | nil => exact .nil
  | cons h _ ih => obtain ⟨T, rfl, hT⟩ := h; exact .cons (dp_kn (sqt_of hT)) ih
theorem KnF.ex {G' : Hp} {a : Addr} {ks : List Kn} (e : Ex G G') (h : KnF K G a ks) : KnF K G' a ks := by
  obtain ⟨us, h1, h2⟩ := h
  exact ⟨us, ex_l e h1, h2.mono fun _ _ ⟨T, e1, e2⟩ => ⟨T, e1, e _ _ e2⟩⟩
theorem SgsG.ex {G' : Hp} {a : Addr} {sg : List Sg} (e : Ex G G') (h : SgsG K G a sg) : SgsG K G' a sg := by
  obtain ⟨us, h1, h2⟩ := h
  exact ⟨us, ex_l e h1, ex_ds e _ h2⟩
theorem knF_get {a : Addr} {ks : List Kn} {i : Nat} {k : Kn} (h : KnF K G a ks) (e : ks[i]? = some k) : ∃ us T, SqL K G a us ∧ us[i]? = some (.ref T) ∧ G T = some (.tup [.str k.txt, .int (k.n : Nat)]) ∧ us.length = ks.length := by
  obtain ⟨us, h1, h2⟩ := h
  obtain ⟨v, hv, T, rfl, hT⟩ := h2.get e
  exact ⟨us, T, h1, hv, hT, h2.len⟩
theorem at_two2 {x y r : Int} (h0 : 0 ≤ r) (h1 : r < 2) : ∃ v, atI [V.int x, .int y] r = some (.int v) ∧ (v = x ∨ v = y) := by
  obtain ⟨j, rfl⟩ := Int.eq_ofNat_of_zero_le h0
  have : j = 0 ∨ j = 1 := by omega
  rcases this with rfl | rfl
  · exact ⟨x, atI_nat (j := 0) rfl, .inl rfl⟩
  · exact ⟨y, atI_nat (j := 1) rfl, .inr rfl⟩
theorem pf_law_kinds (h : S_law_kinds K vs G M R Z) : rd_law_kinds K (ends R Z) (sta 5 vs) G M := by
  obtain ⟨_, _, _, rfl, p, n, c, s, rfl, rfl, rfl, hn, hs, q⟩ := sp3_of h
  clear h
  have h100 : (100 : Int) < 2 ^ 200 := by decide
  refine ⟨G, M, Wk.refl, sz0, fun t ft => ?_⟩
  refine ⟨G, _, Wk.refl, p, 6 + 1, n + 1, c, s, rfl, rfl, hn, hs, by omega, by omega, fun r c1 s1 r0 r1 hs1 => ⟨⟨by omega, by omega⟩, fun i σ G' M' => ∃ (us : List V) (ks : List Kn) (c' s' : Int) (y4 : Option V), σ = [some (.ref p), some (.int 6), some (.int 64), some (.ref t), y4] ∧ Ex G G' ∧ G' t = none ∧ M' = (t, .lst us) :: M.set n (p, pool c' s') ∧ A2 (fun v k => ∃ T, v = V.ref T ∧ G' T = some (.tup [.str k.txt, .int (Kn.n k : Nat)])) us ks ∧ (∀ k, k ∈ ks → KnOk k) ∧ ks.length = i ∧ PoolOk s',
    ⟨[], [], c1, s1, none, rfl, Ex.refl, ft.1, rfl, .nil, fun _ z => absurd z List.not_mem_nil, rfl, hs1⟩, fun _ _ _ _ _ _ => trivial, ?_, ?_⟩⟩
  · rintro i σ G' M' hi ⟨us, ks, c2, s2, y4, rfl, ex, gt, rfl, hd, hk, hl, hs2⟩
    have hi : i < r.toNat := hi
    have hul : us.length = ks.length := hd.len
    have step : ∀ {T : Addr} {k : Kn} {G2 : Hp}, G2 = upd G' T (.tup [.str k.txt, .int (k.n : Nat)]) → G' T = none → A2 (fun v k => ∃ T, v = V.ref T ∧ G2 T = some (.tup [.str k.txt, .int (Kn.n k : Nat)])) (us ++ [.ref T]) (ks ++ [k]) := fun {T k G2} e g => by
      have ee : Ex G' G2 := by rw [e]; exact Ex.new' g
      exact (hd.mono fun _ _ ⟨T', e1, e2⟩ => ⟨T', e1, ee _ _ e2⟩).app (.cons ⟨T, rfl, by rw [e, upd_same]⟩ .nil)
    refine ⟨G', _, Wk.refl, p, 2, n + 1, c2, s2, rfl, rfl, set_n hn, hs2, by decide, by decide, fun w c3 s3 w0 w1 hs3 => ite2' (fun e => ?_) (fun e => ?_)⟩
    · refine ⟨_, _, Wk.refl, tyl_n (n := 0) rfl, p, 7, n + 1, c3, s3, rfl, rfl, set_n (set_n hn), hs3, by decide, by decide, fun hgt c4 s4 h0 h1 hs4 => ⟨sz2, fun T fT => ⟨0, _, rfl, Nat.lt_of_le_of_lt (show us.length ≤ 100 by omega) (by decide), ?_⟩⟩⟩
      obtain ⟨hh, rfl⟩ := Int.eq_ofNat_of_zero_le h0
      refine ⟨_, _, Wk.refl, us ++ [V.ref T], ks ++ [(⟨true, hh⟩ : Kn)], c4, s4, _, rfl, ex.trans (Ex.new fT), ?_, ?_, (by exact step (T := T) (k := ⟨true, hh⟩) rfl fT.1), ?_, by simp [hl], hs4⟩
      · rw [upd_ne (fun z => fT.2 (t, .lst us) (by simp) z)]; exact gt
      · simp only [List.set_cons_succ, List.set_set, List.set_cons_zero]
      · intro k hkm
        rcases List.mem_append.mp hkm with hkm | hkm
        · exact hk k hkm
        · have e : k = ⟨true, hh⟩ := by simpa using hkm
          subst e
          exact ⟨by show hh ≤ 64; omega, fun _ => by show hh ≤ 6; omega, fun z => by cases z⟩
    · refine ⟨_, _, Wk.refl, tyl_n (n := 0) rfl, sz2, fun w2 fw2 => ⟨p, 2, n + 2, c3, s3, rfl, rfl, set_n (set_n hn), hs3, by decide, by decide, fun w3 c4 s4 h0 h1 hs4 => ?_⟩⟩
      obtain ⟨v, hv, hv2⟩ := at_two2 (x := 6) (y := 64) h0 h1
      have hv3 : 1 ≤ v ∧ v ≤ 64 := by omega
      refine ⟨_, _, lst_n (n := 0) rfl, hv, p, v, n + 2, c4, s4, rfl, rfl, set_n (set_n (set_n hn)), hs4, by omega, by omega, fun sz_ c5 s5 z0 z1 hs5 => ⟨sz2, fun T fT => ⟨1, _, rfl, Nat.lt_of_le_of_lt (show us.length ≤ 100 by omega) (by decide), ?_⟩⟩⟩
      obtain ⟨hh, rfl⟩ := Int.eq_ofNat_of_zero_le z0
      refine ⟨_, _, Wk.drop0, us ++ [V.ref T], ks ++ [(⟨false, 1 + hh⟩ : Kn)], c5, s5, _, rfl, ex.trans (Ex.new fT), ?_, ?_, (by exact step (T := T) (k := ⟨false, 1 + hh⟩) rfl fT.1), ?_, by simp [hl], hs5⟩
      · rw [upd_ne (fun z => fT.2 (t, .lst us) (by simp) z)]; exact gt
      · simp only [List.set_cons_succ, List.set_set, List.set_cons_zero]
      · intro k hkm
        rcases List.mem_append.mp hkm with hkm | hkm
        · exact hk k hkm
        · have e : k = ⟨false, 1 + hh⟩ := by simpa using hkm
          subst e
          exact ⟨by show 1 + hh ≤ 64; omega, fun z => (by cases z), fun _ => by show 1 ≤ 1 + hh; omega⟩
  · rintro σ G' M' ⟨us, ks, c2, s2, y4, rfl, ex, gt, rfl, hd, hk, hl, hs2⟩
    have hl : ks.length = r.toNat := hl
    have e2 := Ex.new' (o := .lst us) gt
    exact ⟨_, _, Wk.refl, retW Wk.frz0 (q t ks c2 s2 _ (ex.trans e2) ⟨us, sql_new, hd.mono fun _ _ ⟨T, e1, e3⟩ => ⟨T, e1, e2 _ _ e3⟩⟩ hk (by omega) hs2)⟩
theorem insert_ok {k : Nat} {o : List Nat} (h : OrdOk k o) (j : Nat) : OrdOk (k + 1) (o.take j ++ [k] ++ o.drop j) := by
  refine ⟨?_, ?_, fun x hx => ?_⟩
  · rw [List.length_append, List.length_append, List.length_take, List.length_drop, List.length_singleton, h.len]; omega
  · have p : (o.take j ++ [k] ++ o.drop j).Perm (k :: o) := by
      rw [List.append_assoc]
      refine List.perm_middle.trans (.cons _ ?_)
      show (o.take j ++ o.drop j).Perm o
      rw [List.take_append_drop]
    rw [p.nodup_iff, List.nodup_cons]
    exact ⟨fun z => by have := h.lt k z; omega, h.nd⟩
  · rw [List.mem_append, List.mem_append] at hx
    rcases hx with (hx | hx) | hx
    · have := h.lt x (List.mem_of_mem_take hx); omega
    · rw [List.mem_singleton.mp hx]; omega
    · have := h.lt x (List.mem_of_mem_drop hx); omega
theorem pf_law_turn (h : S_law_turn K vs G M R Z) : rd_law_turn K (ends R Z) (sta 4 vs) G M := by
  obtain ⟨_, _, rfl, p, n, c, s, m, rfl, rfl, hm, hn, hs, q⟩ := sp2_of h
  clear h
  have h100 : (100 : Int) < 2 ^ 200 := by decide
  refine ⟨G, M, Wk.refl, sz0, fun t ft => ?_⟩
  refine ⟨G, _, Wk.refl, ⟨by omega, by omega⟩, fun i σ G' M' => ∃ (o : List Nat) (y : Option V) (c s : Int), σ = [some (.ref p), some (.int (m : Int)), some (.ref t), y] ∧ G' = G ∧ M' = (t, .lst (natsV o)) :: M.set n (p, pool c s) ∧ OrdOk i o ∧ PoolOk s, ⟨[], none, c, s, rfl, rfl, by rw [set_self hn]; rfl, ⟨rfl, List.nodup_nil, fun _ z => (nomatch z)⟩, hs⟩, fun _ _ _ _ _ _ => trivial, ?_, ?_⟩
  · rintro i σ G' M' hi ⟨o, y, c2, s2, rfl, rfl, rfl, ho, hs2⟩
    have hi : i < (m : Int).toNat := hi
    refine asg_R (v := (i : Int)) (by omega) ?_
    refine ⟨G', _, Wk.refl, tyl_n (n := 0) rfl, p, (i : Int) + 1, n + 1, c2, s2, rfl, rfl, set_n hn, hs2, by omega, by omega, fun r c3 s3 r0 r1 hs3 => ?_⟩
    obtain ⟨j, rfl⟩ := Int.eq_ofNat_of_zero_le r0
    refine ⟨0, natsV o, rfl, by rw [natsV_len, ho.len]; exact Nat.lt_of_lt_of_le (show i < 1000 by omega) (by decide), by omega, by omega, ?_⟩
    refine ⟨G', _, Wk.refl, _, _, c3, s3, rfl, rfl, ?_, insert_ok ho j, hs3⟩
    show (t, HO.lst ((natsV o).take (j : Int).toNat ++ [V.int (i : Int)] ++ (natsV o).drop (j : Int).toNat)) :: (M.set n _).set n _ = _
    rw [List.set_set, Int.toNat_natCast, natsV_take, natsV_drop, show [V.int (i : Int)] = natsV [i] from rfl, natsV_app, natsV_app]
  · rintro σ G' M' ⟨o, y, c2, s2, rfl, rfl, rfl, ho, hs2⟩
    have ho : OrdOk (m : Int).toNat o := ho
    rw [Int.toNat_natCast] at ho
    exact ⟨_, _, Wk.refl, ret0 (q t o c2 s2 ho hs2 ft)⟩
theorem txt_shuf0 (k : Kn) : decide ((V.str k.txt) = (.str "shuffle")) = !k.leaf := by
  obtain ⟨b, n⟩ := k
  cases b
  · exact decide_eq_true rfl
  · exact decide_eq_false (by intro h; injection h with h; exact absurd (show ("leaf" : Str) = "shuffle" from h) (by decide))
theorem kn_eta {k : Kn} {b : Bool} (h : k.leaf = b) : k = ⟨b, k.n⟩ := by
  obtain ⟨x, y⟩ := k
  have h : x = b := h
  rw [h]
theorem deed_pick {y : V} (h : y ∈ [V.str "look", .str "lay"]) : ∃ b : Bool, y = .str (deedS b) := by
  simp only [List.mem_cons, List.not_mem_nil, or_false] at h
  rcases h with rfl | rfl
  · exact ⟨false, rfl⟩
  · exact ⟨true, rfl⟩
theorem pf_law_sign (h : S_law_sign K vs G M R Z) : rd_law_sign K (ends R Z) (sta 6 vs) G M := by
  obtain ⟨_, _, rfl, p, n, c, s, a, ks, rfl, rfl, hn, hs, hk, hkn, hkl, q⟩ := sp2_of h
  clear h
  have h100 : (100 : Int) < 2 ^ 200 := by decide
  refine ⟨G, M, Wk.refl, p, 5, n, c, s, rfl, rfl, hn, hs, by decide, by decide, fun r1 c1 s1 r10 r11 hs1 => ?_⟩
  refine ⟨G, _, Wk.refl, pick (n := n) (l := [V.str "look", .str "lay"]) (set_n hn) hs1 (by decide) (by decide) fun y c2 s2 d hy hs2 fd => ?_⟩
  obtain ⟨b, rfl⟩ := deed_pick hy
  rw [List.set_set]
  refine ⟨G, M.set n (p, pool c2 s2), Wk.drop0, p, 3, n, c2, s2, rfl, rfl, set_n hn, hs2, by decide, by decide, fun r3 c3 s3 r30 r31 hs3 => ?_⟩
  rw [List.set_set]
  obtain ⟨sh, rfl⟩ := Int.eq_ofNat_of_zero_le r30
  have room : ∀ (M2 : Mem) (n2 : Nat), M2[n2]? = some (p, pool c3 s3) → (∀ (G2 : Hp) (c4 s4 : Int), Wk G2 (M2.set n2 (p, pool c4 s4)) G2 (M.set n (p, pool c4 s4))) → (kSeq (kRet (kTup (kCons (kC (.str "room")) (kCons (kVar 3) (kCons (kVar 4) (kCons (kCall (S_law_take K) (kCons (kVar 0) (kCons (kC (.int 9)) (kNil)))) (kNil))))))) (kNext)) { ends R Z with nx := rd_law_sign_4 K (ends R Z) } [some (.ref p), some (.ref a), some (.int r1), some (.str (deedS b)), some (.int (sh : Int)), none] G M2 := fun M2 n2 h2 wk => by
    refine ⟨G, M2, Wk.refl, p, 9, n2, c3, s3, rfl, rfl, h2, hs3, by decide, by decide, fun r4 c4 s4 r40 r41 hs4 => ⟨sz4, fun T fT => ?_⟩⟩
    obtain ⟨x, rfl⟩ := Int.eq_ofNat_of_zero_le r40
    refine retW (wk _ c4 s4) (q T (.room b sh x) c4 s4 _ (Ex.new fT) sqt_new trivial hs4)
  refine ⟨G, M.set n (p, pool c3 s3), Wk.refl, ?_⟩
  show if decide (V.int r1 = .int 0) = true then _ else _
  refine ite2' (fun e => room _ n (set_n hn) fun _ c4 s4 => by rw [List.set_set]; exact Wk.refl) (fun e => ⟨sz0, fun e0 fe => ?_⟩)
  have hka : ∀ {Mx : Mem}, KnAt K G Mx a ks := fun {Mx} => knF_at hk hkn (by omega)
  have hk' := hk
  obtain ⟨us', hu', hd', _⟩ := hka (Mx := (e0, HO.lst []) :: M.set n (p, pool c3 s3))
  refine ⟨.list (ks.map knD), .list [], dat_list hu' (dats_g hd'), dat_list lat_0 dats_nil, (shp_kns (n := 0) ks).shaped (by decide), (shp_nats (n := 0) []).shaped (by decide), ?_⟩
  show if (PyData.eqv (.list (ks.map knD)) (.list [])) = true then _ else _
  rw [eqvL_nil]
  refine ite2' (fun e2 => room _ (n + 1) (set_n hn) fun _ c4 s4 => by rw [List.set_cons_succ, List.set_set]; exact Wk.drop0) (fun e2 => ?_)
  have hk0 : 0 < ks.length := by
    cases ks with
    | nil => cases e2
    | cons => exact Nat.succ_pos _
  clear hu' hd'
  obtain ⟨us, hu, hul⟩ : ∃ us, SqL K G a us ∧ us.length = ks.length := by obtain ⟨us, h1, h2⟩ := hk'; exact ⟨us, h1, h2.len⟩
  refine ⟨G, M.set n (p, pool c3 s3), Wk.drop0, us, .inl (.inr hu), p, (us.length : Int), n, c3, s3, rfl, rfl, set_n hn, hs3, by omega, by omega, fun r5 c5 s5 r50 r51 hs5 => ?_⟩
  rw [List.set_set]
  obtain ⟨d, rfl⟩ := Int.eq_ofNat_of_zero_le r50
  obtain ⟨k, hkd⟩ : ∃ k, ks[d]? = some k := ⟨_, List.getElem?_eq_getElem (by omega)⟩
  obtain ⟨us2, T2, hu2, hv2, hT2, _⟩ := knF_get hk' hkd
  have kk := hkn k (List.mem_of_getElem? hkd)
  have k64 := kk.1
  refine ⟨G, _, Wk.refl, us2, .ref T2, .inl (.inr hu2), atI_nat hv2, [.str k.txt, .int k.n], .str k.txt, .inr (sqt_of hT2), atI_nat (j := 0) rfl, ?_⟩
  show if decide (V.str k.txt = .str "shuffle") = true then _ else _
  rw [txt_shuf0]
  cases hlf : k.leaf with
  | false =>
    have k1 := kk.2.2 hlf
    refine ⟨G, _, Wk.refl, us2, .ref T2, .inl (.inr hu2), atI_nat hv2, [.str k.txt, .int k.n], .int k.n, .inr (sqt_of hT2), atI_nat (j := 1) rfl, p, _, n, c5, s5, rfl, rfl, set_n hn, hs5, by omega, by omega, fun r6 c6 s6 r60 r61 hs6 => ⟨sz5, fun T fT => ?_⟩⟩
    obtain ⟨x, rfl⟩ := Int.eq_ofNat_of_zero_le r60
    rw [List.set_set] at fT ⊢
    exact ret0 (q T (.item b sh d x) c6 s6 _ (Ex.new fT) sqt_new ⟨k.n, by rw [hkd, ← kn_eta hlf], by omega⟩ hs6)
  | true =>
    refine ⟨G, _, Wk.refl, us2, .ref T2, .inl (.inr hu2), atI_nat hv2, [.str k.txt, .int k.n], .int k.n, .inr (sqt_of hT2), atI_nat (j := 1) rfl, p, _, n, c5, s5, rfl, rfl, set_n hn, hs5, by omega, by omega, fun r6 c6 s6 r60 r61 hs6 => ?_⟩
    obtain ⟨x, rfl⟩ := Int.eq_ofNat_of_zero_le r60
    refine ⟨p, 2, n, c6, s6, rfl, rfl, set_n (set_n hn), hs6, by decide, by decide, fun r7 c7 s7 r70 r71 hs7 => ⟨sz6, fun T fT => ?_⟩⟩
    obtain ⟨y, rfl⟩ := Int.eq_ofNat_of_zero_le r70
    rw [List.set_set, List.set_set] at fT ⊢
    exact ret0 (q T (.way b sh d x y) c7 s7 _ (Ex.new fT) sqt_new ⟨k.n, by rw [hkd, ← kn_eta hlf], by omega, by omega⟩ hs7)
end

section
variable {K : PySem.W.Frag} {vs : List V} {G : Hp} {M : Mem} {R : KR} {Z : KX}
/-! where a sign is led -/
theorem filt_one {p : Nat → Bool} {j : Nat} : ∀ n, (∀ k, k < n → (p k = true ↔ k = j)) → (List.range n).filter p = if j < n then [j] else []
  | 0, _ => by simp
  | n + 1, h => by
    rw [List.range_succ, List.filter_append, filt_one n fun k hk => h k (by omega)]
    by_cases e : j = n
    · subst e
      rw [if_neg (Nat.lt_irrefl _), if_pos (Nat.lt_succ_self _), List.filter_cons_of_pos ((h j (Nat.lt_succ_self _)).mpr rfl)]; rfl
    · have hn : ¬ p n = true := fun z => e ((h n (Nat.lt_succ_self _)).mp z).symm
      rw [List.filter_cons_of_neg hn, List.filter_nil, List.append_nil]
      by_cases e2 : j < n
      · rw [if_pos e2, if_pos (by omega)]
      · rw [if_neg e2, if_neg (by omega)]
theorem filt_succ {p : Nat → Bool} {n : Nat} : (List.range (n + 1)).filter p = (List.range n).filter p ++ (if p n = true then [n] else []) := by
  rw [List.range_succ, List.filter_append]
  by_cases e : p n = true
  · rw [if_pos e, List.filter_cons_of_pos e]; rfl
  · rw [if_neg e, List.filter_cons_of_neg e]; rfl
theorem ledS_draw {D : Kd} {q T : Addr} {g : Sg} {ks : List Kn} {ps : List Pp} {d : Nat} {k : Kn} (hp : PapM K G M q ps) (ho : PapOk ks ps) (hT : SqT K G T g.vs) (hd : g.vs[3]? = some (.int (d : Nat))) (hk : ks[d]? = some k) (hl : ks.length ≤ 1000)
    (w : ∀ (M' : Mem) (y3 : Option V) (j : Nat), j = (ps.map (·.src)).idxOf d → Wk G M' G M → rd_law_led_sign_2 K D [some (.ref q), some (.ref T), some (.int (j : Int)), y3] G M') :
    rd_law_led_sign_1 K D [some (.ref q), some (.ref T), none, none] G M := by
  obtain ⟨us, hu, ha⟩ := hp
  have hal := ha.len
  have hpl := ho.len
  have hord := srcs_ord ho
  have hdl : d < ps.length := by have := (List.getElem?_eq_some_iff.mp hk).1; omega
  obtain ⟨i1, i2⟩ := getD_idx (ord_has hord d hdl)
  rw [List.length_map] at i1
  refine ⟨G, M, Wk.refl, us, .inl hu, by omega, sz (by show ((us.length : Int)).toNat ≤ _; omega), fun i acc G' M' => G' = G ∧ M' = M ∧ acc = natsV ((List.range i).filter fun j => decide (srcOf ps j = d)), ⟨rfl, rfl, rfl⟩, fun _ _ _ _ _ _ => trivial, ?_, ?_⟩
  · rintro i acc G' M' X hi hac ⟨rfl, rfl, rfl⟩ fX
    have hi : i < (us.length : Int).toNat := hi
    obtain ⟨pp, hpp⟩ : ∃ pp, ps[i]? = some pp := ⟨_, List.getElem?_eq_getElem (by omega)⟩
    obtain ⟨v, hv, T2, w2, rfl, hT2, _⟩ := ha.get hpp
    have hs : srcOf ps i = pp.src := by unfold srcOf; rw [List.getD_eq_getElem?_getD, hpp]; rfl
    refine asg_R (v := (i : Int)) (by omega) ⟨rfl, us, .ref T2, .inl (lat_more1 hu), atI_nat hv, [.int (pp.src : Nat), w2], .int (pp.src : Nat), .inr hT2, atI_nat (j := 0) rfl, g.vs, .int (d : Nat), .inr hT, atI_nat (j := 3) hd, ?_⟩
    show if decide (V.int (pp.src : Int) = .int (d : Int)) = true then _ else _
    rw [int_dec, ← hs]
    refine ite2' (fun e => ⟨G', M', Wk.refl, rfl, rfl, ?_⟩) (fun e => ⟨G', M', Wk.refl, rfl, rfl, ?_⟩)
    · rw [filt_succ, if_pos e]
      unfold natsV; rw [List.map_append]; rfl
    · rw [filt_succ, if_neg (by rw [e]; exact Bool.false_ne_true), List.append_nil]
  · rintro acc G' M' y ⟨rfl, rfl, rfl⟩ hac fy
    have en : (srcR 0 (us.length : Int).toNat).n = ps.length := by show (us.length : Int).toNat = _; omega
    have ef : ((List.range ps.length).filter fun j => decide (srcOf ps j = d)) = [(ps.map (·.src)).idxOf d] := by
      rw [filt_one (j := (ps.map (·.src)).idxOf d) ps.length fun k hk => ?_, if_pos i1]
      rw [decide_eq_true_eq, ← srcs_getD hk]
      constructor
      · intro e
        have := idx_of_nodup ho.nd (i := k) (by rw [List.length_map]; exact hk)
        rw [e] at this; exact this.symm
      · intro e; rw [e]; exact i2
    rw [en, ef]
    obtain ⟨j, hj⟩ : ∃ j, j = (ps.map (·.src)).idxOf d := ⟨_, rfl⟩
    rw [← hj]
    exact ⟨natsV [j], .int (j : Int), .inl lat_0, atI_nat (j := 0) rfl, w _ none j hj Wk.drop0⟩
theorem pf_law_led_sign (h : S_law_led_sign K vs G M R Z) : rd_law_led_sign K (ends R Z) (sta 4 vs) G M := by
  obtain ⟨_, _, rfl, q, T, g, ks, ps, rfl, rfl, hp, ho, hT, og, hl, k⟩ := sp2_of h
  clear h
  have hpl := ho.len
  cases g with
  | room b s r => exact ⟨G, M, Wk.refl, _, _, .inr hT, atI_nat (j := 0) rfl, G, M, Wk.refl, ret0 (k T G Ex.refl hT)⟩
  | way b s d p e =>
    obtain ⟨hh, hk, hpp, hee⟩ := og
    refine ⟨G, M, Wk.refl, _, _, .inr hT, atI_nat (j := 0) rfl, ledS_draw hp ho hT rfl hk hl fun M' y3 j hj wk => ?_⟩
    refine ⟨G, M', Wk.refl, _, _, .inr hT, atI_nat (j := 0) rfl, ?_⟩
    refine ⟨G, M, wk, _, hT, fun z => absurd z.2 (by show ¬ HT.sIx 6 6 (some 3) = 6; decide), fun _ c1 f1 => ⟨sz1, fun c2 f2 => ?_⟩⟩
    have x1 := Ex.new (o := .tup (cutV (Sg.way b s d p e).vs none (some 3))) f1
    have x2 := Ex.new (o := .tup [.int (j : Int)]) f2
    refine ⟨_, _, ex_t x2 sqt_new, sqt_new, by show 3 + 1 ≤ _; decide, fun z => (by cases z), fun _ z => (by cases z), fun _ _ c3 f3 => ?_⟩
    have x3 := Ex.new (o := .tup (cutV (Sg.way b s d p e).vs none (some 3) ++ [.int (j : Int)])) f3
    refine ⟨_, ex_t x3 (ex_t x2 (ex_t x1 hT)), fun z => absurd z.1 (by show ¬ HT.sIx 6 0 (some 4) = 0; decide), fun _ c4 f4 => ?_⟩
    have x4 := Ex.new (o := .tup (cutV (Sg.way b s d p e).vs (some 4) none)) f4
    refine ⟨_, _, ex_t x4 sqt_new, sqt_new, by show 4 + 2 ≤ _; decide, fun z => (by cases z), fun _ z => (by cases z), fun _ _ c5 f5 => ?_⟩
    have x5 := Ex.new (o := .tup ((cutV (Sg.way b s d p e).vs none (some 3) ++ [.int (j : Int)]) ++ cutV (Sg.way b s d p e).vs (some 4) none)) f5
    refine ret0 (k c5 _ ((((x1.trans x2).trans x3).trans x4).trans x5) ?_)
    have e0 : (ledS ps (.way b s d p e)).vs = (cutV (Sg.way b s d p e).vs none (some 3) ++ [.int (j : Int)]) ++ cutV (Sg.way b s d p e).vs (some 4) none := by
      show Sg.vs (.way b s ((ps.map (·.src)).idxOf d) p e) = _
      rw [← hj]; rfl
    rw [e0]
    exact sqt_new
  | item b s d i =>
    obtain ⟨n, hk, hi⟩ := og
    refine ⟨G, M, Wk.refl, _, _, .inr hT, atI_nat (j := 0) rfl, ledS_draw hp ho hT rfl hk hl fun M' y3 j hj wk => ?_⟩
    refine ⟨G, M', Wk.refl, _, _, .inr hT, atI_nat (j := 0) rfl, ?_⟩
    have hord := srcs_ord ho
    have hdl : d < ps.length := by have := (List.getElem?_eq_some_iff.mp hk).1; omega
    obtain ⟨i1, i2⟩ := getD_idx (ord_has hord d hdl)
    rw [List.length_map] at i1
    rw [← hj] at i1 i2
    -- the part there
    obtain ⟨us, hu, ha⟩ := hp
    obtain ⟨pp, hpp⟩ : ∃ pp, ps[j]? = some pp := ⟨_, List.getElem?_eq_getElem i1⟩
    obtain ⟨kj, hkj⟩ : ∃ kj, ks[j]? = some kj := ⟨_, List.getElem?_eq_getElem (by omega)⟩
    obtain ⟨v, hv, T2, w2, rfl, hT2, hw2⟩ := ha.get hpp
    obtain ⟨a1, a2, a3⟩ := a2_at ho.ok hkj hpp
    have hgd : ps.getD j ⟨0, none⟩ = pp := by rw [List.getD_eq_getElem?_getD, hpp]; rfl
    have hsrc : pp.src = d := by rw [srcs_getD i1] at i2; unfold srcOf at i2; rw [hgd] at i2; exact i2
    have hkk : kj = ⟨false, n⟩ := by rw [hsrc, hk] at a1; injection a1 with a1; exact a1.symm
    subst hkk
    obtain ⟨l, hl1, hol⟩ := a3 rfl
    rw [hl1] at hw2
    obtain ⟨cb, rfl, hcb⟩ := hw2
    have hil : i ∈ l := ord_has hol i hi
    obtain ⟨g1, g2⟩ := getD_idx hil
    refine ⟨G, M, wk, _, hT, fun z => absurd z.2 (by show ¬ HT.sIx 5 5 (some 3) = 5; decide), fun _ c1 f1 => ?_⟩
    have x1 := Ex.new (o := .tup (cutV (Sg.item b s d i).vs none (some 3))) f1
    have hcb1 : LstAt K (upd G c1 (.tup (cutV (Sg.item b s d i).vs none (some 3)))) M cb (natsV l) := lat_ex x1 hcb
    refine ⟨us, .ref T2, .inl (lat_ex x1 hu), atI_nat hv, [.int (pp.src : Nat), .ref cb], .ref cb, .inr (ex_t x1 hT2), atI_nat (j := 1) rfl, fun H hvv => ?_, (Sg.item b s d i).vs, .int (i : Nat), .inr (ex_t x1 hT), atI_nat (j := 4) rfl, natsV l, l.idxOf i, .int (i : Nat), hcb1, rfl, natsV_flat l, natsV_get (by rw [List.getElem?_eq_getElem g1]; rw [getD_lt g1] at g2; rw [g2]), ?_, fun m z' hm hz => ?_, sz2, fun c2 f2 => ?_⟩
    · exact .inl ⟨rfl, _, hvv.lst hcb1⟩
    · show ((i : Int) == (i : Int)) = true
      exact beq_self_eq_true _
    · unfold natsV at hz
      rw [List.getElem?_map] at hz
      cases hlm : l[m]? with
      | none => rw [hlm] at hz; cases hz
      | some y =>
        rw [hlm] at hz
        cases hz
        have hml : m < l.length := (List.getElem?_eq_some_iff.mp hlm).1
        have := idx_before hm hml
        rw [List.getD_eq_getElem?_getD, hlm] at this
        have this : y ≠ i := this
        show ((y : Int) == (i : Int)) = false
        exact beq_eq_false_iff_ne.mpr (by omega)
    have x2 := Ex.new (o := .tup [.int (j : Int), .int ((l.idxOf i : Nat) : Int)]) f2
    refine ⟨_, _, ex_t x2 sqt_new, sqt_new, by show 3 + 2 ≤ _; decide, fun z => (by cases z), fun _ z => (by cases z), fun _ _ c3 f3 => ?_⟩
    have x3 := Ex.new (o := .tup (cutV (Sg.item b s d i).vs none (some 3) ++ [.int (j : Int), .int ((l.idxOf i : Nat) : Int)])) f3
    refine ret0 (k c3 _ ((x1.trans x2).trans x3) ?_)
    have e : (ledS ps (.item b s d i)).vs = cutV (Sg.item b s d i).vs none (some 3) ++ [.int (j : Int), .int ((l.idxOf i : Nat) : Int)] := by
      show Sg.vs (.item b s ((ps.map (·.src)).idxOf d) ((turnOf ps ((ps.map (·.src)).idxOf d)).idxOf i)) = _
      rw [← hj]
      unfold turnOf
      rw [hgd, hl1]; rfl
    rw [e]
    exact sqt_new
/-! places of kinds -/
structure En where
  k : Kn
  b : Addr
  l : List Nat
def kKey (k : Kn) : List Key := [.inr k.txt, .inl (k.n : Int)]
def kvsE (es : List En) : List (List Key × V) := es.map fun e => (kKey e.k, .ref e.b)
def celE (es : List En) : Mem := es.map fun e => (e.b, .lst (natsV e.l))
theorem kKey_inj {a b : Kn} (h : kKey a = kKey b) : a = b := by
  unfold kKey at h
  injection h with h1 h2
  injection h2 with h2 _
  injection h1 with h1
  injection h2 with h2
  exact kn_ext (kn_txt_inj h1) (by omega)
theorem valE {es : List En} (hn : (es.map (·.k)).Nodup) : ∀ {i : Nat} {e : En}, es[i]? = some e → valV (kvsE es) (kKey e.k) = some (.ref e.b) := by
  induction es with
  | nil => intro i e h; simp at h
  | cons x es ih =>
    intro i e h
    rw [List.map_cons, List.nodup_cons] at hn
    cases i with
    | zero =>
      have : x = e := by simpa using h
      subst this
      exact valV_pos rfl
    | succ i =>
      have h : es[i]? = some e := by simpa using h
      have ne : ¬ (kKey x.k) = kKey e.k := fun z => hn.1 (by rw [kKey_inj z]; exact List.mem_map.mpr ⟨e, List.mem_of_getElem? h, rfl⟩)
      show valV ((kKey x.k, V.ref x.b) :: kvsE es) (kKey e.k) = _
      rw [valV_neg ne]
      exact ih hn.2 h
theorem valE_none {es : List En} {k : Kn} (h : ∀ e, e ∈ es → e.k ≠ k) : valV (kvsE es) (kKey k) = none := by
  induction es with
  | nil => rfl
  | cons x es ih =>
    show valV ((kKey x.k, V.ref x.b) :: kvsE es) (kKey k) = _
    rw [valV_neg (fun z => h x List.mem_cons_self (kKey_inj z)), ih fun e he => h e (List.mem_cons_of_mem _ he)]
theorem putE_new {es : List En} {k : Kn} {b : Addr} {l : List Nat} (h : ∀ e, e ∈ es → e.k ≠ k) : putK (kvsE es) (kKey k) (.ref b) = kvsE (es ++ [⟨k, b, l⟩]) := by
  unfold putK
  rw [if_neg]
  · unfold kvsE; rw [List.map_append]; rfl
  · intro z
    obtain ⟨x, hx, e⟩ := List.any_eq_true.mp z
    obtain ⟨e0, he, rfl⟩ := List.mem_map.mp hx
    exact h e0 he (kKey_inj (of_decide_eq_true e))
theorem putE_set {es : List En} (hn : (es.map (·.k)).Nodup) {i : Nat} {e : En} {b : Addr} {l : List Nat} (h : es[i]? = some e) : putK (kvsE es) (kKey e.k) (.ref b) = kvsE (es.set i ⟨e.k, b, l⟩) := by
  unfold putK
  rw [if_pos]
  · unfold kvsE
    rw [List.map_map]
    refine List.ext_getElem? fun j => ?_
    rw [List.getElem?_map, List.getElem?_map, List.getElem?_set]
    by_cases e1 : i = j
    · subst e1
      have hi := (List.getElem?_eq_some_iff.mp h).1
      rw [if_pos rfl, if_pos hi, h]
      show some (if kKey e.k = kKey e.k then _ else _) = _
      rw [if_pos rfl]; rfl
    · rw [if_neg e1]
      cases hj : es[j]? with
      | none => rfl
      | some x =>
        show some (if kKey x.k = kKey e.k then _ else _) = some (kKey x.k, V.ref x.b)
        rw [if_neg]
        intro z
        have z := kKey_inj z
        have hj2 := (List.getElem?_eq_some_iff.mp hj).1
        have hi2 := (List.getElem?_eq_some_iff.mp h).1
        have m1 : (es.map (·.k))[i]? = some e.k := by rw [List.getElem?_map, h]; rfl
        have m2 : (es.map (·.k))[j]? = some e.k := by rw [List.getElem?_map, hj, ← z]; rfl
        obtain ⟨l1, g1⟩ := List.getElem?_eq_some_iff.mp m1
        obtain ⟨l2, g2⟩ := List.getElem?_eq_some_iff.mp m2
        exact e1 ((List.getElem_inj hn).mp (g1.trans g2.symm))
  · exact List.any_eq_true.mpr ⟨_, List.mem_map.mpr ⟨e, List.mem_of_getElem? h, rfl⟩, decide_eq_true rfl⟩
def kEq (a b : Kn) : Bool := decide (a.leaf = b.leaf) && decide (a.n = b.n)
theorem kEq_iff {a b : Kn} : kEq a b = true ↔ a = b := by
  unfold kEq
  rw [Bool.and_eq_true, decide_eq_true_eq, decide_eq_true_eq]
  constructor
  · intro h; exact kn_ext h.1 h.2
  · intro h; subst h; exact ⟨rfl, rfl⟩
def kAtN (ks : List Kn) (j : Nat) : Kn := ks.getD j ⟨true, 0⟩
theorem kAtN_of {ks : List Kn} {j : Nat} {k : Kn} (h : ks[j]? = some k) : kAtN ks j = k := by unfold kAtN; rw [List.getD_eq_getElem?_getD, h]; rfl
def posE (ks : List Kn) (i : Nat) (k : Kn) : List Nat := (List.range i).filter fun j => kEq (kAtN ks j) k
theorem posE_len {ks : List Kn} {k : Kn} : ∀ i, i ≤ ks.length → (posE ks i k).length = ((ks.take i).filter fun x => kEq x k).length
  | 0, _ => rfl
  | i + 1, h => by
    have hi : ks[i]? = some ks[i] := List.getElem?_eq_getElem (by omega)
    unfold posE
    rw [filt_succ, List.length_append, take_succ' hi, List.filter_append, List.length_append]
    have ih := posE_len (ks := ks) (k := k) i (by omega)
    unfold posE at ih
    rw [ih, kAtN_of hi]
    congr 1
    by_cases e : kEq ks[i] k = true
    · rw [if_pos e, List.filter_cons_of_pos (p := fun x => kEq x k) e]; rfl
    · rw [if_neg e, List.filter_cons_of_neg (p := fun x => kEq x k) e]; rfl
end

section
variable {K : PySem.W.Frag} {vs : List V} {G : Hp} {M : Mem} {R : KR} {Z : KX}
theorem celE_len (es : List En) : (celE es).length = es.length := List.length_map _
theorem kvsE_len (es : List En) : (kvsE es).length = es.length := List.length_map _
theorem celE_get {es : List En} {m : Nat} {e : En} {N : Mem} (h : es[m]? = some e) : (celE es ++ N)[m]? = some (e.b, .lst (natsV e.l)) := by
  have hm := (List.getElem?_eq_some_iff.mp h).1
  rw [List.getElem?_append_left (by rw [celE_len]; exact hm)]
  unfold celE
  rw [List.getElem?_map, h]; rfl
theorem celE_set {es : List En} {m : Nat} {e : En} {N : Mem} {b : Addr} {l : List Nat} {k : Kn} (hm : m < es.length) : (celE es ++ N).set m (b, .lst (natsV l)) = celE (es.set m ⟨k, b, l⟩) ++ N := by
  rw [List.set_append_left _ _ (by rw [celE_len]; exact hm)]
  unfold celE
  rw [List.map_set]
theorem posE_none {ks : List Kn} {i : Nat} {k : Kn} (h : ∀ j, j < i → kAtN ks j ≠ k) : posE ks i k = [] := by
  unfold posE
  refine List.filter_eq_nil_iff.mpr fun j hj e => ?_
  exact h j (List.mem_range.mp hj) (kEq_iff.mp e)
theorem posE_succ {ks : List Kn} {i : Nat} {k : Kn} : posE ks (i + 1) k = posE ks i k ++ (if kEq (kAtN ks i) k = true then [i] else []) := filt_succ
/-- the first walk: the places of each kind -/
theorem paper_1 {D : Kd} {p a pl : Addr} {ks : List Kn} (hk : KnF K G a ks) (hkl : ks.length ≤ 6)
    (q : ∀ (es : List En) (y3 : Option V), (es.map (·.k)).Nodup → (∀ e, e ∈ es → e.l = posE ks ks.length e.k) → (∀ k, k ∈ ks → ∃ e, e ∈ es ∧ e.k = k) → es.length ≤ 6 → D.nx [some (.ref p), some (.ref a), some (.ref pl), y3, none, none, none, none, none] G ((pl, .dT (kvsE es)) :: (celE es ++ M))) :
    (kFor (kiR1 (kCons (kCB (kLen K) (kCons (kVar 1) (kNil))) (kNil))) (kgName 3) (rd_law_paper_b0 K)) D [some (.ref p), some (.ref a), some (.ref pl), none, none, none, none, none, none] G ((pl, .dT []) :: M) := by
  obtain ⟨us, hu, hul⟩ : ∃ us, SqL K G a us ∧ us.length = ks.length := by obtain ⟨us, h1, h2⟩ := hk; exact ⟨us, h1, h2.len⟩
  refine ⟨us, .inl (.inr hu), ⟨by omega, by omega⟩, fun i σ G' M' => ∃ (es : List En) (y3 : Option V), σ = [some (.ref p), some (.ref a), some (.ref pl), y3, none, none, none, none, none] ∧ G' = G ∧ M' = (pl, .dT (kvsE es)) :: (celE es ++ M) ∧ (es.map (·.k)).Nodup ∧ (∀ e, e ∈ es → e.l = posE ks i e.k) ∧ (∀ j, j < i → ∃ e, e ∈ es ∧ e.k = kAtN ks j) ∧ es.length ≤ i, ⟨[], none, rfl, rfl, rfl, List.nodup_nil, (fun _ z => nomatch z), (fun _ z => nomatch z), Nat.le_refl _⟩, fun _ _ _ _ _ _ => trivial, ?_, ?_⟩
  · rintro i σ G' M' hi ⟨es, y3, rfl, rfl, rfl, hnd, hl, hc, hel⟩
    have hi : i < (us.length : Int).toNat := hi
    obtain ⟨k, hki⟩ : ∃ k, ks[i]? = some k := ⟨_, List.getElem?_eq_getElem (by omega)⟩
    obtain ⟨us2, T, hu2, hv, hT, _⟩ := knF_get hk hki
    have hat := kAtN_of hki
    have hT' : G' T = some (.tup ((kKey k).map kV)) := hT
    refine asg_R (v := (i : Int)) (by omega) ⟨G', _, Wk.refl, ⟨kvsE es, at_n (n := 0) rfl⟩, us2, .ref T, .inl (.inr hu2), atI_nat hv, sz0, fun e0 fe => ?_⟩
    refine ⟨kvsE es, kKey k, T, at_n (n := 1) rfl, rfl, hT', sz1, fun f ff => ?_⟩
    by_cases hex : ∃ e, e ∈ es ∧ e.k = k
    · obtain ⟨e, he, hek⟩ := hex
      obtain ⟨m, hm⟩ := List.getElem?_of_mem he
      have hml := (List.getElem?_eq_some_iff.mp hm).1
      have hval : valV (kvsE es) (kKey k) = some (.ref e.b) := by rw [← hek]; exact valE hnd hm
      rw [hval]
      have hcell : ((f, HO.lst [V.int (i : Int)]) :: (e0, HO.lst []) :: (pl, HO.dT (kvsE es)) :: (celE es ++ M))[m + 3]? = some (e.b, .lst (natsV e.l)) := celE_get hm
      refine ⟨natsV e.l, [.int (i : Int)], at_n hcell, at_n (n := 0) rfl, ?_, fun c fc => ?_⟩
      · have : e.l.length ≤ i := by
          rw [hl e he]; unfold posE
          exact Nat.le_trans (List.length_filter_le _ _) (by rw [List.length_range]; exact Nat.le_refl _)
        rw [natsV_len]
        exact sz (by show e.l.length + 1 ≤ _; omega)
      refine ⟨us2, .ref T, .inl (.inr hu2), atI_nat hv, 3, kvsE es, kKey k, rfl, hT', by rw [kvsE_len]; exact Nat.lt_of_le_of_lt (show es.length ≤ 100 by omega) (by decide), ?_⟩
      have hput : putK (kvsE es) (kKey k) (.ref c) = kvsE (es.set m ⟨e.k, c, e.l ++ [i]⟩) := by rw [← hek]; exact putE_set hnd hm
      have hkeys : (es.set m ⟨e.k, c, e.l ++ [i]⟩).map (·.k) = es.map (·.k) := by
        rw [List.map_set]
        refine List.ext_getElem? fun j => ?_
        rw [List.getElem?_set]
        by_cases z : m = j
        · subst z
          rw [if_pos rfl, if_pos (by rw [List.length_map]; exact hml), List.getElem?_map, hm]; rfl
        · rw [if_neg z]
      refine ⟨G', (pl, .dT (kvsE (es.set m ⟨e.k, c, e.l ++ [i]⟩))) :: (celE (es.set m ⟨e.k, c, e.l ++ [i]⟩) ++ M), ?_, _, _, rfl, rfl, rfl, by rw [hkeys]; exact hnd, fun x hx => ?_, fun j hj => ?_, by rw [List.length_set]; omega⟩
      · rw [hput]
        show Wk G' ((c, HO.lst (natsV e.l ++ [.int (i : Int)])) :: (f, HO.lst [V.int (i : Int)]) :: (e0, HO.lst []) :: (pl, HO.dT (kvsE (es.set m ⟨e.k, c, e.l ++ [i]⟩))) :: (celE es ++ M)) _ _
        have h3 : es = es.take m ++ e :: es.drop (m + 1) := by
          have h2 := (List.getElem?_eq_some_iff.mp hm).2
          rw [← h2, List.getElem_cons_drop, List.take_append_drop]
        have e1 : celE es = celE (es.take m) ++ ((e.b, .lst (natsV e.l)) :: celE (es.drop (m + 1))) :=
          (congrArg celE h3).trans (by unfold celE; rw [List.map_append, List.map_cons])
        have e2 : celE (es.set m ⟨e.k, c, e.l ++ [i]⟩) = celE (es.take m) ++ ((c, .lst (natsV e.l ++ [.int (i : Int)])) :: celE (es.drop (m + 1))) := by
          rw [List.set_eq_take_append_cons_drop, if_pos hml]
          unfold celE
          rw [List.map_append, List.map_cons]
          congr 2
          show (c, HO.lst (natsV (e.l ++ [i]))) = _
          rw [natsV_app2]; rfl
        rw [e1, e2]
        refine (Wk.perm (M' := (e.b, HO.lst (natsV e.l)) :: (f, HO.lst [V.int (i : Int)]) :: (e0, HO.lst []) :: (pl, HO.dT (kvsE (es.set m ⟨e.k, c, e.l ++ [i]⟩))) :: ((celE (es.take m) ++ ((c, .lst (natsV e.l ++ [.int (i : Int)])) :: celE (es.drop (m + 1)))) ++ M)) ?_).trans (Wk.dropP [_, _, _])
        (classical (rw [List.perm_iff_count]; intro x; simp only [List.set_cons_zero, List.set_cons_succ, List.cons_append, List.nil_append, List.append_assoc, List.append_eq, List.count_append, List.count_cons, List.count_nil] <;> omega))
      · obtain ⟨j, hj⟩ := List.getElem?_of_mem hx
        rw [List.getElem?_set] at hj
        by_cases z : m = j
        · subst z
          rw [if_pos rfl, if_pos hml] at hj
          cases hj
          show e.l ++ [i] = posE ks (i + 1) e.k
          rw [posE_succ, hl e he, hat, hek, if_pos (kEq_iff.mpr rfl)]
        · rw [if_neg z] at hj
          have hxe := List.mem_of_getElem? hj
          rw [hl x hxe, posE_succ, hat, if_neg, List.append_nil]
          intro z2
          have z2 := kEq_iff.mp z2
          have m1 : (es.map (·.k))[m]? = some k := by rw [List.getElem?_map, hm, ← hek]; rfl
          have m2 : (es.map (·.k))[j]? = some k := by rw [List.getElem?_map, hj, z2]; rfl
          obtain ⟨l1, g1⟩ := List.getElem?_eq_some_iff.mp m1
          obtain ⟨l2, g2⟩ := List.getElem?_eq_some_iff.mp m2
          exact z ((List.getElem_inj hnd).mp (g1.trans g2.symm))
      · have key : ∀ k', k' ∈ es.map (·.k) → ∃ x, x ∈ es.set m ⟨e.k, c, e.l ++ [i]⟩ ∧ x.k = k' := fun k' hk' => by
          rw [← hkeys] at hk'
          obtain ⟨x, hx, e3⟩ := List.mem_map.mp hk'
          exact ⟨x, hx, e3⟩
        by_cases z : j = i
        · subst z
          rw [hat]
          exact key k (List.mem_map.mpr ⟨e, he, hek⟩)
        · obtain ⟨x, hx, e3⟩ := hc j (by omega)
          exact key _ (List.mem_map.mpr ⟨x, hx, e3⟩)
    · have hno : ∀ e, e ∈ es → e.k ≠ k := fun e he z => hex ⟨e, he, z⟩
      rw [valE_none hno]
      refine ⟨[], [.int (i : Int)], at_n (n := 1) rfl, at_n (n := 0) rfl, sz1, fun c fc => ?_⟩
      refine ⟨us2, .ref T, .inl (.inr hu2), atI_nat hv, 3, kvsE es, kKey k, rfl, hT', by rw [kvsE_len]; exact Nat.lt_of_le_of_lt (show es.length ≤ 100 by omega) (by decide), ?_⟩
      have hput : putK (kvsE es) (kKey k) (.ref c) = kvsE (es ++ [⟨k, c, [i]⟩]) := putE_new hno
      refine ⟨G', (pl, .dT (kvsE (es ++ [⟨k, c, [i]⟩]))) :: (celE (es ++ [⟨k, c, [i]⟩]) ++ M), ?_, _, _, rfl, rfl, rfl, ?_, fun x hx => ?_, fun j hj => ?_, by rw [List.length_append]; show es.length + 1 ≤ _; omega⟩
      · rw [hput]
        show Wk G' ((c, HO.lst [V.int (i : Int)]) :: (f, HO.lst [V.int (i : Int)]) :: (e0, HO.lst []) :: (pl, HO.dT (kvsE (es ++ [⟨k, c, [i]⟩]))) :: (celE es ++ M)) _ _
        have e2 : celE (es ++ [⟨k, c, [i]⟩]) = celE es ++ [(c, HO.lst [V.int (i : Int)])] := by unfold celE; rw [List.map_append]; rfl
        rw [e2]
        refine (Wk.perm (M' := (f, HO.lst [V.int (i : Int)]) :: (e0, HO.lst []) :: (pl, HO.dT (kvsE (es ++ [⟨k, c, [i]⟩]))) :: ((celE es ++ [(c, HO.lst [V.int (i : Int)])]) ++ M)) ?_).trans (Wk.dropP [_, _])
        (classical (rw [List.perm_iff_count]; intro x; simp only [List.set_cons_zero, List.set_cons_succ, List.cons_append, List.nil_append, List.append_assoc, List.append_eq, List.count_append, List.count_cons, List.count_nil] <;> omega))
      · rw [List.map_append, List.nodup_append]
        refine ⟨hnd, List.nodup_cons.mpr ⟨fun z => (nomatch z), List.nodup_nil⟩, fun x hx y hy z => ?_⟩
        obtain ⟨e, he, e3⟩ := List.mem_map.mp hx
        rw [List.mem_singleton.mp (show y ∈ [k] from hy)] at z
        exact hno e he (e3.trans z)
      · rcases List.mem_append.mp hx with hx | hx
        · rw [hl x hx, posE_succ, hat, if_neg, List.append_nil]
          intro z
          exact hno x hx (kEq_iff.mp z).symm
        · rw [List.mem_singleton.mp hx]
          show [i] = posE ks (i + 1) k
          rw [posE_succ, hat, if_pos (kEq_iff.mpr rfl), posE_none]; · rfl
          intro j hj z
          obtain ⟨e, he, e3⟩ := hc j hj
          exact hno e he (e3.trans z)
      · by_cases z : j = i
        · subst z
          exact ⟨_, List.mem_append.mpr (.inr List.mem_cons_self), hat.symm⟩
        · obtain ⟨x, hx, e3⟩ := hc j (by omega)
          exact ⟨x, List.mem_append.mpr (.inl hx), e3⟩
  · rintro σ G' M' ⟨es, y3, rfl, rfl, rfl, hnd, hl, hc, hel⟩
    have en : (srcR 0 (us.length : Int).toNat).n = ks.length := by show (us.length : Int).toNat = _; omega
    rw [en] at hl hc hel
    refine q es y3 hnd hl (fun k hk2 => ?_) (by omega)
    obtain ⟨j, hj⟩ := List.getElem?_of_mem hk2
    obtain ⟨e, he, e3⟩ := hc j (List.getElem?_eq_some_iff.mp hj).1
    exact ⟨e, he, by rw [e3, kAtN_of hj]⟩
theorem seqIx {r : Int} {n : Nat} (h0 : 0 ≤ r) (h1 : r < n) : seqIndex? r n = some r.toNat := by
  unfold seqIndex?
  simp only [if_neg (show ¬ r < 0 by omega)]
  rw [decide_eq_true h0, decide_eq_true h1]; rfl
theorem natsV_erase (l : List Nat) (r : Nat) : (natsV l).eraseIdx r = natsV (l.eraseIdx r) := by
  unfold natsV
  induction l generalizing r with
  | nil => rfl
  | cons x l ih =>
    cases r with
    | zero => rfl
    | succ r => rw [List.map_cons, List.eraseIdx_cons_succ, List.eraseIdx_cons_succ, List.map_cons, ih]
theorem erase_mem {l : List Nat} (hn : l.Nodup) {r y x : Nat} (h : l[r]? = some y) (hx : x ∈ l.eraseIdx r) : x ∈ l ∧ x ≠ y := by
  obtain ⟨i, hi⟩ := List.getElem?_of_mem hx
  rw [List.getElem?_eraseIdx] at hi
  obtain ⟨hr, e1⟩ := List.getElem?_eq_some_iff.mp h
  split at hi
  · rename_i hlt
    refine ⟨List.mem_of_getElem? hi, fun e => ?_⟩
    subst e
    obtain ⟨h2, e2⟩ := List.getElem?_eq_some_iff.mp hi
    have := (List.getElem_inj hn).mp (e1.trans e2.symm)
    omega
  · rename_i hlt
    refine ⟨List.mem_of_getElem? hi, fun e => ?_⟩
    subst e
    obtain ⟨h2, e2⟩ := List.getElem?_eq_some_iff.mp hi
    have := (List.getElem_inj hn).mp (e1.trans e2.symm)
    omega
/-- what a list of places holds still -/
structure EnOk (ks : List Kn) (i : Nat) (us : List Nat) (e : En) : Prop where
  nd : e.l.Nodup
  at_ : ∀ j, j ∈ e.l → ks[j]? = some e.k ∧ j ∉ us
  len : e.l.length = ((ks.drop i).filter fun x => kEq x e.k).length
theorem pf_law_paper (h : S_law_paper K vs G M R Z) : rd_law_paper K (ends R Z) (sta 9 vs) G M := by
  obtain ⟨_, _, rfl, p, n, c, s, a, ks, rfl, rfl, hn, hs, hk, hkn, hkl, q⟩ := sp2_of h
  clear h
  have h100 : (100 : Int) < 2 ^ 200 := by decide
  refine ⟨G, M, Wk.refl, fun pl fpl => ?_⟩
  refine ⟨G, _, Wk.refl, paper_1 hk hkl fun es0 y3 hnd0 hl0 hc0 hel0 => ?_⟩
  refine ⟨G, _, Wk.refl, sz0, fun pp fpp => ?_⟩
  have hk0 := hk
  obtain ⟨us, hu, hA⟩ := hk0
  have hul := hA.len
  have start : ∀ e, e ∈ es0 → EnOk ks 0 [] e := fun e he => by
    refine ⟨?_, fun j hj => ?_, ?_⟩
    · rw [hl0 e he]
      unfold posE
      exact List.Nodup.sublist List.filter_sublist List.nodup_range
    · rw [hl0 e he] at hj
      unfold posE at hj
      obtain ⟨h1, h2⟩ := List.mem_filter.mp hj
      have h1 := List.mem_range.mp h1
      have hj2 : ks[j]? = some ks[j] := List.getElem?_eq_getElem h1
      have := kEq_iff.mp h2
      rw [kAtN_of hj2] at this
      rw [hj2, this]
      exact ⟨rfl, fun z => nomatch z⟩
    · rw [hl0 e he, posE_len _ (Nat.le_refl _), List.take_length, List.drop_zero]
  refine ⟨G, _, Wk.refl, us, .inr hu, fun i σ G' M' => ∃ (acc : List V) (ps : List Pp) (es : List En) (c s : Int) (y3 y5 y6 y7 y8 : Option V), σ = [some (.ref p), some (.ref a), some (.ref pl), y3, some (.ref pp), y5, y6, y7, y8] ∧ Ex G G' ∧ G' pp = none ∧ M' = (pp, .lst acc) :: (pl, .dT (kvsE es)) :: (celE es ++ M.set n (p, pool c s)) ∧ PoolOk s ∧ A2 (PpM K G' []) acc ps ∧ A2 (PpOk ks) (ks.take i) ps ∧ (ps.map (·.src)).Nodup ∧ (es.map (·.k)).Nodup ∧ (∀ e, e ∈ es → EnOk ks i (ps.map (·.src)) e) ∧ (∀ k, k ∈ ks → ∃ e, e ∈ es ∧ e.k = k),
    ⟨[], [], es0, c, s, y3, none, none, none, none, rfl, Ex.refl, fpp.1, by rw [set_self hn], hs, .nil, .nil, List.nodup_nil, hnd0, start, hc0⟩, ?_, ?_, ?_⟩
  · rintro i σ G' M' _ ⟨acc, ps, es, c, s, y3, y5, y6, y7, y8, rfl, ex, gp, rfl, _⟩; exact .inr (ex_l ex hu)
  · rintro i σ G' M' hi ⟨acc, ps, es, c1, s1, y3, y5, y6, y7, y8, rfl, ex, gp, rfl, hs1, hacc, hok, hsn, hnd, hen, hc⟩
    have hi : i < us.length := hi
    obtain ⟨k, hki⟩ : ∃ k, ks[i]? = some k := ⟨_, List.getElem?_eq_getElem (by omega)⟩
    have hkm := List.mem_of_getElem? hki
    obtain ⟨v0, hv, T, rfl, hT⟩ := hA.get hki
    have hT' : G' T = some (.tup ((kKey k).map kV)) := ex _ _ hT
    obtain ⟨e, he, hek⟩ := hc k hkm
    obtain ⟨m, hm⟩ := List.getElem?_of_mem he
    have hml := (List.getElem?_eq_some_iff.mp hm).1
    obtain ⟨e1, e2, e3⟩ := hen e he
    have hdrop : ks.drop i = k :: ks.drop (i + 1) := (List.drop_eq_getElem_cons (by omega)).trans (by rw [(List.getElem?_eq_some_iff.mp hki).2])
    have hlen : e.l.length = ((ks.drop (i + 1)).filter fun x => kEq x e.k).length + 1 := by
      rw [e3, hdrop, List.filter_cons_of_pos (p := fun x => kEq x e.k) (kEq_iff.mpr hek.symm), List.length_cons]
    have hpsl : ps.length = i := by have := hok.len; rw [List.length_take] at this; omega
    have hal := hacc.len
    have hlong : e.l.length ≤ 6 := by
      rw [e3]
      refine Nat.le_trans (List.length_filter_le _ _) ?_
      rw [List.length_drop]; omega
    refine asg_L hv ⟨G', _, Wk.refl, kvsE es, kKey k, .ref e.b, at_n (n := 1) rfl, hT', by rw [← hek]; exact valE hnd hm, ?_⟩
    -- a place taken
    have hcell : ∀ N : Mem, ((pp, HO.lst acc) :: (pl, HO.dT (kvsE es)) :: (celE es ++ N))[m + 2]? = some (e.b, .lst (natsV e.l)) := fun N => celE_get hm
    have hpool : ∀ {es' : List En} {A B : Addr × HO} {c' s' : Int}, es'.length = es.length → (A :: B :: (celE es' ++ M.set n (p, pool c' s')))[es.length + n + 2]? = some (p, pool c' s') := fun {es' A B c' s'} h => by
      show (celE es' ++ M.set n (p, pool c' s'))[es.length + n]? = _
      rw [List.getElem?_append_right (by rw [celE_len, h]; omega), celE_len, h, Nat.add_sub_cancel_left]; exact set_n hn
    have hpset : ∀ {es' : List En} {A B : Addr × HO} {c' s' c'' s'' : Int}, es'.length = es.length → (A :: B :: (celE es' ++ M.set n (p, pool c' s'))).set (es.length + n + 2) (p, pool c'' s'') = A :: B :: (celE es' ++ M.set n (p, pool c'' s'')) := fun {es' A B c' s' c'' s''} h => by
      show A :: B :: (celE es' ++ M.set n (p, pool c' s')).set (es.length + n) (p, pool c'' s'') = _
      rw [List.set_append_right _ _ (by rw [celE_len, h]; omega), celE_len, h, Nat.add_sub_cancel_left, List.set_set]
    refine ⟨G', _, Wk.refl, tyl_n (hcell _), natsV e.l, .inl (.inl (List.mem_of_getElem? (hcell _))), p, ((natsV e.l).length : Int), es.length + n + 2, c1, s1, rfl, rfl, hpool rfl, hs1, by rw [natsV_len]; omega, by rw [natsV_len]; omega, fun r c2 s2 r0 r1 hs2 => ?_⟩
    rw [hpset rfl]
    rw [natsV_len] at r1
    obtain ⟨rn, rfl⟩ := Int.eq_ofNat_of_zero_le r0
    have hrl : rn < e.l.length := by omega
    obtain ⟨j, hj⟩ : ∃ j, e.l[rn]? = some j := ⟨_, List.getElem?_eq_getElem hrl⟩
    obtain ⟨g1, g2⟩ := e2 j (List.mem_of_getElem? hj)
    refine ⟨m + 2, natsV e.l, rn, .int (j : Nat), hcell _, by omega, by omega, seqIx (by omega) (by rw [natsV_len]; omega), natsV_get hj, ?_⟩
    obtain ⟨es2, hes2⟩ : ∃ es2, es2 = es.set m ⟨e.k, e.b, e.l.eraseIdx rn⟩ := ⟨_, rfl⟩
    have hes2l : es2.length = es.length := by rw [hes2, List.length_set]
    have hkv : kvsE es2 = kvsE es := by
      rw [hes2]
      unfold kvsE
      rw [List.map_set]
      refine List.ext_getElem? fun x => ?_
      rw [List.getElem?_set]
      by_cases z : m = x
      · subst z
        rw [if_pos rfl, if_pos (by rw [List.length_map]; exact hml), List.getElem?_map, hm]; rfl
      · rw [if_neg z]
    have hM2 : ((pp, HO.lst acc) :: (pl, HO.dT (kvsE es)) :: (celE es ++ M.set n (p, pool c2 s2))).set (m + 2) (e.b, .lst ((natsV e.l).eraseIdx rn)) = (pp, HO.lst acc) :: (pl, HO.dT (kvsE es2)) :: (celE es2 ++ M.set n (p, pool c2 s2)) := by
      show (pp, HO.lst acc) :: (pl, HO.dT (kvsE es)) :: (celE es ++ M.set n (p, pool c2 s2)).set m (e.b, .lst ((natsV e.l).eraseIdx rn)) = _
      rw [natsV_erase, celE_set (e := e) (k := e.k) hml, ← hes2, hkv]
    rw [hM2]
    refine ⟨G', _, Wk.refl, ?_⟩
    -- the end of a turn
    have fin : ∀ (G2 : Hp) (u : V) (turn : Option (List Nat)) (c' s' : Int) (y8 : Option V), Ex G' G2 → G2 pp = none → PpM K G2 [] u ⟨j, turn⟩ → PpOk ks k ⟨j, turn⟩ → PoolOk s' → ∃ G3 M3, Wk G2 ((pp, HO.lst (acc ++ [u])) :: (pl, HO.dT (kvsE es2)) :: (celE es2 ++ M.set n (p, pool c' s'))) G3 M3 ∧ ∃ (acc : List V) (ps : List Pp) (es : List En) (c s : Int) (y3' y5' y6' y7' y8' : Option V), [some (V.ref p), some (.ref a), some (.ref pl), y3, some (.ref pp), some (.ref T), some (.ref e.b), some (.int (j : Nat)), y8] = [some (.ref p), some (.ref a), some (.ref pl), y3', some (.ref pp), y5', y6', y7', y8'] ∧ Ex G G3 ∧ G3 pp = none ∧ M3 = (pp, .lst acc) :: (pl, .dT (kvsE es)) :: (celE es ++ M.set n (p, pool c s)) ∧ PoolOk s ∧ A2 (PpM K G3 []) acc ps ∧ A2 (PpOk ks) (ks.take (i + 1)) ps ∧ (ps.map (·.src)).Nodup ∧ (es.map (·.k)).Nodup ∧ (∀ e, e ∈ es → EnOk ks (i + 1) (ps.map (·.src)) e) ∧ (∀ k, k ∈ ks → ∃ e, e ∈ es ∧ e.k = k) := fun G2 u turn c' s' y8 ex2 gp2 hu2 hpo hs' => by
      have hkeys : es2.map (·.k) = es.map (·.k) := by
        rw [hes2, List.map_set]
        refine List.ext_getElem? fun x => ?_
        rw [List.getElem?_set]
        by_cases z : m = x
        · subst z
          rw [if_pos rfl, if_pos (by rw [List.length_map]; exact hml), List.getElem?_map, hm]; rfl
        · rw [if_neg z]
      refine ⟨G2, _, Wk.refl, acc ++ [u], ps ++ [⟨j, turn⟩], es2, c', s', _, _, _, _, _, rfl, ex.trans ex2, gp2, rfl, hs', (hacc.mono fun _ _ z => z.ex ex2).app (.cons hu2 .nil), ?_, ?_, by rw [hkeys]; exact hnd, fun x hx => ?_, fun k' hk' => ?_⟩
      · rw [take_succ' hki]; exact hok.app (.cons hpo .nil)
      · rw [List.map_append, List.nodup_append]
        refine ⟨hsn, List.nodup_cons.mpr ⟨fun z => (nomatch z), List.nodup_nil⟩, fun x hx y hy z => ?_⟩
        rw [List.mem_singleton.mp (show y ∈ [j] from hy)] at z
        rw [z] at hx; exact g2 hx
      · obtain ⟨x', hx'⟩ := List.getElem?_of_mem hx
        rw [hes2, List.getElem?_set] at hx'
        by_cases z : m = x'
        · subst z
          rw [if_pos rfl, if_pos hml] at hx'
          cases hx'
          refine ⟨List.Nodup.sublist (List.eraseIdx_sublist _ _) e1, fun y hy => ?_, ?_⟩
          · obtain ⟨h1, h2⟩ := erase_mem e1 hj hy
            obtain ⟨h3, h4⟩ := e2 y h1
            refine ⟨h3, fun hz => ?_⟩
            rw [List.map_append] at hz
            rcases List.mem_append.mp hz with hz | hz
            · exact h4 hz
            · exact h2 (List.mem_singleton.mp hz)
          · show (e.l.eraseIdx rn).length = _
            rw [List.length_eraseIdx, if_pos hrl, hlen]; rfl
        · rw [if_neg z] at hx'
          have hxm := List.mem_of_getElem? hx'
          obtain ⟨f1, f2, f3⟩ := hen x hxm
          have hne : x.k ≠ k := fun z2 => by
            have m1 : (es.map (·.k))[m]? = some k := by rw [List.getElem?_map, hm, ← hek]; rfl
            have m2 : (es.map (·.k))[x']? = some k := by rw [List.getElem?_map, hx', ← z2]; rfl
            obtain ⟨l1, q1⟩ := List.getElem?_eq_some_iff.mp m1
            obtain ⟨l2, q2⟩ := List.getElem?_eq_some_iff.mp m2
            exact z ((List.getElem_inj hnd).mp (q1.trans q2.symm))
          refine ⟨f1, fun y hy => ?_, ?_⟩
          · obtain ⟨h3, h4⟩ := f2 y hy
            refine ⟨h3, fun hz => ?_⟩
            rw [List.map_append] at hz
            rcases List.mem_append.mp hz with hz | hz
            · exact h4 hz
            · have : y = j := List.mem_singleton.mp hz
              subst this
              rw [g1] at h3
              injection h3 with h3
              exact hne (h3.symm.trans hek)
          · rw [f3, hdrop, List.filter_cons_of_neg (p := fun y => kEq y x.k) (fun z2 => hne (kEq_iff.mp z2).symm)]
      · have : k' ∈ es2.map (·.k) := by
          rw [hkeys]
          obtain ⟨x, hx, e4⟩ := hc k' hk'
          exact List.mem_map.mpr ⟨x, hx, e4⟩
        obtain ⟨x, hx, e4⟩ := List.mem_map.mp this
        exact ⟨x, hx, e4⟩
    have kk := hkn k hkm
    have hks : ks[j]? = some k := by rw [g1, hek]
    have haccl : acc.length < sizeLine := Nat.lt_of_le_of_lt (show acc.length ≤ 100 by omega) (by decide)
    refine ⟨G', _, Wk.refl, [.str k.txt, .int k.n], .str k.txt, .inr (sqt_of hT'), atI_nat (j := 0) rfl, ?_⟩
    show if decide (V.str k.txt = .str "shuffle") = true then _ else _
    rw [txt_shuf0]
    cases hlf : k.leaf with
    | true =>
      refine ⟨G', _, Wk.refl, tyl_n (n := 0) rfl, sz2, fun P fP => ?_⟩
      have ex2 := Ex.new (o := .tup [.int (j : Int), .non]) fP
      have hPp : pp ≠ P := fP.2 (pp, .lst acc) List.mem_cons_self
      obtain ⟨G3, M3, h1, h2⟩ := fin _ (.ref P) none c2 s2 (some .non) ex2 (by rw [upd_ne hPp]; exact gp) ⟨P, .non, rfl, sqt_new, rfl⟩ ⟨hks, fun _ => rfl, fun z => by rw [hlf] at z; cases z⟩ hs2
      exact ⟨0, acc, rfl, haccl, G3, M3, h1, h2⟩
    | false =>
      have k1 := kk.2.2 hlf
      refine ⟨G', _, Wk.refl, [.str k.txt, .int k.n], .int k.n, .inr (sqt_of hT'), atI_nat (j := 1) rfl, p, es.length + n + 2, c2, s2, k.n, rfl, rfl, kk.1, hpool hes2l, hs2, fun t lt c3 s3 hlt hs3 ft => ?_⟩
      rw [hpset hes2l]
      refine ⟨G', _, Wk.refl, tyl_n (n := 1) rfl, sz2, fun P fP => ?_⟩
      have ex2 := Ex.new (o := .tup [.int (j : Int), .ref t]) fP
      have hPt : t ≠ P := fP.2 (t, .lst (natsV lt)) List.mem_cons_self
      have hPp : pp ≠ P := fP.2 (pp, .lst acc) (List.mem_cons_of_mem _ List.mem_cons_self)
      have htp : pp ≠ t := ft.2 (pp, .lst acc) List.mem_cons_self
      have gt : (upd G' P (.tup [.int (j : Int), .ref t])) t = none := by rw [upd_ne hPt]; exact ft.1
      have ex3 := Ex.new' (o := .lst (natsV lt)) gt
      obtain ⟨G3, M3, h1, h2⟩ := fin (upd (upd G' P (.tup [.int (j : Int), .ref t])) t (.lst (natsV lt))) (.ref P) (some lt) c3 s3 (some (.ref t)) (ex2.trans ex3) (by rw [upd_ne htp, upd_ne hPp]; exact gp) ⟨P, .ref t, rfl, ex_t ex3 sqt_new, t, rfl, .inr sql_new⟩ ⟨hks, fun z => (by rw [hlf] at z; cases z), fun _ => ⟨lt, rfl, hlt⟩⟩ hs3
      exact ⟨1, acc, rfl, haccl, G3, M3, Wk.frz0.trans h1, h2⟩
  · rintro σ G' M' ⟨acc, ps, es, c1, s1, y3, y5, y6, y7, y8, rfl, ex, gp, rfl, hs1, hacc, hok, hsn, hnd, hen, hc⟩
    have hok : A2 (PpOk ks) (ks.take us.length) ps := hok
    rw [hul, List.take_length] at hok
    have ex2 := Ex.new' (o := .lst acc) gp
    refine ⟨G', _, Wk.refl, retW (M' := M.set n (p, pool c1 s1)) ?_ (q pp ps c1 s1 _ (ex.trans ex2) ⟨acc, .inr sql_new, hacc.mono fun _ _ z => z.ex ex2⟩ ⟨hok, hsn⟩ hs1)⟩
    exact Wk.frz0.trans (Wk.drop0.trans (Wk.dropP (celE es)))
end

section
variable {K : PySem.W.Frag} {vs : List V} {G : Hp} {M : Mem} {R : KR} {Z : KX}
theorem ledS_ok {ks : List Kn} {ps : List Pp} {g : Sg} (h : PapOk ks ps) (o : SgOk ks g) : SgOk ks (ledS ps g) ∧ ledB ps g (ledS ps g) = true := by
  have hord := srcs_ord h
  have key : ∀ {d : Nat} {k : Kn}, ks[d]? = some k → ∃ pp, ks[(ps.map (·.src)).idxOf d]? = some k ∧ ps.getD ((ps.map (·.src)).idxOf d) ⟨0, none⟩ = pp ∧ pp.src = d ∧ (k.leaf = false → ∃ l, pp.turn = some l ∧ OrdOk k.n l) := fun {d k} hk => by
    have hdl : d < ps.length := by have := (List.getElem?_eq_some_iff.mp hk).1; have := h.len; omega
    obtain ⟨i1, i2⟩ := getD_idx (ord_has hord d hdl)
    rw [List.length_map] at i1
    obtain ⟨kj, hkj⟩ : ∃ kj, ks[(ps.map (·.src)).idxOf d]? = some kj := ⟨_, List.getElem?_eq_getElem (by have := h.len; omega)⟩
    obtain ⟨pp, a1, a2, b1, b2, b3⟩ := h.at hkj
    rw [srcs_getD i1] at i2
    unfold srcOf at i2
    rw [a2] at i2
    rw [i2, hk] at b1
    have e : k = kj := by injection b1
    subst e
    exact ⟨pp, hkj, a2, i2, b3⟩
  cases g with
  | room b s r => exact ⟨trivial, by simp [ledS, ledB]⟩
  | item b s d i =>
    obtain ⟨n, hn, hi⟩ := o
    obtain ⟨pp, k1, k2, k3, k4⟩ := key hn
    obtain ⟨l, l1, l2⟩ := k4 rfl
    obtain ⟨g1, g2⟩ := getD_idx (ord_has l2 i hi)
    have ht : turnOf ps ((ps.map (·.src)).idxOf d) = l := by unfold turnOf; rw [k2, l1]; rfl
    refine ⟨⟨n, k1, ?_⟩, ?_⟩
    · rw [ht]; have := l2.len; show l.idxOf i < n; have hn2 : l.length = n := l2.len; omega
    · show (decide (b = b) && (decide (s = s) && (decide (srcOf ps ((ps.map (·.src)).idxOf d) = d) && decide ((turnOf ps ((ps.map (·.src)).idxOf d)).getD ((turnOf ps ((ps.map (·.src)).idxOf d)).idxOf i) 0 = i)))) = true
      have hs : srcOf ps ((ps.map (·.src)).idxOf d) = d := by unfold srcOf; rw [k2]; exact k3
      rw [hs, ht, g2]; simp
  | way b s d p e =>
    obtain ⟨hh, hn, hp, he⟩ := o
    obtain ⟨pp, k1, k2, k3, k4⟩ := key hn
    have hs : srcOf ps ((ps.map (·.src)).idxOf d) = d := by unfold srcOf; rw [k2]; exact k3
    refine ⟨⟨hh, k1, hp, he⟩, ?_⟩
    show (decide (b = b) && (decide (s = s) && (decide (srcOf ps ((ps.map (·.src)).idxOf d) = d) && (decide (p = p) && decide (e = e))))) = true
    rw [hs]; simp
theorem SgsG.at {a : Addr} {sg : List Sg} (h : SgsG K G a sg) : ∃ us, (∀ {Mx : Mem}, LstAt K G Mx a us) ∧ DpAll K G us (sg.map sgD) := by
  obtain ⟨us, h1, h2⟩ := h
  exact ⟨us, fun {Mx} => .inr h1, h2⟩
theorem drsG_at {b : Addr} {ds : List Dr} (h : DrsG K G b ds) : DrAt K G M b ds := by
  obtain ⟨us, h1, h2⟩ := h
  refine ⟨us, .inr h1, h2.mono fun v d z => ?_⟩
  cases d with
  | leaf n => exact z
  | row l => obtain ⟨c, rfl, hc⟩ := z; exact ⟨c, rfl, hc.elim (fun z => nomatch z) .inr⟩
theorem pf_law_holds (h : S_law_holds K vs G M R Z) : rd_law_holds K (ends R Z) (sta 6 vs) G M := by
  obtain ⟨_, _, _, _, _, rfl, a, o1, o2, q0, b, ks, one, other, ps, ds, rfl, rfl, rfl, rfl, rfl, hk, hkn, hkl, h1, h2, l1, l2, ok1, ok2, hp, hpo, hb, hok, q⟩ := sp5_of h
  clear h
  obtain ⟨us1, hu1, hd1⟩ := h1.at
  obtain ⟨us2, hu2, hd2⟩ := h2.at
  have hka : ∀ {G' : Hp} {Mx : Mem}, Ex G G' → KnAt K G' Mx a ks := fun {G' Mx} ex => knF_at (hk.ex ex) hkn (by omega)
  have kd : ∀ {G' : Hp} {Mx : Mem}, Ex G G' → ∃ uk, LstAt K G' Mx a uk ∧ DpAll K G' uk (ks.map knD) := fun {G' Mx} ex => by
    obtain ⟨uk, z1, z2, _⟩ := hka (Mx := Mx) ex
    exact ⟨uk, z1, z2⟩
  refine ⟨G, M, Wk.refl, a, o1, o2, ks, us1, us2, one, other, rfl, rfl, rfl, hka Ex.refl, hu1, hd1, hu2, hd2, by omega, by omega, ok1, ok2, .inr ⟨q0, ps, rfl, hp.any, hpo, fun G1 ex1 => ?_⟩⟩
  show if (!leadB ps one other) = true then _ else _
  refine ite2' (fun e => ⟨G1, M, Wk.refl, ret0 (q G1 ex1)⟩) (fun e => ?_)
  have hlead : leadB ps one other = true := by
    cases z : leadB ps one other with
    | true => rfl
    | false => rw [z] at e; cases e
  have drs : ∀ {G' : Hp}, Ex G G' → DrsG K G' b ds := fun {G'} ex => hb.ex ex
  obtain ⟨uk, z1, z2⟩ := kd (Mx := M) ex1
  refine ⟨G1, M, Wk.refl, a, o1, b, uk, us1, ks, one, ds, rfl, rfl, rfl, z1, z2, hkn, lat_ex ex1 hu1, ex_ds ex1 _ hd1, drsG_at (drs ex1), hok, by omega, by omega, ok1, fun t1 ut1 G2 ex2 hdt1 => ?_⟩
  have ex12 := ex1.trans ex2
  refine ⟨q0, b, ks, ps, ds, rfl, rfl, (hp.ex ex12).any, hpo, hkn, by omega, drsG_at (drs ex12), hok, fun lb G3 ex3 hlb => ?_⟩
  have ex13 := ex12.trans ex3
  obtain ⟨uk, z1, z2⟩ := kd ex13
  refine ⟨a, o2, lb, uk, us2, ks, other, _, rfl, rfl, rfl, z1, z2, hkn, lat_ex ex13 hu2, ex_ds ex13 _ hd2, drsG_at hlb, (ledD_ok hok hpo), by omega, by omega, ok2, fun t2 ut2 G4 ex4 hdt2 => ?_⟩
  have ex14 := ex13.trans ex4
  rw [← lead_seen hok hpo ok1 ok2 hlead] at hdt2
  refine eq_ref (n := 2) (neg := true) (dat_list (lat_n (n := 1) rfl) (dats_g (ex_ds (ex3.trans ex4) _ hdt1))) (dat_list (lat_n (n := 0) rfl) (dats_g hdt2)) (shp_tchs _) (by decide) ?_
  refine ⟨G4, M, Wk.dropP [_, _], q0, ks, ps, rfl, (hp.ex ex14).any, hpo, hkn, by omega, fun bp G5 ex5 hbp => ?_⟩
  have ex15 := ex14.trans ex5
  have hbo := back_ok hpo
  refine ⟨G5, M, Wk.refl, a, o2, o1, ks, us2, us1, other, one, rfl, rfl, rfl, hka ex15, lat_ex ex15 hu2, ex_ds ex15 _ hd2, lat_ex ex15 hu1, ex_ds ex15 _ hd1, by omega, by omega, ok2, ok1, .inr ⟨bp, backP ps, rfl, hbp.any, hbo, fun G6 ex6 => ?_⟩⟩
  have hback := back_lead hpo ok1 ok2 hlead
  rw [hback]
  have ex16 := ex15.trans ex6
  obtain ⟨uk, z1, z2⟩ := kd (Mx := M) ex16
  refine ⟨G6, M, Wk.refl, a, o2, b, uk, us2, ks, other, ds, rfl, rfl, rfl, z1, z2, hkn, lat_ex ex16 hu2, ex_ds ex16 _ hd2, drsG_at (drs ex16), hok, by omega, by omega, ok2, fun t3 ut3 G7 ex7 hdt3 => ?_⟩
  have ex17 := ex16.trans ex7
  refine ⟨bp, b, ks, backP ps, ds, rfl, rfl, (hbp.ex (ex6.trans ex7)).any, hbo, hkn, by omega, drsG_at (drs ex17), hok, fun lc G8 ex8 hlc => ?_⟩
  have ex18 := ex17.trans ex8
  obtain ⟨uk, z1, z2⟩ := kd ex18
  refine ⟨a, o1, lc, uk, us1, ks, one, _, rfl, rfl, rfl, z1, z2, hkn, lat_ex ex18 hu1, ex_ds ex18 _ hd1, drsG_at hlc, (ledD_ok hok hbo), by omega, by omega, ok1, fun t4 ut4 G9 ex9 hdt4 => ?_⟩
  rw [← lead_seen hok hbo ok2 ok1 hback] at hdt4
  refine eq_ref (n := 2) (neg := false) (dat_list (lat_n (n := 1) rfl) (dats_g (ex_ds (ex8.trans ex9) _ hdt3))) (dat_list (lat_n (n := 0) rfl) (dats_g hdt4)) (shp_tchs _) (by decide) ?_
  exact retW (Wk.dropP [_, _]) (q G9 (ex18.trans ex9))
theorem sgs_nil {a e : Addr} {us : List V} {sg : List Sg} {neg : Bool} (h1 : LstAt K G M a us) (hd : DpAll K G us (sg.map sgD)) (h2 : LstAt K G M e []) (q : R (.bl (if neg then !sg.isEmpty else sg.isEmpty)) G M) : kEqv neg K (.ref a) (.ref e) G M R := by
  refine ⟨.list (sg.map sgD), .list [], dat_list h1 (dats_g hd), dat_list h2 dats_nil, (shp_sgs sg).shaped (by decide), (shp_nats (n := 0) []).shaped (by decide), ?_⟩
  rw [eqvL_nil, show (sg.map sgD).isEmpty = sg.isEmpty by cases sg <;> rfl]; exact q
theorem dpall_set : ∀ {us : List V} {ds : List PyData} {i : Nat} {v : V} {d : PyData}, DpAll K G us ds → Dp K G v d → DpAll K G (us.set i v) (ds.set i d)
  | _, _, _, _, _, .nil, _ => .nil
  | _, _, 0, _, _, .cons _ t, h => .cons h t
  | _, _, i + 1, _, _, .cons a t, h => .cons a (dpall_set t h)
theorem pf_law_bent (h : S_law_bent K vs G M R Z) : rd_law_bent K (ends R Z) (sta 5 vs) G M := by
  obtain ⟨_, _, _, rfl, p, n, c, s, a, o, ks, sg, rfl, rfl, rfl, hn, hs, hk, hkn, hkl, hsg, hl, hok, q⟩ := sp3_of h
  clear h
  have h200 : (1000 : Int) < 2 ^ 200 := by decide
  obtain ⟨us0, hu0, hd0⟩ := hsg
  refine ⟨G, M, Wk.refl, us0, lst_g hu0, fun b fb => ?_⟩
  refine ⟨G, _, Wk.refl, p, 3, n + 1, c, s, rfl, rfl, hn, hs, by decide, by decide, fun r c1 s1 r0 r1 hs1 => ⟨⟨by omega, by omega⟩, ?_⟩⟩
  refine ⟨fun i σ G' M' => ∃ (us : List V) (sg' : List Sg) (c s : Int) (y4 : Option V), σ = [some (.ref p), some (.ref a), some (.ref o), some (.ref b), y4] ∧ Ex G G' ∧ M' = (b, .lst us) :: M.set n (p, pool c s) ∧ PoolOk s ∧ DpAll K G' us (sg'.map sgD) ∧ sg'.length = sg.length ∧ ∀ s, s ∈ sg' → SgOk ks s, ⟨us0, sg, c1, s1, none, rfl, Ex.refl, rfl, hs1, hd0, rfl, hok⟩, fun _ _ _ _ _ _ => trivial, ?_, ?_⟩
  · rintro i σ G' M' hi ⟨us, sg', c2, s2, y4, rfl, ex, rfl, hs2, hd, hl2, hok2⟩
    have hul := dpall_len hd
    rw [List.length_map] at hul
    refine asg_R (v := (i : Int)) (by omega) ⟨G', _, Wk.refl, sz0, fun e fe => ?_⟩
    refine sgs_nil (neg := true) (lat_n (n := 1) rfl) hd (lat_n (n := 0) rfl) ?_
    show if (!sg'.isEmpty) = true then _ else _
    refine ite2' (fun e1 => ?_) (fun e1 => ⟨G', _, Wk.drop0, us, sg', c2, s2, _, rfl, ex, rfl, hs2, hd, hl2, hok2⟩)
    have hne : 0 < sg'.length := by cases sg' with | nil => cases e1 | cons => exact Nat.succ_pos _
    refine ⟨G', _, Wk.drop0, p, n + 1, c2, s2, a, ks, rfl, rfl, set_n hn, hs2, hk.ex ex, hkn, hkl, fun T g c3 s3 G2 ex2 hT hg hs3 => ?_⟩
    refine ⟨us, .inl (.inl List.mem_cons_self), p, (us.length : Int), n + 1, c3, s3, rfl, rfl, set_n (n := n) (set_n hn), hs3, by omega, by omega, fun r2 c4 s4 a0 a1 hs4 => ?_⟩
    obtain ⟨j, rfl⟩ := Int.eq_ofNat_of_zero_le a0
    refine ⟨0, us, j, rfl, ixN_nat (by omega), ?_⟩
    refine ⟨G2, (b, .lst (us.set j (.ref T))) :: M.set n (p, pool c4 s4), Wk.of_eq ?_, us.set j (.ref T), sg'.set j g, c4, s4, _, rfl, ex.trans ex2, rfl, hs4, ?_, by rw [List.length_set, hl2], fun x hx => ?_⟩
    · simp only [List.set_cons_succ, List.set_cons_zero, List.set_set]
    · rw [List.map_set]
      exact dpall_set (ex_ds ex2 _ hd) (dp_sg hT)
    · rcases List.mem_or_eq_of_mem_set hx with hx | hx
      · exact hok2 x hx
      · rw [hx]; exact hg
  · rintro σ G' M' ⟨us, sg', c2, s2, y4, rfl, ex, rfl, hs2, hd, hl2, hok2⟩
    exact ⟨G', _, Wk.refl, fun hv => ⟨_, _, Wk.frz0, ret0 (q b sg' c2 s2 _ (ex.trans (Hv.fz hv)) ⟨us, sql_new, ex_ds (Hv.fz hv) _ hd⟩ hl2 hok2 hs2)⟩⟩
theorem a2_set {α β : Type} {r : α → β → Prop} {as : List α} {bs : List β} (h : A2 r as bs) {i : Nat} {a : α} {b : β} (hr : r a b) : A2 r (as.set i a) (bs.set i b) := by
  induction h generalizing i with
  | nil => exact .nil
  | cons x t ih =>
    cases i with
    | zero => exact .cons hr t
    | succ i => exact .cons x ih
theorem a2_setr {α β : Type} {r : α → β → Prop} {as : List α} {bs : List β} (h : A2 r as bs) {i : Nat} {a : α} {b : β} (ha : as[i]? = some a) (hr : r a b) : A2 r as (bs.set i b) := by
  have := a2_set h (i := i) hr
  rwa [set_self ha] at this
theorem a2_self {α : Type} {f : α → α} {r : α → α → Prop} : ∀ {l : List α}, (∀ x, x ∈ l → r x (f x)) → A2 r l (l.map f)
  | [], _ => .nil
  | x :: l, h => .cons (h x List.mem_cons_self) (a2_self fun y hy => h y (List.mem_cons_of_mem _ hy))
theorem pf_law_bent_paper (h : S_law_bent_paper K vs G M R Z) : rd_law_bent_paper K (ends R Z) (sta 5 vs) G M := by
  obtain ⟨_, _, _, rfl, p, n, c, s, a, o, ks, ps, rfl, rfl, rfl, hn, hs, hk, hkn, hkl, hp, hpo, q⟩ := sp3_of h
  clear h
  have h200 : (1000 : Int) < 2 ^ 200 := by decide
  obtain ⟨us, hu, ha⟩ := hp
  have hu : SqL K G o us := hu.elim (fun z => nomatch z) id
  have hal := ha.len
  have hpl := hpo.len
  refine ⟨G, M, Wk.refl, us, lst_g hu, fun b fb => ?_⟩
  have exb := Ex.new (o := .lst us) fb
  refine ⟨G, _, Wk.refl, sz0, fun e fe => ?_⟩
  have hau : A2 (PpM K G ((e, HO.lst []) :: (b, .lst us) :: M)) us ps := ha.mono fun _ _ z => by
    have := z.more (Mx := (e, HO.lst []) :: (b, .lst us) :: M)
    rwa [List.append_nil] at this
  refine ⟨.list (ps.map ppD), .list [], dat_list (lat_n (n := 1) rfl) (pps_dat hau), dat_list lat_0 dats_nil, (shp_pps (n := 0) ps).shaped (by decide), (shp_nats (n := 0) []).shaped (by decide), ?_⟩
  show if (!PyData.eqv (.list (ps.map ppD)) (.list [])) = true then _ else _
  rw [eqvL_nil, show (ps.map ppD).isEmpty = ps.isEmpty by cases ps <;> rfl]
  have same : ∀ (y4 : Option V) (c' s' : Int), PoolOk s' → rd_law_bent_paper_2 K (ends R Z) [some (.ref p), some (.ref a), some (.ref o), some (.ref b), y4] G ((b, .lst us) :: M.set n (p, pool c' s')) := fun y4 c' s' hs' =>
    ⟨G, _, Wk.refl, fun hv => ⟨_, _, Wk.frz0, ret0 (q b ps c' s' _ (Hv.fz hv) ⟨us, .inr sql_new, ha.mono fun _ _ z => z.ex (Hv.fz hv)⟩ hpo hs')⟩⟩
  refine ite2' (fun e1 => ?_) (fun e1 => ?_)
  · have hne : 0 < ps.length := by cases ps with | nil => cases e1 | cons => exact Nat.succ_pos _
    refine ⟨G, _, Wk.drop0, us, .inl (.inl List.mem_cons_self), p, (us.length : Int), n + 1, c, s, rfl, rfl, hn, hs, by omega, by omega, fun r c1 s1 r0 r1 hs1 => ?_⟩
    obtain ⟨j, rfl⟩ := Int.eq_ofNat_of_zero_le r0
    obtain ⟨k, hkj⟩ : ∃ k, ks[j]? = some k := ⟨_, List.getElem?_eq_getElem (by omega)⟩
    obtain ⟨us2, T2, hu2, hv2, hT2, _⟩ := knF_get hk hkj
    have kk := hkn k (List.mem_of_getElem? hkj)
    refine ⟨G, _, Wk.refl, us2, .ref T2, .inl (.inr hu2), atI_nat hv2, [.str k.txt, .int k.n], .str k.txt, .inr (sqt_of hT2), atI_nat (j := 0) rfl, ?_⟩
    show if decide (V.str k.txt = .str "shuffle") = true then _ else _
    rw [txt_shuf0]
    cases hlf : k.leaf with
    | true => exact same _ c1 s1 hs1
    | false =>
      obtain ⟨pp, hpp⟩ : ∃ pp, ps[j]? = some pp := ⟨_, List.getElem?_eq_getElem (by omega)⟩
      obtain ⟨v, hv, T, w, rfl, hT, hw⟩ := ha.get hpp
      obtain ⟨a1, a2, a3⟩ := a2_at hpo.ok hkj hpp
      refine ⟨G, _, Wk.refl, us, .ref T, .inl (.inl List.mem_cons_self), atI_nat hv, [.int (pp.src : Nat), w], .int (pp.src : Nat), .inr hT, atI_nat (j := 0) rfl, us2, .ref T2, .inl (.inr hu2), atI_nat hv2, [.str k.txt, .int k.n], .int k.n, .inr (sqt_of hT2), atI_nat (j := 1) rfl, p, n + 1, c1, s1, k.n, rfl, rfl, kk.1, set_n (n := n) hn, hs1, fun t l c2 s2 hl hs2 ft => ⟨sz2, fun P fP => ?_⟩⟩
      have hPt : t ≠ P := fP.2 (t, .lst (natsV l)) List.mem_cons_self
      have ex2 := Ex.new (o := .tup [.int (pp.src : Nat), .ref t]) fP
      have gt : (upd G P (.tup [.int (pp.src : Nat), .ref t])) t = none := by rw [upd_ne hPt]; exact ft.1
      have ex3 := Ex.new' (o := .lst (natsV l)) gt
      refine ⟨1, us, j, rfl, ixN_nat (by omega), ?_⟩
      refine ⟨_, (b, .lst (us.set j (.ref P))) :: M.set n (p, pool c2 s2), Wk.trans Wk.frz0 (Wk.of_eq ?_), fun hv => ⟨_, _, Wk.frz0, ret0 (q b (ps.set j ⟨pp.src, some l⟩) c2 s2 _ ((ex2.trans ex3).trans (Hv.fz hv)) ⟨us.set j (.ref P), .inr sql_new, ?_⟩ ⟨?_, ?_⟩ hs2)⟩⟩
      · simp only [List.set_cons_succ, List.set_cons_zero, List.set_set]
      · exact a2_set (ha.mono fun _ _ z => z.ex ((ex2.trans ex3).trans (Hv.fz hv))) ⟨P, .ref t, rfl, ex_t (ex3.trans (Hv.fz hv)) sqt_new, t, rfl, .inr (ex_l (Hv.fz hv) sql_new)⟩
      · exact a2_setr hpo.ok hkj ⟨a1, fun z => (by rw [hlf] at z; cases z), fun _ => ⟨l, rfl, hl⟩⟩
      · have : (ps.set j ⟨pp.src, some l⟩).map (·.src) = ps.map (·.src) := by
          rw [List.map_set]
          refine List.ext_getElem? fun x => ?_
          rw [List.getElem?_set]
          by_cases z : j = x
          · subst z
            rw [if_pos rfl, if_pos (by rw [List.length_map]; omega), List.getElem?_map, hpp]; rfl
          · rw [if_neg z]
        rw [this]; exact hpo.nd
  · have := same none c s hs
    rw [set_self hn] at this
    exact kseq_wk Wk.drop0 this
theorem pf_law_right (h : S_law_right K vs G M R Z) : rd_law_right K (ends R Z) (sta 8 vs) G M := by
  obtain ⟨_, rfl, p, c, s, rfl, rfl, hs, k⟩ := sp1_of h
  clear h
  refine ⟨G, _, Wk.refl, p, 0, c, s, rfl, rfl, rfl, rfl, hs, fun a ks c1 s1 G1 ex1 hk hkn hkl hs1 => ?_⟩
  refine ⟨G1, _, Wk.refl, p, 0, c1, s1, a, ks, rfl, rfl, rfl, hs1, hk, hkn, hkl, fun q0 ps c2 s2 G2 ex2 hp hpo hs2 => ?_⟩
  have hk2 := hk.ex ex2
  refine ⟨G2, _, Wk.refl, p, 13, 0, c2, s2, rfl, rfl, rfl, hs2, by decide, by decide, fun r c3 s3 r0 r1 hs3 => ?_⟩
  refine ⟨by omega, sz (by show r.toNat ≤ _; omega), fun i acc G' M' => ∃ (sg : List Sg) (c s : Int), Ex G2 G' ∧ M' = [(p, pool c s)] ∧ PoolOk s ∧ sg.length = i ∧ DpAll K G' acc (sg.map sgD) ∧ ∀ g, g ∈ sg → SgOk ks g, ⟨[], c3, s3, Ex.refl, rfl, hs3, rfl, .nil, fun _ z => nomatch z⟩, fun _ _ _ _ _ _ => trivial, ?_, ?_⟩
  · rintro i acc G' M' X hi hacc ⟨sg, c4, s4, ex, rfl, hs4, hl, hd, hg⟩ fX
    have hi : i < r.toNat := hi
    refine asg_R (v := (i : Int)) (by omega) ⟨rfl, p, 1, c4, s4, a, ks, rfl, rfl, rfl, hs4, hk2.ex ex, hkn, hkl, fun T g c5 s5 G5 ex5 hT hgo hs5 => ?_⟩
    refine ⟨G5, [(p, pool c5 s5)], Wk.refl, sg ++ [g], c5, s5, ex.trans ex5, rfl, hs5, by rw [List.length_append, hl]; rfl, ?_, fun x hx => ?_⟩
    · rw [List.map_append]; exact dpall_snoc (ex_ds ex5 _ hd) (dp_sg hT)
    · rcases List.mem_append.mp hx with hx | hx
      · exact hg x hx
      · rw [List.mem_singleton.mp hx]; exact hgo
  rintro us G3 M' o1 ⟨one, c4, s4, ex3, rfl, hs4, hl, hd, hg⟩ hacc fo1
  have hl : one.length = r.toNat := hl
  clear hacc
  have hul := dpall_len hd
  rw [List.length_map] at hul
  have exo := Ex.new (o := .lst us) fo1
  obtain ⟨G4, hG4⟩ : ∃ G4, G4 = upd G3 o1 (.lst us) := ⟨_, rfl⟩
  rw [← hG4] at exo
  have h1 : SgsG K G4 o1 one := ⟨us, by rw [hG4]; exact sql_new, ex_ds exo _ hd⟩
  have hu1 : SqL K G4 o1 us := by rw [hG4]; exact sql_new
  have hd1 : DpAll K G4 us (one.map sgD) := ex_ds exo _ hd
  refine ⟨G4, [(p, pool c4 s4)], by rw [hG4]; exact Wk.frz0, us, .inr hu1, sz (by show us.length ≤ _; omega), fun i acc G' M' => Ex G4 G' ∧ M' = [(p, pool c4 s4)] ∧ DpAll K G' acc (((one.take i).map (ledS ps)).map sgD), ⟨Ex.refl, rfl, .nil⟩, ?_, ?_, ?_⟩
  · rintro i acc G' M' _ ⟨ex, rfl, _⟩; exact .inr (ex_l ex hu1)
  · rintro i acc G' M' X hi hacc ⟨ex, rfl, hd2⟩ fX
    have hi : i < us.length := hi
    obtain ⟨g, hgi⟩ : ∃ g, one[i]? = some g := ⟨_, List.getElem?_eq_getElem (by omega)⟩
    obtain ⟨v, hv, hvd⟩ := dpall_get hd1 (i := i) (d := sgD g) (by rw [List.getElem?_map, hgi]; rfl)
    obtain ⟨T, rfl, hT⟩ := sg_inv hvd
    refine asg_L hv ⟨rfl, q0, T, g, ks, ps, rfl, rfl, (hp.ex ((ex3.trans exo).trans ex)).any, hpo, ex_t ex hT, hg g (List.mem_of_getElem? hgi), by omega, fun T' G5 ex5 hT' => ?_⟩
    refine ⟨G5, _, Wk.refl, ex.trans ex5, rfl, ?_⟩
    rw [take_succ' hgi, List.map_append, List.map_append]
    exact dpall_snoc (ex_ds ex5 _ hd2) (dp_sg hT')
  rintro us2 G5 M' o2 ⟨ex5, rfl, hd2⟩ hacc fo2
  have en : (srcL K o1 us).n = one.length := hul
  rw [en, List.take_length] at hd2
  clear hacc
  have exo2 := Ex.new (o := .lst us2) fo2
  obtain ⟨G6, hG6⟩ : ∃ G6, G6 = upd G5 o2 (.lst us2) := ⟨_, rfl⟩
  rw [← hG6] at exo2
  have ex46 := ex5.trans exo2
  have h2 : SgsG K G6 o2 (one.map (ledS ps)) := ⟨us2, by rw [hG6]; exact sql_new, ex_ds exo2 _ hd2⟩
  have ex26 := (ex3.trans exo).trans ex46
  have hk6 := hk2.ex ex26
  have ok2 : ∀ g, g ∈ one.map (ledS ps) → SgOk ks g := fun g hg2 => by
    obtain ⟨x, hx, rfl⟩ := List.mem_map.mp hg2
    exact (ledS_ok hpo (hg x hx)).1
  have hkl1 : ks.length ≤ 1000 := by omega
  refine ⟨G6, [(p, pool c4 s4)], by rw [hG6]; exact Wk.frz0, p, 0, c4, s4, a, ?_⟩
  have hka : ∀ {G' : Hp} {Mx : Mem}, Ex G6 G' → KnAt K G' Mx a ks := fun {G' Mx} ex => knF_at (hk6.ex ex) hkn hkl1
  obtain ⟨uk, z1, z2, _⟩ := hka (Mx := []) Ex.refl
  refine ⟨uk, ks, rfl, rfl, rfl, hs4, .inr (z1.elim (fun z => nomatch z) id), z2, hkn, hkl1, fun b ds c5 s5 G7 ex7 hb hok hs5 => ?_⟩
  have h1' := (h1.ex ex46)
  -- the first two looks
  have hlead : leadB ps one (one.map (ledS ps)) = true := leadB_iff.mpr (a2_self fun g hg2 => (ledS_ok hpo (hg g hg2)).2)
  obtain ⟨w1, hw1, wd1⟩ := (h1'.ex ex7).at
  obtain ⟨w2, hw2, wd2⟩ := (h2.ex ex7).at
  have l13 : one.length ≤ 100 := by omega
  have l23 : (one.map (ledS ps)).length ≤ 100 := by rw [List.length_map]; exact l13
  have hp7 := hp.ex (ex26.trans ex7)
  refine ⟨G7, _, Wk.refl, a, o1, o2, ks, w1, w2, one, one.map (ledS ps), rfl, rfl, rfl, hka ex7, hw1, wd1, hw2, wd2, by omega, by omega, hg, ok2, .inr ⟨q0, ps, rfl, hp7.any, hpo, fun G8 ex8 => ?_⟩⟩
  rw [hlead]
  have e68 := ex7.trans ex8
  refine ⟨a, o1, o2, q0, b, ks, one, one.map (ledS ps), ps, ds, rfl, rfl, rfl, rfl, rfl, hk6.ex e68, hkn, hkl, h1'.ex e68, h2.ex e68, l13, l23, hg, ok2, hp.ex (ex26.trans e68), hpo, hb.ex ex8, hok, fun G9 ex9 => ?_⟩
  have e69 := e68.trans ex9
  refine ⟨G9, _, Wk.refl, p, 0, c5, s5, a, o2, ks, one.map (ledS ps), rfl, rfl, rfl, rfl, hs5, hk6.ex e69, hkn, hkl, h2.ex e69, l23, ok2, fun o3 sg3 c6 s6 G10 ex10 h3 hl3 ok3 hs6 => ?_⟩
  have e6a := e69.trans ex10
  refine ⟨a, o1, o3, q0, b, ks, one, sg3, ps, ds, rfl, rfl, rfl, rfl, rfl, hk6.ex e6a, hkn, hkl, h1'.ex e6a, h3, l13, by omega, hg, ok3, hp.ex (ex26.trans e6a), hpo, hb.ex ((ex8.trans ex9).trans ex10), hok, fun G11 ex11 => ?_⟩
  have e6b := e6a.trans ex11
  refine ⟨G11, _, Wk.refl, p, 0, c6, s6, a, q0, ks, ps, rfl, rfl, rfl, rfl, hs6, hk6.ex e6b, hkn, hkl, hp.ex (ex26.trans e6b), hpo, fun q2 ps2 c7 s7 G12 ex12 hp2 hpo2 hs7 => ?_⟩
  have e6c := e6b.trans ex12
  refine ⟨a, o1, o2, q2, b, ks, one, one.map (ledS ps), ps2, ds, rfl, rfl, rfl, rfl, rfl, hk6.ex e6c, hkn, hkl, h1'.ex e6c, h2.ex e6c, l13, l23, hg, ok2, hp2, hpo2, hb.ex (((ex8.trans ex9).trans ex10).trans (ex11.trans ex12)), hok, fun G13 ex13 => ?_⟩
  exact retW Wk.drop0 (k G13 ((ex1.trans ex2).trans (ex26.trans (e6c.trans ex13))))
theorem pf_law (h : S_law K vs G M R Z) : rd_law K (ends R Z) (sta 2 vs) G M := by
  obtain ⟨_, rfl, a, ns, rfl, hS, hl, q⟩ := sp1_of h
  clear h
  refine ⟨G, [], Wk.nil', _, lst_g hS, by omega, fun i σ G' M' => ∃ (y1 : Option V), σ = [some (.ref a), y1] ∧ Ex G G' ∧ M' = [], ⟨_, rfl, Ex.refl, rfl⟩, fun _ _ _ _ _ _ => trivial, ?_, ?_⟩
  · rintro i σ G' M' hi ⟨y1, rfl, ex, rfl⟩
    have hi : i < (max (1 : Int) (min ((ns.map V.int).length : Int) 63)).toNat := hi
    refine asg_R (v := (i : Int)) (by omega) ⟨G', [], Wk.refl, a, ns, i, rfl, rfl, ex_l ex hS, by omega, by omega, hl, fun p c s fp hs => ⟨p, c, s, rfl, rfl, hs, fun G2 ex2 => ?_⟩⟩
    exact ⟨G2, [], Wk.refl, _, rfl, ex.trans ex2, rfl⟩
  · rintro σ G' M' ⟨y1, rfl, ex, rfl⟩
    exact ⟨G', [], Wk.refl, ret0 (q _ _)⟩
end
def topS (i : Nat) : Stmt := PySem.Challenge.pw_blindtouch_k52_whole_whatever_leading_is.main.body.getD i (.Pass ⟨0, 0, 0, 0⟩)
structure Bs (mg : Str → Option Value) : Prop where
  all : mg "all" = none
  bool : mg "bool" = none
  enumerate : mg "enumerate" = none
  int : mg "int" = none
  isinstance : mg "isinstance" = none
  len : mg "len" = none
  list : mg "list" = none
  max : mg "max" = none
  min : mg "min" = none
  range : mg "range" = none
  set : mg "set" = none
  tuple : mg "tuple" = none
  zip : mg "zip" = none
structure Cs (K : PySem.W.Frag) (mg : Str → Option Value) : Prop where
  g_NoOrder : XG K mg "NoOrder"
  r_NoOrder : XR K "NoOrder"
  k_MOST : ∃ u, mg "MOST" = some u ∧ RelV (.int 64) u
abbrev s_law_pool : Stmt := topS 29
abbrev N_law_pool : List Str := ["_law_script", "_law_k", "_law_cell", "_law_seed"]
theorem sc_law_pool : FnScope N_law_pool ["_law_script", "_law_k"] (defScope s_law_pool) := ⟨rfl, rfl, rfl, by decide +kernel, rfl, by decide +kernel, by decide +kernel⟩
theorem fo_law_pool {P : Program} {w : World} {K : PySem.W.Frag} {mg : Str → Option Value} {base : Heap} {f : Addr} {fd : FuncData} (B : Bs mg) (C : Cs K mg) (F : Fun K "_law_pool" "_law_pool" s_law_pool f fd)  :
    FnOk P w K mg base (L2.CX P w) 1 f fd ["_law_script", "_law_k"] (lift (S_law_pool K)) := by
  refine fn_ok F sc_law_pool (fun vs G M R Z h => sp_len2 h) (fun cdv A outer s H E hr => ?_)
  have nd : N_law_pool.Nodup := sc_law_pool.nd
  have hu : _ + 64 < cLine := hr.units
  have tk : Takes (cxOf (L2.CX P w) P w K mg base N_law_pool "_law_pool" (defScope s_law_pool) f cdv A outer s H E) (fun c d _ H => E c d H) := takes_of rfl rfl rfl rfl
  have po : PassesOwn (model P w) _ _ _ := passes_of (X := cxOf (L2.CX P w) P w K mg base N_law_pool "_law_pool" (defScope s_law_pool) f cdv A outer s H E) rfl
  exact ⟨rd_law_pool K, jss_cons (js_set (i := 2) (je_int) nd) (jss_cons (js_if (jt_cmp (kop_lt) (je_var 1) (je_callB kc_len B.len (ja_cons (je_var 0) (ja_nil))) (nomark _)) (jss_cons (js_set (i := 2) (je_ix (je_var 0) (je_var 1)) nd) (jss_nil)) (jss_nil)) (jss_cons (js_set (i := 3) (je_op kop_mod (je_op kop_mul (je_op kop_add (je_op kop_add (je_op kop_mod (je_var 2) (je_int)) (je_op kop_mul (je_op kop_mul (je_int) (je_var 1)) (je_var 1))) (je_int)) (je_int)) (je_int)) nd) (jss_cons (js_if (jt_cmp (kop_lt) (je_var 2) (je_op kop_pow (je_int) (je_int)) (nomark _)) (jss_cons (js_set (i := 2) (je_int) nd) (jss_nil)) (jss_nil)) (jss_cons (js_ret (je_lst (ja_cons (je_var 2) (ja_cons (je_var 3) (ja_nil))))) (jss_nil))))), fun vs G M R Z h => pf_law_pool h⟩
theorem df_law_pool {P : Program} {w : World} {K : PySem.W.Frag} {mg : Str → Option Value} {base : Heap} {f : Addr} {fd : FuncData} (B : Bs mg) (C : Cs K mg) (F : Fun K "_law_pool" "_law_pool" s_law_pool f fd) (b : Binds K fd ["_law_script", "_law_k"] []) (gm : mg "_law_pool" = some (.ref f))  :
    Def P w K mg base 1 "_law_pool" ["_law_script", "_law_k"] (S_law_pool K) := ⟨f, fd, fo_law_pool B C F , gm, F.kp, b⟩
abbrev s_law_take : Stmt := topS 30
abbrev N_law_take : List Str := ["_law_pool_here", "_law_many", "_law_found"]
theorem sc_law_take : FnScope N_law_take ["_law_pool_here", "_law_many"] (defScope s_law_take) := ⟨rfl, rfl, rfl, by decide +kernel, rfl, by decide +kernel, by decide +kernel⟩
theorem fo_law_take {P : Program} {w : World} {K : PySem.W.Frag} {mg : Str → Option Value} {base : Heap} {f : Addr} {fd : FuncData} (B : Bs mg) (C : Cs K mg) (F : Fun K "_law_take" "_law_take" s_law_take f fd)  :
    FnOk P w K mg base (L2.CX P w) 1 f fd ["_law_pool_here", "_law_many"] (lift (S_law_take K)) := by
  refine fn_ok F sc_law_take (fun vs G M R Z h => sp_len2 h) (fun cdv A outer s H E hr => ?_)
  have nd : N_law_take.Nodup := sc_law_take.nd
  have hu : _ + 64 < cLine := hr.units
  have tk : Takes (cxOf (L2.CX P w) P w K mg base N_law_take "_law_take" (defScope s_law_take) f cdv A outer s H E) (fun c d _ H => E c d H) := takes_of rfl rfl rfl rfl
  have po : PassesOwn (model P w) _ _ _ := passes_of (X := cxOf (L2.CX P w) P w K mg base N_law_take "_law_take" (defScope s_law_take) f cdv A outer s H E) rfl
  exact ⟨rd_law_take K, jss_cons (js_if (jt_cmp (kop_gt) (je_ix (je_var 0) (je_int)) (je_int) (nomark _)) (jss_cons (js_set (i := 2) (je_op kop_mod (je_ix (je_var 0) (je_int)) (je_var 1)) nd) (jss_cons (js_asg (je_op kop_fdiv (je_ix (je_var 0) (je_int)) (je_var 1)) (jg_ix (je_var 0) (je_int))) (jss_cons (js_ret (je_var 2)) (jss_nil)))) (jss_nil)) (jss_cons (js_asg (je_op kop_mod (je_op kop_add (je_op kop_mul (je_ix (je_var 0) (je_int)) (je_int)) (je_int)) (je_int)) (jg_ix (je_var 0) (je_int))) (jss_cons (js_ret (je_op kop_mod (je_op kop_fdiv (je_op kop_mod (je_op kop_mul (je_ix (je_var 0) (je_int)) (je_ix (je_var 0) (je_int))) (je_int)) (je_int)) (je_var 1))) (jss_nil))), fun vs G M R Z h => pf_law_take h⟩
theorem df_law_take {P : Program} {w : World} {K : PySem.W.Frag} {mg : Str → Option Value} {base : Heap} {f : Addr} {fd : FuncData} (B : Bs mg) (C : Cs K mg) (F : Fun K "_law_take" "_law_take" s_law_take f fd) (b : Binds K fd ["_law_pool_here", "_law_many"] []) (gm : mg "_law_take" = some (.ref f))  :
    Def P w K mg base 1 "_law_take" ["_law_pool_here", "_law_many"] (S_law_take K) := ⟨f, fd, fo_law_take B C F , gm, F.kp, b⟩
abbrev s_law_kinds : Stmt := topS 31
abbrev N_law_kinds : List Str := ["_law_pool_here", "_law_most", "_law_far", "_law_kinds_here", "_law_k"]
theorem sc_law_kinds : FnScope N_law_kinds ["_law_pool_here", "_law_most", "_law_far"] (defScope s_law_kinds) := ⟨rfl, rfl, rfl, by decide +kernel, rfl, by decide +kernel, by decide +kernel⟩
theorem fo_law_kinds {P : Program} {w : World} {K : PySem.W.Frag} {mg : Str → Option Value} {base : Heap} {f : Addr} {fd : FuncData} (B : Bs mg) (C : Cs K mg) (F : Fun K "_law_kinds" "_law_kinds" s_law_kinds f fd) (D_law_take : Def P w K mg base 1 "_law_take" ["_law_pool_here", "_law_many"] (S_law_take K)) :
    FnOk P w K mg base (L2.CX P w) 2 f fd ["_law_pool_here", "_law_most", "_law_far"] (lift (S_law_kinds K)) := by
  refine fn_ok F sc_law_kinds (fun vs G M R Z h => sp_len3 h) (fun cdv A outer s H E hr => ?_)
  have nd : N_law_kinds.Nodup := sc_law_kinds.nd
  have hu : _ + 64 < cLine := hr.units
  have tk : Takes (cxOf (L2.CX P w) P w K mg base N_law_kinds "_law_kinds" (defScope s_law_kinds) f cdv A outer s H E) (fun c d _ H => E c d H) := takes_of rfl rfl rfl rfl
  have po : PassesOwn (model P w) _ _ _ := passes_of (X := cxOf (L2.CX P w) P w K mg base N_law_kinds "_law_kinds" (defScope s_law_kinds) f cdv A outer s H E) rfl
  exact ⟨rd_law_kinds K, jss_cons (js_set (i := 3) (je_lst (ja_nil)) nd) (jss_cons (js_for po rfl (ji_range1 B.range (ja_cons (je_callD D_law_take hr tk (ja_cons (je_var 0) (ja_cons (je_op kop_add (je_var 1) (je_int)) (ja_nil)))) (ja_nil))) (jg_name (i := 4) nd) (jss_cons (js_if (jt_cmp (kop_eq hu) (je_callD D_law_take hr tk (ja_cons (je_var 0) (ja_cons (je_int) (ja_nil)))) (je_int) (nomark _)) (jss_cons (js_expr (je_bm PySem.F.plainAttrs_list PySem.F.slot_list_append PySem.F.type_list_append km_append (je_var 3) (ja_cons (je_tup (ja_cons (je_str) (ja_cons (je_callD D_law_take hr tk (ja_cons (je_var 0) (ja_cons (je_int) (ja_nil)))) (ja_nil)))) (ja_nil)))) (jss_nil)) (jss_cons (js_expr (je_bm PySem.F.plainAttrs_list PySem.F.slot_list_append PySem.F.type_list_append km_append (je_var 3) (ja_cons (je_tup (ja_cons (je_str) (ja_cons (je_op kop_add (je_int) (je_callD D_law_take hr tk (ja_cons (je_var 0) (ja_cons (je_ix (je_lst (ja_cons (je_int) (ja_cons (je_var 2) (ja_nil)))) (je_callD D_law_take hr tk (ja_cons (je_var 0) (ja_cons (je_int) (ja_nil))))) (ja_nil))))) (ja_nil)))) (ja_nil)))) (jss_nil))) (jss_nil))) (jss_cons (js_ret (je_var 3)) (jss_nil))), fun vs G M R Z h => pf_law_kinds h⟩
theorem df_law_kinds {P : Program} {w : World} {K : PySem.W.Frag} {mg : Str → Option Value} {base : Heap} {f : Addr} {fd : FuncData} (B : Bs mg) (C : Cs K mg) (F : Fun K "_law_kinds" "_law_kinds" s_law_kinds f fd) (b : Binds K fd ["_law_pool_here", "_law_most", "_law_far"] []) (gm : mg "_law_kinds" = some (.ref f)) (D_law_take : Def P w K mg base 1 "_law_take" ["_law_pool_here", "_law_many"] (S_law_take K)) :
    Def P w K mg base 2 "_law_kinds" ["_law_pool_here", "_law_most", "_law_far"] (S_law_kinds K) := ⟨f, fd, fo_law_kinds B C F D_law_take, gm, F.kp, b⟩
abbrev s_law_turn : Stmt := topS 37
abbrev N_law_turn : List Str := ["_law_pool_here", "_law_size", "_law_order_here", "_law_k"]
theorem sc_law_turn : FnScope N_law_turn ["_law_pool_here", "_law_size"] (defScope s_law_turn) := ⟨rfl, rfl, rfl, by decide +kernel, rfl, by decide +kernel, by decide +kernel⟩
theorem fo_law_turn {P : Program} {w : World} {K : PySem.W.Frag} {mg : Str → Option Value} {base : Heap} {f : Addr} {fd : FuncData} (B : Bs mg) (C : Cs K mg) (F : Fun K "_law_turn" "_law_turn" s_law_turn f fd) (D_law_take : Def P w K mg base 1 "_law_take" ["_law_pool_here", "_law_many"] (S_law_take K)) :
    FnOk P w K mg base (L2.CX P w) 2 f fd ["_law_pool_here", "_law_size"] (lift (S_law_turn K)) := by
  refine fn_ok F sc_law_turn (fun vs G M R Z h => sp_len2 h) (fun cdv A outer s H E hr => ?_)
  have nd : N_law_turn.Nodup := sc_law_turn.nd
  have hu : _ + 64 < cLine := hr.units
  have tk : Takes (cxOf (L2.CX P w) P w K mg base N_law_turn "_law_turn" (defScope s_law_turn) f cdv A outer s H E) (fun c d _ H => E c d H) := takes_of rfl rfl rfl rfl
  have po : PassesOwn (model P w) _ _ _ := passes_of (X := cxOf (L2.CX P w) P w K mg base N_law_turn "_law_turn" (defScope s_law_turn) f cdv A outer s H E) rfl
  exact ⟨rd_law_turn K, jss_cons (js_set (i := 2) (je_lst (ja_nil)) nd) (jss_cons (js_for po rfl (ji_range1 B.range (ja_cons (je_var 1) (ja_nil))) (jg_name (i := 3) nd) (jss_cons (js_expr (je_bm PySem.F.plainAttrs_list PySem.F.slot_list_insert PySem.F.type_list_insert km_insert (je_var 2) (ja_cons (je_callD D_law_take hr tk (ja_cons (je_var 0) (ja_cons (je_op kop_add (je_var 3) (je_int)) (ja_nil)))) (ja_cons (je_var 3) (ja_nil))))) (jss_nil))) (jss_cons (js_ret (je_var 2)) (jss_nil))), fun vs G M R Z h => pf_law_turn h⟩
theorem df_law_turn {P : Program} {w : World} {K : PySem.W.Frag} {mg : Str → Option Value} {base : Heap} {f : Addr} {fd : FuncData} (B : Bs mg) (C : Cs K mg) (F : Fun K "_law_turn" "_law_turn" s_law_turn f fd) (b : Binds K fd ["_law_pool_here", "_law_size"] []) (gm : mg "_law_turn" = some (.ref f)) (D_law_take : Def P w K mg base 1 "_law_take" ["_law_pool_here", "_law_many"] (S_law_take K)) :
    Def P w K mg base 2 "_law_turn" ["_law_pool_here", "_law_size"] (S_law_turn K) := ⟨f, fd, fo_law_turn B C F D_law_take, gm, F.kp, b⟩
abbrev s_law_paper : Stmt := topS 38
abbrev N_law_paper : List Str := ["_law_pool_here", "_law_kinds_here", "_law_places", "_law_k", "_law_paper_here", "_law_kind", "_law_free", "_law_source", "_law_turn_here"]
theorem sc_law_paper : FnScope N_law_paper ["_law_pool_here", "_law_kinds_here"] (defScope s_law_paper) := ⟨rfl, rfl, rfl, by decide +kernel, rfl, by decide +kernel, by decide +kernel⟩
theorem fo_law_paper {P : Program} {w : World} {K : PySem.W.Frag} {mg : Str → Option Value} {base : Heap} {f : Addr} {fd : FuncData} (B : Bs mg) (C : Cs K mg) (F : Fun K "_law_paper" "_law_paper" s_law_paper f fd) (D_law_take : Def P w K mg base 1 "_law_take" ["_law_pool_here", "_law_many"] (S_law_take K)) (D_law_turn : Def P w K mg base 2 "_law_turn" ["_law_pool_here", "_law_size"] (S_law_turn K)) :
    FnOk P w K mg base (L2.CX P w) 3 f fd ["_law_pool_here", "_law_kinds_here"] (lift (S_law_paper K)) := by
  refine fn_ok F sc_law_paper (fun vs G M R Z h => sp_len2 h) (fun cdv A outer s H E hr => ?_)
  have nd : N_law_paper.Nodup := sc_law_paper.nd
  have hu : _ + 64 < cLine := hr.units
  have tk : Takes (cxOf (L2.CX P w) P w K mg base N_law_paper "_law_paper" (defScope s_law_paper) f cdv A outer s H E) (fun c d _ H => E c d H) := takes_of rfl rfl rfl rfl
  have po : PassesOwn (model P w) _ _ _ := passes_of (X := cxOf (L2.CX P w) P w K mg base N_law_paper "_law_paper" (defScope s_law_paper) f cdv A outer s H E) rfl
  exact ⟨rd_law_paper K, jss_cons (js_set (i := 2) (je_dnewT) nd) (jss_cons (js_for po rfl (ji_range1 B.range (ja_cons (je_callB kc_len B.len (ja_cons (je_var 1) (ja_nil))) (ja_nil))) (jg_name (i := 3) nd) (jss_cons (js_dsetT hu (je_var 2) (je_ix (je_var 1) (je_var 3)) (je_op kop_add (je_dget2T hu (je_var 2) (je_ix (je_var 1) (je_var 3)) (je_lst (ja_nil))) (je_lst (ja_cons (je_var 3) (ja_nil))))) (jss_nil))) (jss_cons (js_set (i := 4) (je_lst (ja_nil)) nd) (jss_cons (js_for po rfl (ji_list (je_var 1)) (jg_name (i := 5) nd) (jss_cons (js_set (i := 6) (je_dgetT hu (je_var 2) (je_var 5)) nd) (jss_cons (js_set (i := 7) (je_bm PySem.F.plainAttrs_list PySem.F.slot_list_pop PySem.F.type_list_pop km_popAt (je_var 6) (ja_cons (je_callD D_law_take hr tk (ja_cons (je_var 0) (ja_cons (je_callB kc_len B.len (ja_cons (je_var 6) (ja_nil))) (ja_nil)))) (ja_nil))) nd) (jss_cons (js_set (i := 8) (je_non) nd) (jss_cons (js_if (jt_cmp (kop_eq hu) (je_ix (je_var 5) (je_int)) (je_str) (nomark _)) (jss_cons (js_set (i := 8) (je_callD D_law_turn hr tk (ja_cons (je_var 0) (ja_cons (je_ix (je_var 5) (je_int)) (ja_nil)))) nd) (jss_nil)) (jss_nil)) (jss_cons (js_expr (je_bm PySem.F.plainAttrs_list PySem.F.slot_list_append PySem.F.type_list_append km_append (je_var 4) (ja_cons (je_tup (ja_cons (je_var 7) (ja_cons (je_var 8) (ja_nil)))) (ja_nil)))) (jss_nil))))))) (jss_cons (js_ret (je_var 4)) (jss_nil))))), fun vs G M R Z h => pf_law_paper h⟩
theorem df_law_paper {P : Program} {w : World} {K : PySem.W.Frag} {mg : Str → Option Value} {base : Heap} {f : Addr} {fd : FuncData} (B : Bs mg) (C : Cs K mg) (F : Fun K "_law_paper" "_law_paper" s_law_paper f fd) (b : Binds K fd ["_law_pool_here", "_law_kinds_here"] []) (gm : mg "_law_paper" = some (.ref f)) (D_law_take : Def P w K mg base 1 "_law_take" ["_law_pool_here", "_law_many"] (S_law_take K)) (D_law_turn : Def P w K mg base 2 "_law_turn" ["_law_pool_here", "_law_size"] (S_law_turn K)) :
    Def P w K mg base 3 "_law_paper" ["_law_pool_here", "_law_kinds_here"] (S_law_paper K) := ⟨f, fd, fo_law_paper B C F D_law_take D_law_turn, gm, F.kp, b⟩
abbrev s_law_sign : Stmt := topS 39
abbrev N_law_sign : List Str := ["_law_pool_here", "_law_kinds_here", "_law_way", "_law_deed", "_law_shelf", "_law_draw_here"]
theorem sc_law_sign : FnScope N_law_sign ["_law_pool_here", "_law_kinds_here"] (defScope s_law_sign) := ⟨rfl, rfl, rfl, by decide +kernel, rfl, by decide +kernel, by decide +kernel⟩
theorem fo_law_sign {P : Program} {w : World} {K : PySem.W.Frag} {mg : Str → Option Value} {base : Heap} {f : Addr} {fd : FuncData} (B : Bs mg) (C : Cs K mg) (F : Fun K "_law_sign" "_law_sign" s_law_sign f fd) (D_law_take : Def P w K mg base 1 "_law_take" ["_law_pool_here", "_law_many"] (S_law_take K)) :
    FnOk P w K mg base (L2.CX P w) 2 f fd ["_law_pool_here", "_law_kinds_here"] (lift (S_law_sign K)) := by
  refine fn_ok F sc_law_sign (fun vs G M R Z h => sp_len2 h) (fun cdv A outer s H E hr => ?_)
  have nd : N_law_sign.Nodup := sc_law_sign.nd
  have hu : _ + 64 < cLine := hr.units
  have tk : Takes (cxOf (L2.CX P w) P w K mg base N_law_sign "_law_sign" (defScope s_law_sign) f cdv A outer s H E) (fun c d _ H => E c d H) := takes_of rfl rfl rfl rfl
  have po : PassesOwn (model P w) _ _ _ := passes_of (X := cxOf (L2.CX P w) P w K mg base N_law_sign "_law_sign" (defScope s_law_sign) f cdv A outer s H E) rfl
  exact ⟨rd_law_sign K, jss_cons (js_set (i := 2) (je_callD D_law_take hr tk (ja_cons (je_var 0) (ja_cons (je_int) (ja_nil)))) nd) (jss_cons (js_set (i := 3) (je_ix (je_lst (ja_cons (je_str) (ja_cons (je_str) (ja_nil)))) (je_callD D_law_take hr tk (ja_cons (je_var 0) (ja_cons (je_int) (ja_nil))))) nd) (jss_cons (js_set (i := 4) (je_callD D_law_take hr tk (ja_cons (je_var 0) (ja_cons (je_int) (ja_nil)))) nd) (jss_cons (js_if ((jw_or (jt_cmp (kop_eq hu) (je_var 2) (je_int) (nomark _)) (jw_or1 (jt_cmp (kop_eq hu) (je_var 1) (je_lst (ja_nil)) (nomark _)))).jt) (jss_cons (js_ret (je_tup (ja_cons (je_str) (ja_cons (je_var 3) (ja_cons (je_var 4) (ja_cons (je_callD D_law_take hr tk (ja_cons (je_var 0) (ja_cons (je_int) (ja_nil)))) (ja_nil))))))) (jss_nil)) (jss_nil)) (jss_cons (js_set (i := 5) (je_callD D_law_take hr tk (ja_cons (je_var 0) (ja_cons (je_callB kc_len B.len (ja_cons (je_var 1) (ja_nil))) (ja_nil)))) nd) (jss_cons (js_if (jt_cmp (kop_eq hu) (je_ix (je_ix (je_var 1) (je_var 5)) (je_int)) (je_str) (nomark _)) (jss_cons (js_ret (je_tup (ja_cons (je_str) (ja_cons (je_var 3) (ja_cons (je_var 4) (ja_cons (je_var 5) (ja_cons (je_callD D_law_take hr tk (ja_cons (je_var 0) (ja_cons (je_ix (je_ix (je_var 1) (je_var 5)) (je_int)) (ja_nil)))) (ja_nil)))))))) (jss_nil)) (jss_nil)) (jss_cons (js_ret (je_tup (ja_cons (je_str) (ja_cons (je_var 3) (ja_cons (je_var 4) (ja_cons (je_var 5) (ja_cons (je_callD D_law_take hr tk (ja_cons (je_var 0) (ja_cons (je_op kop_add (je_ix (je_ix (je_var 1) (je_var 5)) (je_int)) (je_int)) (ja_nil)))) (ja_cons (je_callD D_law_take hr tk (ja_cons (je_var 0) (ja_cons (je_int) (ja_nil)))) (ja_nil))))))))) (jss_nil))))))), fun vs G M R Z h => pf_law_sign h⟩
theorem df_law_sign {P : Program} {w : World} {K : PySem.W.Frag} {mg : Str → Option Value} {base : Heap} {f : Addr} {fd : FuncData} (B : Bs mg) (C : Cs K mg) (F : Fun K "_law_sign" "_law_sign" s_law_sign f fd) (b : Binds K fd ["_law_pool_here", "_law_kinds_here"] []) (gm : mg "_law_sign" = some (.ref f)) (D_law_take : Def P w K mg base 1 "_law_take" ["_law_pool_here", "_law_many"] (S_law_take K)) :
    Def P w K mg base 2 "_law_sign" ["_law_pool_here", "_law_kinds_here"] (S_law_sign K) := ⟨f, fd, fo_law_sign B C F D_law_take, gm, F.kp, b⟩
abbrev s_law_led_sign : Stmt := topS 40
abbrev N_law_led_sign : List Str := ["_law_paper_here", "_law_sign_here", "_law_draw_here", "_law_k"]
theorem sc_law_led_sign : FnScope N_law_led_sign ["_law_paper_here", "_law_sign_here"] (defScope s_law_led_sign) := ⟨rfl, rfl, rfl, by decide +kernel, rfl, by decide +kernel, by decide +kernel⟩
theorem fo_law_led_sign {P : Program} {w : World} {K : PySem.W.Frag} {mg : Str → Option Value} {base : Heap} {f : Addr} {fd : FuncData} (B : Bs mg) (C : Cs K mg) (F : Fun K "_law_led_sign" "_law_led_sign" s_law_led_sign f fd)  :
    FnOk P w K mg base (L2.CX P w) 1 f fd ["_law_paper_here", "_law_sign_here"] (lift (S_law_led_sign K)) := by
  refine fn_ok F sc_law_led_sign (fun vs G M R Z h => sp_len2 h) (fun cdv A outer s H E hr => ?_)
  have nd : N_law_led_sign.Nodup := sc_law_led_sign.nd
  have hu : _ + 64 < cLine := hr.units
  have tk : Takes (cxOf (L2.CX P w) P w K mg base N_law_led_sign "_law_led_sign" (defScope s_law_led_sign) f cdv A outer s H E) (fun c d _ H => E c d H) := takes_of rfl rfl rfl rfl
  have po : PassesOwn (model P w) _ _ _ := passes_of (X := cxOf (L2.CX P w) P w K mg base N_law_led_sign "_law_led_sign" (defScope s_law_led_sign) f cdv A outer s H E) rfl
  exact ⟨rd_law_led_sign K, jss_cons (js_if (jt_cmp (kop_eq hu) (je_ix (je_var 1) (je_int)) (je_str) (nomark _)) (jss_cons (js_ret (je_var 1)) (jss_nil)) (jss_nil)) (jss_cons (js_set (i := 2) (je_ix (je_comp (own := [("_law_k", 3)]) rfl nd (ji_range1 B.range (ja_cons (je_callB kc_len B.len (ja_cons (je_var 0) (ja_nil))) (ja_nil))) (blkOk_by (own := [("_law_k", 3)]) (N := N_law_led_sign) (sc := defScope s_law_led_sign) (by decide +kernel)) (fun _ _ _ _ _ => by exact jg_name (i := 3) nd) (fun _ _ _ _ _ => by exact jts_one (jt_cmp (kop_eq hu) (je_ix (je_ix (je_var 0) (je_var 3)) (je_int)) (je_ix (je_var 1) (je_int)) (nomark _))) (fun _ _ _ _ _ => by exact je_var 3)) (je_int)) nd) (jss_cons (js_if (jt_cmp (kop_eq hu) (je_ix (je_var 1) (je_int)) (je_str) (nomark _)) (jss_cons (js_ret (je_op kop_cat (je_op kop_cat (je_slT (je_var 1) (jo_none) (jo_some (je_int))) (je_tup (ja_cons (je_var 2) (ja_nil)))) (je_slT (je_var 1) (jo_some (je_int)) (jo_none)))) (jss_nil)) (jss_nil)) (jss_cons (js_ret (je_op kop_cat (je_slT (je_var 1) (jo_none) (jo_some (je_int))) (je_tup (ja_cons (je_var 2) (ja_cons (je_bm PySem.F.plainAttrs_list PySem.F.slot_list_index PySem.F.type_list_index km_index (je_ix (je_ix (je_var 0) (je_var 2)) (je_int)) (ja_cons (je_ix (je_var 1) (je_int)) (ja_nil))) (ja_nil)))))) (jss_nil)))), fun vs G M R Z h => pf_law_led_sign h⟩
theorem df_law_led_sign {P : Program} {w : World} {K : PySem.W.Frag} {mg : Str → Option Value} {base : Heap} {f : Addr} {fd : FuncData} (B : Bs mg) (C : Cs K mg) (F : Fun K "_law_led_sign" "_law_led_sign" s_law_led_sign f fd) (b : Binds K fd ["_law_paper_here", "_law_sign_here"] []) (gm : mg "_law_led_sign" = some (.ref f))  :
    Def P w K mg base 1 "_law_led_sign" ["_law_paper_here", "_law_sign_here"] (S_law_led_sign K) := ⟨f, fd, fo_law_led_sign B C F , gm, F.kp, b⟩
abbrev s_law_draw : Stmt := topS 32
abbrev N_law_draw : List Str := ["_law_pool_here", "_law_kind", "_law_k"]
theorem sc_law_draw : FnScope N_law_draw ["_law_pool_here", "_law_kind"] (defScope s_law_draw) := ⟨rfl, rfl, rfl, by decide +kernel, rfl, by decide +kernel, by decide +kernel⟩
theorem fo_law_draw {P : Program} {w : World} {K : PySem.W.Frag} {mg : Str → Option Value} {base : Heap} {f : Addr} {fd : FuncData} (B : Bs mg) (C : Cs K mg) (F : Fun K "_law_draw" "_law_draw" s_law_draw f fd) (D_law_take : Def P w K mg base 1 "_law_take" ["_law_pool_here", "_law_many"] (S_law_take K)) :
    FnOk P w K mg base (L2.CX P w) 2 f fd ["_law_pool_here", "_law_kind"] (lift (S_law_draw K)) := by
  refine fn_ok F sc_law_draw (fun vs G M R Z h => sp_len2 h) (fun cdv A outer s H E hr => ?_)
  have nd : N_law_draw.Nodup := sc_law_draw.nd
  have hu : _ + 64 < cLine := hr.units
  have tk : Takes (cxOf (L2.CX P w) P w K mg base N_law_draw "_law_draw" (defScope s_law_draw) f cdv A outer s H E) (fun c d _ H => E c d H) := takes_of rfl rfl rfl rfl
  have po : PassesOwn (model P w) _ _ _ := passes_of (X := cxOf (L2.CX P w) P w K mg base N_law_draw "_law_draw" (defScope s_law_draw) f cdv A outer s H E) rfl
  exact ⟨rd_law_draw K, jss_cons (js_if (jt_cmp (kop_eq hu) (je_ix (je_var 1) (je_int)) (je_str) (nomark _)) (jss_cons (js_ret (je_callD D_law_take hr tk (ja_cons (je_var 0) (ja_cons (je_op kop_shl (je_int) (je_ix (je_var 1) (je_int))) (ja_nil))))) (jss_nil)) (jss_nil)) (jss_cons (js_ret (je_comp (own := [("_law_k", 2)]) rfl nd (ji_range1 B.range (ja_cons (je_ix (je_var 1) (je_int)) (ja_nil))) (blkOk_by (own := [("_law_k", 2)]) (N := N_law_draw) (sc := defScope s_law_draw) (by decide +kernel)) (fun _ _ _ _ _ => by exact jg_name (i := 2) nd) (fun _ _ _ _ _ => by exact jts_nil) (fun _ _ _ _ _ => by exact je_callD D_law_take hr takes0 (ja_cons (je_var 0) (ja_cons (je_op kop_add (je_var 2) (je_int)) (ja_nil)))))) (jss_nil)), fun vs G M R Z h => pf_law_draw h⟩
theorem df_law_draw {P : Program} {w : World} {K : PySem.W.Frag} {mg : Str → Option Value} {base : Heap} {f : Addr} {fd : FuncData} (B : Bs mg) (C : Cs K mg) (F : Fun K "_law_draw" "_law_draw" s_law_draw f fd) (b : Binds K fd ["_law_pool_here", "_law_kind"] []) (gm : mg "_law_draw" = some (.ref f)) (D_law_take : Def P w K mg base 1 "_law_take" ["_law_pool_here", "_law_many"] (S_law_take K)) :
    Def P w K mg base 2 "_law_draw" ["_law_pool_here", "_law_kind"] (S_law_draw K) := ⟨f, fd, fo_law_draw B C F D_law_take, gm, F.kp, b⟩
abbrev s_law_draws : Stmt := topS 33
abbrev N_law_draws : List Str := ["_law_pool_here", "_law_kinds_here", "_law_kind"]
theorem sc_law_draws : FnScope N_law_draws ["_law_pool_here", "_law_kinds_here"] (defScope s_law_draws) := ⟨rfl, rfl, rfl, by decide +kernel, rfl, by decide +kernel, by decide +kernel⟩
theorem fo_law_draws {P : Program} {w : World} {K : PySem.W.Frag} {mg : Str → Option Value} {base : Heap} {f : Addr} {fd : FuncData} (B : Bs mg) (C : Cs K mg) (F : Fun K "_law_draws" "_law_draws" s_law_draws f fd) (D_law_draw : Def P w K mg base 2 "_law_draw" ["_law_pool_here", "_law_kind"] (S_law_draw K)) :
    FnOk P w K mg base (L2.CX P w) 3 f fd ["_law_pool_here", "_law_kinds_here"] (lift (S_law_draws K)) := by
  refine fn_ok F sc_law_draws (fun vs G M R Z h => sp_len2 h) (fun cdv A outer s H E hr => ?_)
  have nd : N_law_draws.Nodup := sc_law_draws.nd
  have hu : _ + 64 < cLine := hr.units
  have tk : Takes (cxOf (L2.CX P w) P w K mg base N_law_draws "_law_draws" (defScope s_law_draws) f cdv A outer s H E) (fun c d _ H => E c d H) := takes_of rfl rfl rfl rfl
  have po : PassesOwn (model P w) _ _ _ := passes_of (X := cxOf (L2.CX P w) P w K mg base N_law_draws "_law_draws" (defScope s_law_draws) f cdv A outer s H E) rfl
  exact ⟨rd_law_draws K, jss_cons (js_ret (je_comp (own := [("_law_kind", 2)]) rfl nd (ji_list (je_var 1)) (blkOk_by (own := [("_law_kind", 2)]) (N := N_law_draws) (sc := defScope s_law_draws) (by decide +kernel)) (fun _ _ _ _ _ => by exact jg_name (i := 2) nd) (fun _ _ _ _ _ => by exact jts_nil) (fun _ _ _ _ _ => by exact je_callD D_law_draw hr takes0 (ja_cons (je_var 0) (ja_cons (je_var 2) (ja_nil)))))) (jss_nil), fun vs G M R Z h => pf_law_draws h⟩
theorem df_law_draws {P : Program} {w : World} {K : PySem.W.Frag} {mg : Str → Option Value} {base : Heap} {f : Addr} {fd : FuncData} (B : Bs mg) (C : Cs K mg) (F : Fun K "_law_draws" "_law_draws" s_law_draws f fd) (b : Binds K fd ["_law_pool_here", "_law_kinds_here"] []) (gm : mg "_law_draws" = some (.ref f)) (D_law_draw : Def P w K mg base 2 "_law_draw" ["_law_pool_here", "_law_kind"] (S_law_draw K)) :
    Def P w K mg base 3 "_law_draws" ["_law_pool_here", "_law_kinds_here"] (S_law_draws K) := ⟨f, fd, fo_law_draws B C F D_law_draw, gm, F.kp, b⟩
abbrev s_is_whole : Stmt := topS 1
abbrev N_is_whole : List Str := ["thing"]
theorem sc_is_whole : FnScope N_is_whole ["thing"] (defScope s_is_whole) := ⟨rfl, rfl, rfl, by decide +kernel, rfl, by decide +kernel, by decide +kernel⟩
theorem fo_is_whole {P : Program} {w : World} {K : PySem.W.Frag} {mg : Str → Option Value} {base : Heap} {f : Addr} {fd : FuncData} (B : Bs mg) (C : Cs K mg) (F : Fun K "is_whole" "is_whole" s_is_whole f fd)  :
    FnOk P w K mg base (L2.CX P w) 1 f fd ["thing"] (lift (S_is_whole K)) := by
  refine fn_ok F sc_is_whole (fun vs G M R Z h => sp_len1 h) (fun cdv A outer s H E hr => ?_)
  have nd : N_is_whole.Nodup := sc_is_whole.nd
  have hu : _ + 64 < cLine := hr.units
  have tk : Takes (cxOf (L2.CX P w) P w K mg base N_is_whole "is_whole" (defScope s_is_whole) f cdv A outer s H E) (fun c d _ H => E c d H) := takes_of rfl rfl rfl rfl
  have po : PassesOwn (model P w) _ _ _ := passes_of (X := cxOf (L2.CX P w) P w K mg base N_is_whole "is_whole" (defScope s_is_whole) f cdv A outer s H E) rfl
  exact ⟨rd_is_whole K, jss_cons (js_ret (je_and (je_callB kc_isi B.isinstance (ja_cons (je_var 0) (ja_cons (je_ty B.int) (ja_nil)))) (je_one (je_not (je_callB kc_isi B.isinstance (ja_cons (je_var 0) (ja_cons (je_ty B.bool) (ja_nil)))))))) (jss_nil), fun vs G M R Z h => pf_is_whole h⟩
theorem df_is_whole {P : Program} {w : World} {K : PySem.W.Frag} {mg : Str → Option Value} {base : Heap} {f : Addr} {fd : FuncData} (B : Bs mg) (C : Cs K mg) (F : Fun K "is_whole" "is_whole" s_is_whole f fd) (b : Binds K fd ["thing"] []) (gm : mg "is_whole" = some (.ref f))  :
    Def P w K mg base 1 "is_whole" ["thing"] (S_is_whole K) := ⟨f, fd, fo_is_whole B C F , gm, F.kp, b⟩
abbrev s_is_within : Stmt := topS 2
abbrev N_is_within : List Str := ["thing", "least", "most"]
theorem sc_is_within : FnScope N_is_within ["thing", "least", "most"] (defScope s_is_within) := ⟨rfl, rfl, rfl, by decide +kernel, rfl, by decide +kernel, by decide +kernel⟩
theorem fo_is_within {P : Program} {w : World} {K : PySem.W.Frag} {mg : Str → Option Value} {base : Heap} {f : Addr} {fd : FuncData} (B : Bs mg) (C : Cs K mg) (F : Fun K "is_within" "is_within" s_is_within f fd) (D_is_whole : Def P w K mg base 1 "is_whole" ["thing"] (S_is_whole K)) :
    FnOk P w K mg base (L2.CX P w) 2 f fd ["thing", "least", "most"] (lift (S_is_within K)) := by
  refine fn_ok F sc_is_within (fun vs G M R Z h => sp_len3 h) (fun cdv A outer s H E hr => ?_)
  have nd : N_is_within.Nodup := sc_is_within.nd
  have hu : _ + 64 < cLine := hr.units
  have tk : Takes (cxOf (L2.CX P w) P w K mg base N_is_within "is_within" (defScope s_is_within) f cdv A outer s H E) (fun c d _ H => E c d H) := takes_of rfl rfl rfl rfl
  have po : PassesOwn (model P w) _ _ _ := passes_of (X := cxOf (L2.CX P w) P w K mg base N_is_within "is_within" (defScope s_is_within) f cdv A outer s H E) rfl
  exact ⟨rd_is_within K, jss_cons (js_ret (je_and (je_callD D_is_whole hr tk (ja_cons (je_var 0) (ja_nil))) (je_one (je_chain (kop_le) (kop_le) (je_var 1) (je_var 0) (je_var 2))))) (jss_nil), fun vs G M R Z h => pf_is_within h⟩
theorem df_is_within {P : Program} {w : World} {K : PySem.W.Frag} {mg : Str → Option Value} {base : Heap} {f : Addr} {fd : FuncData} (B : Bs mg) (C : Cs K mg) (F : Fun K "is_within" "is_within" s_is_within f fd) (b : Binds K fd ["thing", "least", "most"] []) (gm : mg "is_within" = some (.ref f)) (D_is_whole : Def P w K mg base 1 "is_whole" ["thing"] (S_is_whole K)) :
    Def P w K mg base 2 "is_within" ["thing", "least", "most"] (S_is_within K) := ⟨f, fd, fo_is_within B C F D_is_whole, gm, F.kp, b⟩
abbrev s_is_order : Stmt := topS 8
abbrev N_is_order : List Str := ["thing", "number"]
theorem sc_is_order : FnScope N_is_order ["thing"] (defScope s_is_order) := ⟨rfl, rfl, rfl, by decide +kernel, rfl, by decide +kernel, by decide +kernel⟩
theorem fo_is_order {P : Program} {w : World} {K : PySem.W.Frag} {mg : Str → Option Value} {base : Heap} {f : Addr} {fd : FuncData} (B : Bs mg) (C : Cs K mg) (F : Fun K "is_order" "is_order" s_is_order f fd) (D_is_within : Def P w K mg base 2 "is_within" ["thing", "least", "most"] (S_is_within K)) :
    FnOk P w K mg base (L2.CX P w) 3 f fd ["thing"] (lift (S_is_order K)) := by
  refine fn_ok F sc_is_order (fun vs G M R Z h => sp_len1 h) (fun cdv A outer s H E hr => ?_)
  have nd : N_is_order.Nodup := sc_is_order.nd
  have hu : _ + 64 < cLine := hr.units
  have tk : Takes (cxOf (L2.CX P w) P w K mg base N_is_order "is_order" (defScope s_is_order) f cdv A outer s H E) (fun c d _ H => E c d H) := takes_of rfl rfl rfl rfl
  have po : PassesOwn (model P w) _ _ _ := passes_of (X := cxOf (L2.CX P w) P w K mg base N_is_order "is_order" (defScope s_is_order) f cdv A outer s H E) rfl
  exact ⟨rd_is_order K, jss_cons (js_if ((jw_or (jt_not (jt_val (je_callB kc_isi B.isinstance (ja_cons (je_var 0) (ja_cons (je_ty B.list) (ja_nil)))))) (jw_or (jt_cmp (kop_lt) (je_callB kc_len B.len (ja_cons (je_var 0) (ja_nil))) (je_int) (nomark _)) (jw_or1 (jt_cmp (kop_gt) (je_callB kc_len B.len (ja_cons (je_var 0) (ja_nil))) (je_const C.k_MOST) (nomark _))))).jt) (jss_cons (js_ret (je_bl)) (jss_nil)) (jss_nil)) (jss_cons (js_if (jt_not (jt_val (je_callB kc_all B.all (ja_cons (je_comp (own := [("number", 1)]) rfl nd (ji_list (je_var 0)) (blkOk_by (own := [("number", 1)]) (N := N_is_order) (sc := defScope s_is_order) (by decide +kernel)) (fun _ _ _ _ _ => by exact jg_name (i := 1) nd) (fun _ _ _ _ _ => by exact jts_nil) (fun _ _ _ _ _ => by exact je_callD D_is_within hr takes0 (ja_cons (je_var 1) (ja_cons (je_int) (ja_cons (je_op kop_sub (je_callB kc_len B.len (ja_cons (je_var 0) (ja_nil))) (je_int)) (ja_nil)))))) (ja_nil))))) (jss_cons (js_ret (je_bl)) (jss_nil)) (jss_nil)) (jss_cons (js_ret (je_cmp (kop_eq hu) (je_lenSet B.len B.set (je_var 0)) (je_callB kc_len B.len (ja_cons (je_var 0) (ja_nil))) (nomark _))) (jss_nil))), fun vs G M R Z h => pf_is_order h⟩
theorem df_is_order {P : Program} {w : World} {K : PySem.W.Frag} {mg : Str → Option Value} {base : Heap} {f : Addr} {fd : FuncData} (B : Bs mg) (C : Cs K mg) (F : Fun K "is_order" "is_order" s_is_order f fd) (b : Binds K fd ["thing"] []) (gm : mg "is_order" = some (.ref f)) (D_is_within : Def P w K mg base 2 "is_within" ["thing", "least", "most"] (S_is_within K)) :
    Def P w K mg base 3 "is_order" ["thing"] (S_is_order K) := ⟨f, fd, fo_is_order B C F D_is_within, gm, F.kp, b⟩
abbrev s_is_part : Stmt := topS 14
abbrev N_is_part : List Str := ["kinds", "place", "thing", "kind"]
theorem sc_is_part : FnScope N_is_part ["kinds", "place", "thing"] (defScope s_is_part) := ⟨rfl, rfl, rfl, by decide +kernel, rfl, by decide +kernel, by decide +kernel⟩
theorem fo_is_part {P : Program} {w : World} {K : PySem.W.Frag} {mg : Str → Option Value} {base : Heap} {f : Addr} {fd : FuncData} (B : Bs mg) (C : Cs K mg) (F : Fun K "is_part" "is_part" s_is_part f fd) (D_is_within : Def P w K mg base 2 "is_within" ["thing", "least", "most"] (S_is_within K)) (D_is_order : Def P w K mg base 3 "is_order" ["thing"] (S_is_order K)) :
    FnOk P w K mg base (L2.CX P w) 4 f fd ["kinds", "place", "thing"] (lift (S_is_part K)) := by
  refine fn_ok F sc_is_part (fun vs G M R Z h => sp_len3 h) (fun cdv A outer s H E hr => ?_)
  have nd : N_is_part.Nodup := sc_is_part.nd
  have hu : _ + 64 < cLine := hr.units
  have tk : Takes (cxOf (L2.CX P w) P w K mg base N_is_part "is_part" (defScope s_is_part) f cdv A outer s H E) (fun c d _ H => E c d H) := takes_of rfl rfl rfl rfl
  have po : PassesOwn (model P w) _ _ _ := passes_of (X := cxOf (L2.CX P w) P w K mg base N_is_part "is_part" (defScope s_is_part) f cdv A outer s H E) rfl
  exact ⟨rd_is_part K, jss_cons (js_if ((jw_or (jt_not (jt_val (je_callB kc_isi B.isinstance (ja_cons (je_var 2) (ja_cons (je_ty B.tuple) (ja_nil)))))) (jw_or (jt_cmp (kop_ne hu) (je_callB kc_len B.len (ja_cons (je_var 2) (ja_nil))) (je_int) (nomark _)) (jw_or1 (jt_not (jt_val (je_callD D_is_within hr tk (ja_cons (je_ix (je_var 2) (je_int)) (ja_cons (je_int) (ja_cons (je_op kop_sub (je_callB kc_len B.len (ja_cons (je_var 0) (ja_nil))) (je_int)) (ja_nil)))))))))).jt) (jss_cons (js_ret (je_bl)) (jss_nil)) (jss_nil)) (jss_cons (js_set (i := 3) (je_ix (je_var 0) (je_var 1)) nd) (jss_cons (js_if (jt_cmp (kop_ne hu) (je_ix (je_var 0) (je_ix (je_var 2) (je_int))) (je_var 3) (nomark _)) (jss_cons (js_ret (je_bl)) (jss_nil)) (jss_nil)) (jss_cons (js_if (jt_cmp (kop_eq hu) (je_ix (je_var 3) (je_int)) (je_str) (nomark _)) (jss_cons (js_ret (je_cmp (kop_is2) (je_ix (je_var 2) (je_int)) (je_non) (nomark _))) (jss_nil)) (jss_nil)) (jss_cons (js_ret (je_and (je_callD D_is_order hr tk (ja_cons (je_ix (je_var 2) (je_int)) (ja_nil))) (je_one (je_cmp (kop_eq hu) (je_callB kc_len B.len (ja_cons (je_ix (je_var 2) (je_int)) (ja_nil))) (je_ix (je_var 3) (je_int)) (nomark _))))) (jss_nil))))), fun vs G M R Z h => pf_is_part h⟩
theorem df_is_part {P : Program} {w : World} {K : PySem.W.Frag} {mg : Str → Option Value} {base : Heap} {f : Addr} {fd : FuncData} (B : Bs mg) (C : Cs K mg) (F : Fun K "is_part" "is_part" s_is_part f fd) (b : Binds K fd ["kinds", "place", "thing"] []) (gm : mg "is_part" = some (.ref f)) (D_is_within : Def P w K mg base 2 "is_within" ["thing", "least", "most"] (S_is_within K)) (D_is_order : Def P w K mg base 3 "is_order" ["thing"] (S_is_order K)) :
    Def P w K mg base 4 "is_part" ["kinds", "place", "thing"] (S_is_part K) := ⟨f, fd, fo_is_part B C F D_is_within D_is_order, gm, F.kp, b⟩
abbrev s_is_paper : Stmt := topS 15
abbrev N_is_paper : List Str := ["kinds", "thing", "place", "part"]
theorem sc_is_paper : FnScope N_is_paper ["kinds", "thing"] (defScope s_is_paper) := ⟨rfl, rfl, rfl, by decide +kernel, rfl, by decide +kernel, by decide +kernel⟩
theorem fo_is_paper {P : Program} {w : World} {K : PySem.W.Frag} {mg : Str → Option Value} {base : Heap} {f : Addr} {fd : FuncData} (B : Bs mg) (C : Cs K mg) (F : Fun K "is_paper" "is_paper" s_is_paper f fd) (D_is_part : Def P w K mg base 4 "is_part" ["kinds", "place", "thing"] (S_is_part K)) :
    FnOk P w K mg base (L2.CX P w) 5 f fd ["kinds", "thing"] (lift (S_is_paper K)) := by
  refine fn_ok F sc_is_paper (fun vs G M R Z h => sp_len2 h) (fun cdv A outer s H E hr => ?_)
  have nd : N_is_paper.Nodup := sc_is_paper.nd
  have hu : _ + 64 < cLine := hr.units
  have tk : Takes (cxOf (L2.CX P w) P w K mg base N_is_paper "is_paper" (defScope s_is_paper) f cdv A outer s H E) (fun c d _ H => E c d H) := takes_of rfl rfl rfl rfl
  have po : PassesOwn (model P w) _ _ _ := passes_of (X := cxOf (L2.CX P w) P w K mg base N_is_paper "is_paper" (defScope s_is_paper) f cdv A outer s H E) rfl
  exact ⟨rd_is_paper K, jss_cons (js_if ((jw_or (jt_not (jt_val (je_callB kc_isi B.isinstance (ja_cons (je_var 1) (ja_cons (je_ty B.list) (ja_nil)))))) (jw_or1 (jt_cmp (kop_ne hu) (je_callB kc_len B.len (ja_cons (je_var 1) (ja_nil))) (je_callB kc_len B.len (ja_cons (je_var 0) (ja_nil))) (nomark _)))).jt) (jss_cons (js_ret (je_bl)) (jss_nil)) (jss_nil)) (jss_cons (js_for po rfl (ji_range1 B.range (ja_cons (je_callB kc_len B.len (ja_cons (je_var 0) (ja_nil))) (ja_nil))) (jg_name (i := 2) nd) (jss_cons (js_if (jt_not (jt_val (je_callD D_is_part hr tk (ja_cons (je_var 0) (ja_cons (je_var 2) (ja_cons (je_ix (je_var 1) (je_var 2)) (ja_nil))))))) (jss_cons (js_ret (je_bl)) (jss_nil)) (jss_nil)) (jss_nil))) (jss_cons (js_ret (je_cmp (kop_eq hu) (je_lenSet B.len B.set (je_comp (own := [("part", 3)]) rfl nd (ji_list (je_var 1)) (blkOk_by (own := [("part", 3)]) (N := N_is_paper) (sc := defScope s_is_paper) (by decide +kernel)) (fun _ _ _ _ _ => by exact jg_name (i := 3) nd) (fun _ _ _ _ _ => by exact jts_nil) (fun _ _ _ _ _ => by exact je_ix (je_var 3) (je_int)))) (je_callB kc_len B.len (ja_cons (je_var 1) (ja_nil))) (nomark _))) (jss_nil))), fun vs G M R Z h => pf_is_paper h⟩
theorem df_is_paper {P : Program} {w : World} {K : PySem.W.Frag} {mg : Str → Option Value} {base : Heap} {f : Addr} {fd : FuncData} (B : Bs mg) (C : Cs K mg) (F : Fun K "is_paper" "is_paper" s_is_paper f fd) (b : Binds K fd ["kinds", "thing"] []) (gm : mg "is_paper" = some (.ref f)) (D_is_part : Def P w K mg base 4 "is_part" ["kinds", "place", "thing"] (S_is_part K)) :
    Def P w K mg base 5 "is_paper" ["kinds", "thing"] (S_is_paper K) := ⟨f, fd, fo_is_paper B C F D_is_part, gm, F.kp, b⟩
abbrev s_is_led : Stmt := topS 16
abbrev N_is_led : List Str := ["one", "other", "paper", "source", "turn"]
theorem sc_is_led : FnScope N_is_led ["one", "other", "paper"] (defScope s_is_led) := ⟨rfl, rfl, rfl, by decide +kernel, rfl, by decide +kernel, by decide +kernel⟩
theorem fo_is_led {P : Program} {w : World} {K : PySem.W.Frag} {mg : Str → Option Value} {base : Heap} {f : Addr} {fd : FuncData} (B : Bs mg) (C : Cs K mg) (F : Fun K "is_led" "is_led" s_is_led f fd)  :
    FnOk P w K mg base (L2.CX P w) 1 f fd ["one", "other", "paper"] (lift (S_is_led K)) := by
  refine fn_ok F sc_is_led (fun vs G M R Z h => sp_len3 h) (fun cdv A outer s H E hr => ?_)
  have nd : N_is_led.Nodup := sc_is_led.nd
  have hu : _ + 64 < cLine := hr.units
  have tk : Takes (cxOf (L2.CX P w) P w K mg base N_is_led "is_led" (defScope s_is_led) f cdv A outer s H E) (fun c d _ H => E c d H) := takes_of rfl rfl rfl rfl
  have po : PassesOwn (model P w) _ _ _ := passes_of (X := cxOf (L2.CX P w) P w K mg base N_is_led "is_led" (defScope s_is_led) f cdv A outer s H E) rfl
  exact ⟨rd_is_led K, jss_cons (js_if ((jw_or (jt_cmp (kop_ne hu) (je_ix (je_var 0) (je_int)) (je_ix (je_var 1) (je_int)) (nomark _)) (jw_or1 (jt_cmp (kop_ne hu) (je_slT (je_var 0) (jo_some (je_int)) (jo_some (je_int))) (je_slT (je_var 1) (jo_some (je_int)) (jo_some (je_int))) (nomark _)))).jt) (jss_cons (js_ret (je_bl)) (jss_nil)) (jss_nil)) (jss_cons (js_if (jt_cmp (kop_eq hu) (je_ix (je_var 0) (je_int)) (je_str) (nomark _)) (jss_cons (js_ret (je_cmp (kop_eq hu) (je_ix (je_var 0) (je_int)) (je_ix (je_var 1) (je_int)) (nomark _))) (jss_nil)) (jss_nil)) (jss_cons (js_asg (je_ix (je_var 2) (je_ix (je_var 1) (je_int))) (jg_tup rfl (jgs_cons (jg_name (i := 3) nd) (jgs_cons (jg_name (i := 4) nd) (jgs_nil))))) (jss_cons (js_if (jt_cmp (kop_ne hu) (je_var 3) (je_ix (je_var 0) (je_int)) (nomark _)) (jss_cons (js_ret (je_bl)) (jss_nil)) (jss_nil)) (jss_cons (js_if (jt_cmp (kop_eq hu) (je_ix (je_var 0) (je_int)) (je_str) (nomark _)) (jss_cons (js_ret (je_cmp (kop_eq hu) (je_ix (je_var 4) (je_ix (je_var 1) (je_int))) (je_ix (je_var 0) (je_int)) (nomark _))) (jss_nil)) (jss_nil)) (jss_cons (js_ret (je_cmp (kop_eq hu) (je_slT (je_var 0) (jo_some (je_int)) (jo_none)) (je_slT (je_var 1) (jo_some (je_int)) (jo_none)) (nomark _))) (jss_nil)))))), fun vs G M R Z h => pf_is_led h⟩
theorem df_is_led {P : Program} {w : World} {K : PySem.W.Frag} {mg : Str → Option Value} {base : Heap} {f : Addr} {fd : FuncData} (B : Bs mg) (C : Cs K mg) (F : Fun K "is_led" "is_led" s_is_led f fd) (b : Binds K fd ["one", "other", "paper"] []) (gm : mg "is_led" = some (.ref f))  :
    Def P w K mg base 1 "is_led" ["one", "other", "paper"] (S_is_led K) := ⟨f, fd, fo_is_led B C F , gm, F.kp, b⟩
abbrev s_is_leading : Stmt := topS 17
abbrev N_is_leading : List Str := ["kinds", "one", "other", "thing", "here", "there"]
theorem sc_is_leading : FnScope N_is_leading ["kinds", "one", "other", "thing"] (defScope s_is_leading) := ⟨rfl, rfl, rfl, by decide +kernel, rfl, by decide +kernel, by decide +kernel⟩
theorem fo_is_leading {P : Program} {w : World} {K : PySem.W.Frag} {mg : Str → Option Value} {base : Heap} {f : Addr} {fd : FuncData} (B : Bs mg) (C : Cs K mg) (F : Fun K "is_leading" "is_leading" s_is_leading f fd) (D_is_paper : Def P w K mg base 5 "is_paper" ["kinds", "thing"] (S_is_paper K)) (D_is_led : Def P w K mg base 1 "is_led" ["one", "other", "paper"] (S_is_led K)) :
    FnOk P w K mg base (L2.CX P w) 6 f fd ["kinds", "one", "other", "thing"] (lift (S_is_leading K)) := by
  refine fn_ok F sc_is_leading (fun vs G M R Z h => sp_len4 h) (fun cdv A outer s H E hr => ?_)
  have nd : N_is_leading.Nodup := sc_is_leading.nd
  have hu : _ + 64 < cLine := hr.units
  have tk : Takes (cxOf (L2.CX P w) P w K mg base N_is_leading "is_leading" (defScope s_is_leading) f cdv A outer s H E) (fun c d _ H => E c d H) := takes_of rfl rfl rfl rfl
  have po : PassesOwn (model P w) _ _ _ := passes_of (X := cxOf (L2.CX P w) P w K mg base N_is_leading "is_leading" (defScope s_is_leading) f cdv A outer s H E) rfl
  exact ⟨rd_is_leading K, jss_cons (js_if ((jw_or (jt_not (jt_val (je_callD D_is_paper hr tk (ja_cons (je_var 0) (ja_cons (je_var 3) (ja_nil)))))) (jw_or1 (jt_cmp (kop_ne hu) (je_callB kc_len B.len (ja_cons (je_var 1) (ja_nil))) (je_callB kc_len B.len (ja_cons (je_var 2) (ja_nil))) (nomark _)))).jt) (jss_cons (js_ret (je_bl)) (jss_nil)) (jss_nil)) (jss_cons (js_ret (je_callB kc_all B.all (ja_cons (je_comp (own := [("here", 4), ("there", 5)]) rfl nd (ji_zip B.zip (ja_cons (je_var 1) (ja_cons (je_var 2) (ja_nil)))) (blkOk_by (own := [("here", 4), ("there", 5)]) (N := N_is_leading) (sc := defScope s_is_leading) (by decide +kernel)) (fun _ _ _ _ _ => by exact jg_tup rfl (jgs_cons (jg_name (i := 4) nd) (jgs_cons (jg_name (i := 5) nd) (jgs_nil)))) (fun _ _ _ _ _ => by exact jts_nil) (fun _ _ _ _ _ => by exact je_callD D_is_led hr takes0 (ja_cons (je_var 4) (ja_cons (je_var 5) (ja_cons (je_var 3) (ja_nil)))))) (ja_nil)))) (jss_nil)), fun vs G M R Z h => pf_is_leading h⟩
theorem df_is_leading {P : Program} {w : World} {K : PySem.W.Frag} {mg : Str → Option Value} {base : Heap} {f : Addr} {fd : FuncData} (B : Bs mg) (C : Cs K mg) (F : Fun K "is_leading" "is_leading" s_is_leading f fd) (b : Binds K fd ["kinds", "one", "other", "thing"] []) (gm : mg "is_leading" = some (.ref f)) (D_is_paper : Def P w K mg base 5 "is_paper" ["kinds", "thing"] (S_is_paper K)) (D_is_led : Def P w K mg base 1 "is_led" ["one", "other", "paper"] (S_is_led K)) :
    Def P w K mg base 6 "is_leading" ["kinds", "one", "other", "thing"] (S_is_leading K) := ⟨f, fd, fo_is_leading B C F D_is_paper D_is_led, gm, F.kp, b⟩
abbrev s_exchange : Stmt := topS 9
abbrev N_exchange : List Str := ["row", "one", "other"]
theorem sc_exchange : FnScope N_exchange ["row", "one", "other"] (defScope s_exchange) := ⟨rfl, rfl, rfl, by decide +kernel, rfl, by decide +kernel, by decide +kernel⟩
theorem fo_exchange {P : Program} {w : World} {K : PySem.W.Frag} {mg : Str → Option Value} {base : Heap} {f : Addr} {fd : FuncData} (B : Bs mg) (C : Cs K mg) (F : Fun K "exchange" "exchange" s_exchange f fd)  :
    FnOk P w K mg base (L2.CX P w) 1 f fd ["row", "one", "other"] (lift (S_exchange K)) := by
  refine fn_ok F sc_exchange (fun vs G M R Z h => sp_len3 h) (fun cdv A outer s H E hr => ?_)
  have nd : N_exchange.Nodup := sc_exchange.nd
  have hu : _ + 64 < cLine := hr.units
  have tk : Takes (cxOf (L2.CX P w) P w K mg base N_exchange "exchange" (defScope s_exchange) f cdv A outer s H E) (fun c d _ H => E c d H) := takes_of rfl rfl rfl rfl
  have po : PassesOwn (model P w) _ _ _ := passes_of (X := cxOf (L2.CX P w) P w K mg base N_exchange "exchange" (defScope s_exchange) f cdv A outer s H E) rfl
  exact ⟨rd_exchange K, jss_cons (js_asg (je_tup (ja_cons (je_ix (je_var 0) (je_var 2)) (ja_cons (je_ix (je_var 0) (je_var 1)) (ja_nil)))) (jg_tup rfl (jgs_cons (jg_ix (je_var 0) (je_var 1)) (jgs_cons (jg_ix (je_var 0) (je_var 2)) (jgs_nil))))) (jss_nil), fun vs G M R Z h => pf_exchange h⟩
theorem df_exchange {P : Program} {w : World} {K : PySem.W.Frag} {mg : Str → Option Value} {base : Heap} {f : Addr} {fd : FuncData} (B : Bs mg) (C : Cs K mg) (F : Fun K "exchange" "exchange" s_exchange f fd) (b : Binds K fd ["row", "one", "other"] []) (gm : mg "exchange" = some (.ref f))  :
    Def P w K mg base 1 "exchange" ["row", "one", "other"] (S_exchange K) := ⟨f, fd, fo_exchange B C F , gm, F.kp, b⟩
abbrev s_order_of : Stmt := topS 10
abbrev N_order_of : List Str := ["row", "order", "place"]
theorem sc_order_of : FnScope N_order_of ["row"] (defScope s_order_of) := ⟨rfl, rfl, rfl, by decide +kernel, rfl, by decide +kernel, by decide +kernel⟩
theorem fo_order_of {P : Program} {w : World} {K : PySem.W.Frag} {mg : Str → Option Value} {base : Heap} {f : Addr} {fd : FuncData} (B : Bs mg) (C : Cs K mg) (F : Fun K "order_of" "order_of" s_order_of f fd) (D_exchange : Def P w K mg base 1 "exchange" ["row", "one", "other"] (S_exchange K)) :
    FnOk P w K mg base (L2.CX P w) 2 f fd ["row"] (lift (S_order_of K)) := by
  refine fn_ok F sc_order_of (fun vs G M R Z h => sp_len1 h) (fun cdv A outer s H E hr => ?_)
  have nd : N_order_of.Nodup := sc_order_of.nd
  have hu : _ + 64 < cLine := hr.units
  have tk : Takes (cxOf (L2.CX P w) P w K mg base N_order_of "order_of" (defScope s_order_of) f cdv A outer s H E) (fun c d _ H => E c d H) := takes_of rfl rfl rfl rfl
  have po : PassesOwn (model P w) _ _ _ := passes_of (X := cxOf (L2.CX P w) P w K mg base N_order_of "order_of" (defScope s_order_of) f cdv A outer s H E) rfl
  exact ⟨rd_order_of K, jss_cons (js_set (i := 1) (je_listR1 B.list B.range (je_callB kc_len B.len (ja_cons (je_var 0) (ja_nil)))) nd) (jss_cons (js_for po rfl (ji_range3 B.range (ja_cons (je_op kop_sub (je_callB kc_len B.len (ja_cons (je_var 0) (ja_nil))) (je_int)) (ja_cons (je_int) (ja_cons (je_neg (je_int)) (ja_nil))))) (jg_name (i := 2) nd) (jss_cons (js_expr (je_callD D_exchange hr tk (ja_cons (je_var 1) (ja_cons (je_var 2) (ja_cons (je_ix (je_var 0) (je_var 2)) (ja_nil)))))) (jss_nil))) (jss_cons (js_ret (je_var 1)) (jss_nil))), fun vs G M R Z h => pf_order_of h⟩
theorem df_order_of {P : Program} {w : World} {K : PySem.W.Frag} {mg : Str → Option Value} {base : Heap} {f : Addr} {fd : FuncData} (B : Bs mg) (C : Cs K mg) (F : Fun K "order_of" "order_of" s_order_of f fd) (b : Binds K fd ["row"] []) (gm : mg "order_of" = some (.ref f)) (D_exchange : Def P w K mg base 1 "exchange" ["row", "one", "other"] (S_exchange K)) :
    Def P w K mg base 2 "order_of" ["row"] (S_order_of K) := ⟨f, fd, fo_order_of B C F D_exchange, gm, F.kp, b⟩
abbrev s_told_by : Stmt := topS 26
abbrev N_told_by : List Str := ["kinds", "draws", "kind", "draw"]
theorem sc_told_by : FnScope N_told_by ["kinds", "draws"] (defScope s_told_by) := ⟨rfl, rfl, rfl, by decide +kernel, rfl, by decide +kernel, by decide +kernel⟩
theorem fo_told_by {P : Program} {w : World} {K : PySem.W.Frag} {mg : Str → Option Value} {base : Heap} {f : Addr} {fd : FuncData} (B : Bs mg) (C : Cs K mg) (F : Fun K "told_by" "told_by" s_told_by f fd) (D_order_of : Def P w K mg base 2 "order_of" ["row"] (S_order_of K)) :
    FnOk P w K mg base (L2.CX P w) 3 f fd ["kinds", "draws"] (lift (S_told_by K)) := by
  refine fn_ok F sc_told_by (fun vs G M R Z h => sp_len2 h) (fun cdv A outer s H E hr => ?_)
  have nd : N_told_by.Nodup := sc_told_by.nd
  have hu : _ + 64 < cLine := hr.units
  have tk : Takes (cxOf (L2.CX P w) P w K mg base N_told_by "told_by" (defScope s_told_by) f cdv A outer s H E) (fun c d _ H => E c d H) := takes_of rfl rfl rfl rfl
  have po : PassesOwn (model P w) _ _ _ := passes_of (X := cxOf (L2.CX P w) P w K mg base N_told_by "told_by" (defScope s_told_by) f cdv A outer s H E) rfl
  exact ⟨rd_told_by K, jss_cons (js_ret (je_comp (own := [("kind", 2), ("draw", 3)]) rfl nd (ji_zip B.zip (ja_cons (je_var 0) (ja_cons (je_var 1) (ja_nil)))) (blkOk_by (own := [("kind", 2), ("draw", 3)]) (N := N_told_by) (sc := defScope s_told_by) (by decide +kernel)) (fun _ _ _ _ _ => by exact jg_tup rfl (jgs_cons (jg_name (i := 2) nd) (jgs_cons (jg_name (i := 3) nd) (jgs_nil)))) (fun _ _ _ _ _ => by exact jts_nil) (fun _ _ _ _ _ => by exact je_ite (jt_cmp (kop_eq hu) (je_ix (je_var 2) (je_int)) (je_str) (nomark _)) (je_callD D_order_of hr takes0 (ja_cons (je_var 3) (ja_nil))) (je_var 3)))) (jss_nil), fun vs G M R Z h => pf_told_by h⟩
theorem df_told_by {P : Program} {w : World} {K : PySem.W.Frag} {mg : Str → Option Value} {base : Heap} {f : Addr} {fd : FuncData} (B : Bs mg) (C : Cs K mg) (F : Fun K "told_by" "told_by" s_told_by f fd) (b : Binds K fd ["kinds", "draws"] []) (gm : mg "told_by" = some (.ref f)) (D_order_of : Def P w K mg base 2 "order_of" ["row"] (S_order_of K)) :
    Def P w K mg base 3 "told_by" ["kinds", "draws"] (S_told_by K) := ⟨f, fd, fo_told_by B C F D_order_of, gm, F.kp, b⟩
abbrev s_node_at : Stmt := topS 22
abbrev N_node_at : List Str := ["high", "depth", "leaf"]
theorem sc_node_at : FnScope N_node_at ["high", "depth", "leaf"] (defScope s_node_at) := ⟨rfl, rfl, rfl, by decide +kernel, rfl, by decide +kernel, by decide +kernel⟩
theorem fo_node_at {P : Program} {w : World} {K : PySem.W.Frag} {mg : Str → Option Value} {base : Heap} {f : Addr} {fd : FuncData} (B : Bs mg) (C : Cs K mg) (F : Fun K "node_at" "node_at" s_node_at f fd)  :
    FnOk P w K mg base (L2.CX P w) 1 f fd ["high", "depth", "leaf"] (lift (S_node_at K)) := by
  refine fn_ok F sc_node_at (fun vs G M R Z h => sp_len3 h) (fun cdv A outer s H E hr => ?_)
  have nd : N_node_at.Nodup := sc_node_at.nd
  have hu : _ + 64 < cLine := hr.units
  have tk : Takes (cxOf (L2.CX P w) P w K mg base N_node_at "node_at" (defScope s_node_at) f cdv A outer s H E) (fun c d _ H => E c d H) := takes_of rfl rfl rfl rfl
  have po : PassesOwn (model P w) _ _ _ := passes_of (X := cxOf (L2.CX P w) P w K mg base N_node_at "node_at" (defScope s_node_at) f cdv A outer s H E) rfl
  exact ⟨rd_node_at K, jss_cons (js_ret (je_op kop_add (je_op kop_sub (je_op kop_shl (je_int) (je_var 1)) (je_int)) (je_op kop_shr (je_var 2) (je_op kop_sub (je_var 0) (je_var 1))))) (jss_nil), fun vs G M R Z h => pf_node_at h⟩
theorem df_node_at {P : Program} {w : World} {K : PySem.W.Frag} {mg : Str → Option Value} {base : Heap} {f : Addr} {fd : FuncData} (B : Bs mg) (C : Cs K mg) (F : Fun K "node_at" "node_at" s_node_at f fd) (b : Binds K fd ["high", "depth", "leaf"] []) (gm : mg "node_at" = some (.ref f))  :
    Def P w K mg base 1 "node_at" ["high", "depth", "leaf"] (S_node_at K) := ⟨f, fd, fo_node_at B C F , gm, F.kp, b⟩
abbrev s_room_of : Stmt := topS 23
abbrev N_room_of : List Str := ["node", "side"]
theorem sc_room_of : FnScope N_room_of ["node", "side"] (defScope s_room_of) := ⟨rfl, rfl, rfl, by decide +kernel, rfl, by decide +kernel, by decide +kernel⟩
theorem fo_room_of {P : Program} {w : World} {K : PySem.W.Frag} {mg : Str → Option Value} {base : Heap} {f : Addr} {fd : FuncData} (B : Bs mg) (C : Cs K mg) (F : Fun K "room_of" "room_of" s_room_of f fd)  :
    FnOk P w K mg base (L2.CX P w) 1 f fd ["node", "side"] (lift (S_room_of K)) := by
  refine fn_ok F sc_room_of (fun vs G M R Z h => sp_len2 h) (fun cdv A outer s H E hr => ?_)
  have nd : N_room_of.Nodup := sc_room_of.nd
  have hu : _ + 64 < cLine := hr.units
  have tk : Takes (cxOf (L2.CX P w) P w K mg base N_room_of "room_of" (defScope s_room_of) f cdv A outer s H E) (fun c d _ H => E c d H) := takes_of rfl rfl rfl rfl
  have po : PassesOwn (model P w) _ _ _ := passes_of (X := cxOf (L2.CX P w) P w K mg base N_room_of "room_of" (defScope s_room_of) f cdv A outer s H E) rfl
  exact ⟨rd_room_of K, jss_cons (js_ret (je_op kop_add (je_op kop_mul (je_int) (je_var 0)) (je_var 1))) (jss_nil), fun vs G M R Z h => pf_room_of h⟩
theorem df_room_of {P : Program} {w : World} {K : PySem.W.Frag} {mg : Str → Option Value} {base : Heap} {f : Addr} {fd : FuncData} (B : Bs mg) (C : Cs K mg) (F : Fun K "room_of" "room_of" s_room_of f fd) (b : Binds K fd ["node", "side"] []) (gm : mg "room_of" = some (.ref f))  :
    Def P w K mg base 1 "room_of" ["node", "side"] (S_room_of K) := ⟨f, fd, fo_room_of B C F , gm, F.kp, b⟩
abbrev s_touch_of : Stmt := topS 25
abbrev N_touch_of : List Str := ["kinds", "sign", "told", "node"]
theorem sc_touch_of : FnScope N_touch_of ["kinds", "sign", "told"] (defScope s_touch_of) := ⟨rfl, rfl, rfl, by decide +kernel, rfl, by decide +kernel, by decide +kernel⟩
theorem fo_touch_of {P : Program} {w : World} {K : PySem.W.Frag} {mg : Str → Option Value} {base : Heap} {f : Addr} {fd : FuncData} (B : Bs mg) (C : Cs K mg) (F : Fun K "touch_of" "touch_of" s_touch_of f fd) (D_node_at : Def P w K mg base 1 "node_at" ["high", "depth", "leaf"] (S_node_at K)) (D_room_of : Def P w K mg base 1 "room_of" ["node", "side"] (S_room_of K)) :
    FnOk P w K mg base (L2.CX P w) 2 f fd ["kinds", "sign", "told"] (lift (S_touch_of K)) := by
  refine fn_ok F sc_touch_of (fun vs G M R Z h => sp_len3 h) (fun cdv A outer s H E hr => ?_)
  have nd : N_touch_of.Nodup := sc_touch_of.nd
  have hu : _ + 64 < cLine := hr.units
  have tk : Takes (cxOf (L2.CX P w) P w K mg base N_touch_of "touch_of" (defScope s_touch_of) f cdv A outer s H E) (fun c d _ H => E c d H) := takes_of rfl rfl rfl rfl
  have po : PassesOwn (model P w) _ _ _ := passes_of (X := cxOf (L2.CX P w) P w K mg base N_touch_of "touch_of" (defScope s_touch_of) f cdv A outer s H E) rfl
  exact ⟨rd_touch_of K, jss_cons (js_if (jt_cmp (kop_eq hu) (je_ix (je_var 1) (je_int)) (je_str) (nomark _)) (jss_cons (js_ret (je_slT (je_var 1) (jo_some (je_int)) (jo_none))) (jss_nil)) (jss_nil)) (jss_cons (js_if (jt_cmp (kop_eq hu) (je_ix (je_var 1) (je_int)) (je_str) (nomark _)) (jss_cons (js_ret (je_tup (ja_cons (je_ix (je_var 1) (je_int)) (ja_cons (je_ix (je_var 1) (je_int)) (ja_cons (je_ix (je_ix (je_var 2) (je_ix (je_var 1) (je_int))) (je_ix (je_var 1) (je_int))) (ja_nil)))))) (jss_nil)) (jss_nil)) (jss_cons (js_set (i := 3) (je_callD D_node_at hr tk (ja_cons (je_ix (je_ix (je_var 0) (je_ix (je_var 1) (je_int))) (je_int)) (ja_cons (je_ix (je_var 1) (je_int)) (ja_cons (je_ix (je_var 2) (je_ix (je_var 1) (je_int))) (ja_nil))))) nd) (jss_cons (js_ret (je_tup (ja_cons (je_ix (je_var 1) (je_int)) (ja_cons (je_ix (je_var 1) (je_int)) (ja_cons (je_callD D_room_of hr tk (ja_cons (je_var 3) (ja_cons (je_ix (je_var 1) (je_int)) (ja_nil)))) (ja_nil)))))) (jss_nil)))), fun vs G M R Z h => pf_touch_of h⟩
theorem df_touch_of {P : Program} {w : World} {K : PySem.W.Frag} {mg : Str → Option Value} {base : Heap} {f : Addr} {fd : FuncData} (B : Bs mg) (C : Cs K mg) (F : Fun K "touch_of" "touch_of" s_touch_of f fd) (b : Binds K fd ["kinds", "sign", "told"] []) (gm : mg "touch_of" = some (.ref f)) (D_node_at : Def P w K mg base 1 "node_at" ["high", "depth", "leaf"] (S_node_at K)) (D_room_of : Def P w K mg base 1 "room_of" ["node", "side"] (S_room_of K)) :
    Def P w K mg base 2 "touch_of" ["kinds", "sign", "told"] (S_touch_of K) := ⟨f, fd, fo_touch_of B C F D_node_at D_room_of, gm, F.kp, b⟩
abbrev s_seen_by : Stmt := topS 27
abbrev N_seen_by : List Str := ["kinds", "signs", "draws", "told", "sign"]
theorem sc_seen_by : FnScope N_seen_by ["kinds", "signs", "draws"] (defScope s_seen_by) := ⟨rfl, rfl, rfl, by decide +kernel, rfl, by decide +kernel, by decide +kernel⟩
theorem fo_seen_by {P : Program} {w : World} {K : PySem.W.Frag} {mg : Str → Option Value} {base : Heap} {f : Addr} {fd : FuncData} (B : Bs mg) (C : Cs K mg) (F : Fun K "seen_by" "seen_by" s_seen_by f fd) (D_told_by : Def P w K mg base 3 "told_by" ["kinds", "draws"] (S_told_by K)) (D_touch_of : Def P w K mg base 2 "touch_of" ["kinds", "sign", "told"] (S_touch_of K)) :
    FnOk P w K mg base (L2.CX P w) 4 f fd ["kinds", "signs", "draws"] (lift (S_seen_by K)) := by
  refine fn_ok F sc_seen_by (fun vs G M R Z h => sp_len3 h) (fun cdv A outer s H E hr => ?_)
  have nd : N_seen_by.Nodup := sc_seen_by.nd
  have hu : _ + 64 < cLine := hr.units
  have tk : Takes (cxOf (L2.CX P w) P w K mg base N_seen_by "seen_by" (defScope s_seen_by) f cdv A outer s H E) (fun c d _ H => E c d H) := takes_of rfl rfl rfl rfl
  have po : PassesOwn (model P w) _ _ _ := passes_of (X := cxOf (L2.CX P w) P w K mg base N_seen_by "seen_by" (defScope s_seen_by) f cdv A outer s H E) rfl
  exact ⟨rd_seen_by K, jss_cons (js_set (i := 3) (je_callD D_told_by hr tk (ja_cons (je_var 0) (ja_cons (je_var 2) (ja_nil)))) nd) (jss_cons (js_ret (je_comp (own := [("sign", 4)]) rfl nd (ji_list (je_var 1)) (blkOk_by (own := [("sign", 4)]) (N := N_seen_by) (sc := defScope s_seen_by) (by decide +kernel)) (fun _ _ _ _ _ => by exact jg_name (i := 4) nd) (fun _ _ _ _ _ => by exact jts_nil) (fun _ _ _ _ _ => by exact je_callD D_touch_of hr takes0 (ja_cons (je_var 0) (ja_cons (je_var 4) (ja_cons (je_var 3) (ja_nil))))))) (jss_nil)), fun vs G M R Z h => pf_seen_by h⟩
theorem df_seen_by {P : Program} {w : World} {K : PySem.W.Frag} {mg : Str → Option Value} {base : Heap} {f : Addr} {fd : FuncData} (B : Bs mg) (C : Cs K mg) (F : Fun K "seen_by" "seen_by" s_seen_by f fd) (b : Binds K fd ["kinds", "signs", "draws"] []) (gm : mg "seen_by" = some (.ref f)) (D_told_by : Def P w K mg base 3 "told_by" ["kinds", "draws"] (S_told_by K)) (D_touch_of : Def P w K mg base 2 "touch_of" ["kinds", "sign", "told"] (S_touch_of K)) :
    Def P w K mg base 4 "seen_by" ["kinds", "signs", "draws"] (S_seen_by K) := ⟨f, fd, fo_seen_by B C F D_told_by D_touch_of, gm, F.kp, b⟩
abbrev s_row_of : Stmt := topS 11
abbrev N_row_of : List Str := ["order", "row", "left", "place"]
theorem sc_row_of : FnScope N_row_of ["order"] (defScope s_row_of) := ⟨rfl, rfl, rfl, by decide +kernel, rfl, by decide +kernel, by decide +kernel⟩
theorem fo_row_of {P : Program} {w : World} {K : PySem.W.Frag} {mg : Str → Option Value} {base : Heap} {f : Addr} {fd : FuncData} (B : Bs mg) (C : Cs K mg) (F : Fun K "row_of" "row_of" s_row_of f fd) (D_is_order : Def P w K mg base 3 "is_order" ["thing"] (S_is_order K)) (D_exchange : Def P w K mg base 1 "exchange" ["row", "one", "other"] (S_exchange K)) :
    FnOk P w K mg base (L2.CX P w) 4 f fd ["order"] (lift (S_row_of K)) := by
  refine fn_ok F sc_row_of (fun vs G M R Z h => sp_len1 h) (fun cdv A outer s H E hr => ?_)
  have nd : N_row_of.Nodup := sc_row_of.nd
  have hu : _ + 64 < cLine := hr.units
  have tk : Takes (cxOf (L2.CX P w) P w K mg base N_row_of "row_of" (defScope s_row_of) f cdv A outer s H E) (fun c d _ H => E c d H) := takes_of rfl rfl rfl rfl
  have po : PassesOwn (model P w) _ _ _ := passes_of (X := cxOf (L2.CX P w) P w K mg base N_row_of "row_of" (defScope s_row_of) f cdv A outer s H E) rfl
  exact ⟨rd_row_of K, jss_cons (js_if (jt_not (jt_val (je_callD D_is_order hr tk (ja_cons (je_var 0) (ja_nil))))) (jss_cons (js_raise C.g_NoOrder C.r_NoOrder tk) (jss_nil)) (jss_nil)) (jss_cons (js_set (i := 1) (je_op kop_mul (je_lst (ja_cons (je_int) (ja_nil))) (je_callB kc_len B.len (ja_cons (je_var 0) (ja_nil)))) nd) (jss_cons (js_set (i := 2) (je_listR1 B.list B.range (je_callB kc_len B.len (ja_cons (je_var 0) (ja_nil)))) nd) (jss_cons (js_for po rfl (ji_range3 B.range (ja_cons (je_op kop_sub (je_callB kc_len B.len (ja_cons (je_var 0) (ja_nil))) (je_int)) (ja_cons (je_int) (ja_cons (je_neg (je_int)) (ja_nil))))) (jg_name (i := 3) nd) (jss_cons (js_asg (je_bm PySem.F.plainAttrs_list PySem.F.slot_list_index PySem.F.type_list_index km_index (je_var 2) (ja_cons (je_ix (je_var 0) (je_var 3)) (ja_nil))) (jg_ix (je_var 1) (je_var 3))) (jss_cons (js_expr (je_callD D_exchange hr tk (ja_cons (je_var 2) (ja_cons (je_var 3) (ja_cons (je_ix (je_var 1) (je_var 3)) (ja_nil)))))) (jss_nil)))) (jss_cons (js_ret (je_var 1)) (jss_nil))))), fun vs G M R Z h => pf_row_of h⟩
theorem df_row_of {P : Program} {w : World} {K : PySem.W.Frag} {mg : Str → Option Value} {base : Heap} {f : Addr} {fd : FuncData} (B : Bs mg) (C : Cs K mg) (F : Fun K "row_of" "row_of" s_row_of f fd) (b : Binds K fd ["order"] []) (gm : mg "row_of" = some (.ref f)) (D_is_order : Def P w K mg base 3 "is_order" ["thing"] (S_is_order K)) (D_exchange : Def P w K mg base 1 "exchange" ["row", "one", "other"] (S_exchange K)) :
    Def P w K mg base 4 "row_of" ["order"] (S_row_of K) := ⟨f, fd, fo_row_of B C F D_is_order D_exchange, gm, F.kp, b⟩
abbrev s_led_draw : Stmt := topS 18
abbrev N_led_draw : List Str := ["part", "draws", "source", "turn", "order", "place"]
theorem sc_led_draw : FnScope N_led_draw ["part", "draws"] (defScope s_led_draw) := ⟨rfl, rfl, rfl, by decide +kernel, rfl, by decide +kernel, by decide +kernel⟩
theorem fo_led_draw {P : Program} {w : World} {K : PySem.W.Frag} {mg : Str → Option Value} {base : Heap} {f : Addr} {fd : FuncData} (B : Bs mg) (C : Cs K mg) (F : Fun K "led_draw" "led_draw" s_led_draw f fd) (D_order_of : Def P w K mg base 2 "order_of" ["row"] (S_order_of K)) (D_row_of : Def P w K mg base 4 "row_of" ["order"] (S_row_of K)) :
    FnOk P w K mg base (L2.CX P w) 5 f fd ["part", "draws"] (lift (S_led_draw K)) := by
  refine fn_ok F sc_led_draw (fun vs G M R Z h => sp_len2 h) (fun cdv A outer s H E hr => ?_)
  have nd : N_led_draw.Nodup := sc_led_draw.nd
  have hu : _ + 64 < cLine := hr.units
  have tk : Takes (cxOf (L2.CX P w) P w K mg base N_led_draw "led_draw" (defScope s_led_draw) f cdv A outer s H E) (fun c d _ H => E c d H) := takes_of rfl rfl rfl rfl
  have po : PassesOwn (model P w) _ _ _ := passes_of (X := cxOf (L2.CX P w) P w K mg base N_led_draw "led_draw" (defScope s_led_draw) f cdv A outer s H E) rfl
  exact ⟨rd_led_draw K, jss_cons (js_asg (je_var 0) (jg_tup rfl (jgs_cons (jg_name (i := 2) nd) (jgs_cons (jg_name (i := 3) nd) (jgs_nil))))) (jss_cons (js_if (jt_cmp (kop_is2) (je_var 3) (je_non) (nomark _)) (jss_cons (js_ret (je_ix (je_var 1) (je_var 2))) (jss_nil)) (jss_nil)) (jss_cons (js_set (i := 4) (je_callD D_order_of hr tk (ja_cons (je_ix (je_var 1) (je_var 2)) (ja_nil))) nd) (jss_cons (js_ret (je_callD D_row_of hr tk (ja_cons (je_comp (own := [("place", 5)]) rfl nd (ji_list (je_var 3)) (blkOk_by (own := [("place", 5)]) (N := N_led_draw) (sc := defScope s_led_draw) (by decide +kernel)) (fun _ _ _ _ _ => by exact jg_name (i := 5) nd) (fun _ _ _ _ _ => by exact jts_nil) (fun _ _ _ _ _ => by exact je_ix (je_var 4) (je_var 5))) (ja_nil)))) (jss_nil)))), fun vs G M R Z h => pf_led_draw h⟩
theorem df_led_draw {P : Program} {w : World} {K : PySem.W.Frag} {mg : Str → Option Value} {base : Heap} {f : Addr} {fd : FuncData} (B : Bs mg) (C : Cs K mg) (F : Fun K "led_draw" "led_draw" s_led_draw f fd) (b : Binds K fd ["part", "draws"] []) (gm : mg "led_draw" = some (.ref f)) (D_order_of : Def P w K mg base 2 "order_of" ["row"] (S_order_of K)) (D_row_of : Def P w K mg base 4 "row_of" ["order"] (S_row_of K)) :
    Def P w K mg base 5 "led_draw" ["part", "draws"] (S_led_draw K) := ⟨f, fd, fo_led_draw B C F D_order_of D_row_of, gm, F.kp, b⟩
abbrev s_led : Stmt := topS 19
abbrev N_led : List Str := ["kinds", "leading", "draws", "part"]
theorem sc_led : FnScope N_led ["kinds", "leading", "draws"] (defScope s_led) := ⟨rfl, rfl, rfl, by decide +kernel, rfl, by decide +kernel, by decide +kernel⟩
theorem fo_led {P : Program} {w : World} {K : PySem.W.Frag} {mg : Str → Option Value} {base : Heap} {f : Addr} {fd : FuncData} (B : Bs mg) (C : Cs K mg) (F : Fun K "led" "led" s_led f fd) (D_led_draw : Def P w K mg base 5 "led_draw" ["part", "draws"] (S_led_draw K)) :
    FnOk P w K mg base (L2.CX P w) 6 f fd ["kinds", "leading", "draws"] (lift (S_led K)) := by
  refine fn_ok F sc_led (fun vs G M R Z h => sp_len3 h) (fun cdv A outer s H E hr => ?_)
  have nd : N_led.Nodup := sc_led.nd
  have hu : _ + 64 < cLine := hr.units
  have tk : Takes (cxOf (L2.CX P w) P w K mg base N_led "led" (defScope s_led) f cdv A outer s H E) (fun c d _ H => E c d H) := takes_of rfl rfl rfl rfl
  have po : PassesOwn (model P w) _ _ _ := passes_of (X := cxOf (L2.CX P w) P w K mg base N_led "led" (defScope s_led) f cdv A outer s H E) rfl
  exact ⟨rd_led K, jss_cons (js_ret (je_comp (own := [("part", 3)]) rfl nd (ji_list (je_var 1)) (blkOk_by (own := [("part", 3)]) (N := N_led) (sc := defScope s_led) (by decide +kernel)) (fun _ _ _ _ _ => by exact jg_name (i := 3) nd) (fun _ _ _ _ _ => by exact jts_nil) (fun _ _ _ _ _ => by exact je_callD D_led_draw hr takes0 (ja_cons (je_var 3) (ja_cons (je_var 2) (ja_nil)))))) (jss_nil), fun vs G M R Z h => pf_led h⟩
theorem df_led {P : Program} {w : World} {K : PySem.W.Frag} {mg : Str → Option Value} {base : Heap} {f : Addr} {fd : FuncData} (B : Bs mg) (C : Cs K mg) (F : Fun K "led" "led" s_led f fd) (b : Binds K fd ["kinds", "leading", "draws"] []) (gm : mg "led" = some (.ref f)) (D_led_draw : Def P w K mg base 5 "led_draw" ["part", "draws"] (S_led_draw K)) :
    Def P w K mg base 6 "led" ["kinds", "leading", "draws"] (S_led K) := ⟨f, fd, fo_led B C F D_led_draw, gm, F.kp, b⟩
abbrev s_inverse : Stmt := topS 12
abbrev N_inverse : List Str := ["order", "places", "place", "number"]
theorem sc_inverse : FnScope N_inverse ["order"] (defScope s_inverse) := ⟨rfl, rfl, rfl, by decide +kernel, rfl, by decide +kernel, by decide +kernel⟩
theorem fo_inverse {P : Program} {w : World} {K : PySem.W.Frag} {mg : Str → Option Value} {base : Heap} {f : Addr} {fd : FuncData} (B : Bs mg) (C : Cs K mg) (F : Fun K "inverse" "inverse" s_inverse f fd)  :
    FnOk P w K mg base (L2.CX P w) 1 f fd ["order"] (lift (S_inverse K)) := by
  refine fn_ok F sc_inverse (fun vs G M R Z h => sp_len1 h) (fun cdv A outer s H E hr => ?_)
  have nd : N_inverse.Nodup := sc_inverse.nd
  have hu : _ + 64 < cLine := hr.units
  have tk : Takes (cxOf (L2.CX P w) P w K mg base N_inverse "inverse" (defScope s_inverse) f cdv A outer s H E) (fun c d _ H => E c d H) := takes_of rfl rfl rfl rfl
  have po : PassesOwn (model P w) _ _ _ := passes_of (X := cxOf (L2.CX P w) P w K mg base N_inverse "inverse" (defScope s_inverse) f cdv A outer s H E) rfl
  exact ⟨rd_inverse K, jss_cons (js_set (i := 1) (je_op kop_mul (je_lst (ja_cons (je_int) (ja_nil))) (je_callB kc_len B.len (ja_cons (je_var 0) (ja_nil)))) nd) (jss_cons (js_for po rfl (ji_enum B.enumerate (ja_cons (je_var 0) (ja_nil))) (jg_tup rfl (jgs_cons (jg_name (i := 2) nd) (jgs_cons (jg_name (i := 3) nd) (jgs_nil)))) (jss_cons (js_asg (je_var 2) (jg_ix (je_var 1) (je_var 3))) (jss_nil))) (jss_cons (js_ret (je_var 1)) (jss_nil))), fun vs G M R Z h => pf_inverse h⟩
theorem df_inverse {P : Program} {w : World} {K : PySem.W.Frag} {mg : Str → Option Value} {base : Heap} {f : Addr} {fd : FuncData} (B : Bs mg) (C : Cs K mg) (F : Fun K "inverse" "inverse" s_inverse f fd) (b : Binds K fd ["order"] []) (gm : mg "inverse" = some (.ref f))  :
    Def P w K mg base 1 "inverse" ["order"] (S_inverse K) := ⟨f, fd, fo_inverse B C F , gm, F.kp, b⟩
abbrev s_back : Stmt := topS 20
abbrev N_back : List Str := ["leading", "found", "place", "part", "source", "turn"]
theorem sc_back : FnScope N_back ["leading"] (defScope s_back) := ⟨rfl, rfl, rfl, by decide +kernel, rfl, by decide +kernel, by decide +kernel⟩
theorem fo_back {P : Program} {w : World} {K : PySem.W.Frag} {mg : Str → Option Value} {base : Heap} {f : Addr} {fd : FuncData} (B : Bs mg) (C : Cs K mg) (F : Fun K "back" "back" s_back f fd) (D_inverse : Def P w K mg base 1 "inverse" ["order"] (S_inverse K)) :
    FnOk P w K mg base (L2.CX P w) 2 f fd ["leading"] (lift (S_back K)) := by
  refine fn_ok F sc_back (fun vs G M R Z h => sp_len1 h) (fun cdv A outer s H E hr => ?_)
  have nd : N_back.Nodup := sc_back.nd
  have hu : _ + 64 < cLine := hr.units
  have tk : Takes (cxOf (L2.CX P w) P w K mg base N_back "back" (defScope s_back) f cdv A outer s H E) (fun c d _ H => E c d H) := takes_of rfl rfl rfl rfl
  have po : PassesOwn (model P w) _ _ _ := passes_of (X := cxOf (L2.CX P w) P w K mg base N_back "back" (defScope s_back) f cdv A outer s H E) rfl
  exact ⟨rd_back K, jss_cons (js_set (i := 1) (je_op kop_mul (je_lst (ja_cons (je_non) (ja_nil))) (je_callB kc_len B.len (ja_cons (je_var 0) (ja_nil)))) nd) (jss_cons (js_for po rfl (ji_enum B.enumerate (ja_cons (je_var 0) (ja_nil))) (jg_tup rfl (jgs_cons (jg_name (i := 2) nd) (jgs_cons (jg_name (i := 3) nd) (jgs_nil)))) (jss_cons (js_asg (je_var 3) (jg_tup rfl (jgs_cons (jg_name (i := 4) nd) (jgs_cons (jg_name (i := 5) nd) (jgs_nil))))) (jss_cons (js_asg (je_tup (ja_cons (je_var 2) (ja_cons (je_ite (jt_cmp (kop_is2) (je_var 5) (je_non) (nomark _)) (je_non) (je_callD D_inverse hr tk (ja_cons (je_var 5) (ja_nil)))) (ja_nil)))) (jg_ix (je_var 1) (je_var 4))) (jss_nil)))) (jss_cons (js_ret (je_var 1)) (jss_nil))), fun vs G M R Z h => pf_back h⟩
theorem df_back {P : Program} {w : World} {K : PySem.W.Frag} {mg : Str → Option Value} {base : Heap} {f : Addr} {fd : FuncData} (B : Bs mg) (C : Cs K mg) (F : Fun K "back" "back" s_back f fd) (b : Binds K fd ["leading"] []) (gm : mg "back" = some (.ref f)) (D_inverse : Def P w K mg base 1 "inverse" ["order"] (S_inverse K)) :
    Def P w K mg base 2 "back" ["leading"] (S_back K) := ⟨f, fd, fo_back B C F D_inverse, gm, F.kp, b⟩
abbrev s_law_holds : Stmt := topS 41
abbrev N_law_holds : List Str := ["_law_kinds_here", "_law_one", "_law_other", "_law_paper_here", "_law_draws_here", "_law_turned"]
theorem sc_law_holds : FnScope N_law_holds ["_law_kinds_here", "_law_one", "_law_other", "_law_paper_here", "_law_draws_here"] (defScope s_law_holds) := ⟨rfl, rfl, rfl, by decide +kernel, rfl, by decide +kernel, by decide +kernel⟩
theorem fo_law_holds {P : Program} {w : World} {K : PySem.W.Frag} {mg : Str → Option Value} {base : Heap} {f : Addr} {fd : FuncData} (B : Bs mg) (C : Cs K mg) (F : Fun K "_law_holds" "_law_holds" s_law_holds f fd) (D_is_leading : Def P w K mg base 6 "is_leading" ["kinds", "one", "other", "thing"] (S_is_leading K)) (D_seen_by : Def P w K mg base 4 "seen_by" ["kinds", "signs", "draws"] (S_seen_by K)) (D_led : Def P w K mg base 6 "led" ["kinds", "leading", "draws"] (S_led K)) (D_back : Def P w K mg base 2 "back" ["leading"] (S_back K)) :
    FnOk P w K mg base (L2.CX P w) 7 f fd ["_law_kinds_here", "_law_one", "_law_other", "_law_paper_here", "_law_draws_here"] (lift (S_law_holds K)) := by
  refine fn_ok F sc_law_holds (fun vs G M R Z h => sp_len5 h) (fun cdv A outer s H E hr => ?_)
  have nd : N_law_holds.Nodup := sc_law_holds.nd
  have hu : _ + 64 < cLine := hr.units
  have tk : Takes (cxOf (L2.CX P w) P w K mg base N_law_holds "_law_holds" (defScope s_law_holds) f cdv A outer s H E) (fun c d _ H => E c d H) := takes_of rfl rfl rfl rfl
  have po : PassesOwn (model P w) _ _ _ := passes_of (X := cxOf (L2.CX P w) P w K mg base N_law_holds "_law_holds" (defScope s_law_holds) f cdv A outer s H E) rfl
  exact ⟨rd_law_holds K, jss_cons (js_if (jt_not (jt_val (je_callD D_is_leading hr tk (ja_cons (je_var 0) (ja_cons (je_var 1) (ja_cons (je_var 2) (ja_cons (je_var 3) (ja_nil)))))))) (jss_cons (js_ret (je_bl)) (jss_nil)) (jss_nil)) (jss_cons (js_if (jt_cmp (kop_ne hu) (je_callD D_seen_by hr tk (ja_cons (je_var 0) (ja_cons (je_var 1) (ja_cons (je_var 4) (ja_nil))))) (je_callD D_seen_by hr tk (ja_cons (je_var 0) (ja_cons (je_var 2) (ja_cons (je_callD D_led hr tk (ja_cons (je_var 0) (ja_cons (je_var 3) (ja_cons (je_var 4) (ja_nil))))) (ja_nil))))) (nomark _)) (jss_cons (js_ret (je_bl)) (jss_nil)) (jss_nil)) (jss_cons (js_set (i := 5) (je_callD D_back hr tk (ja_cons (je_var 3) (ja_nil))) nd) (jss_cons (js_if (jt_not (jt_val (je_callD D_is_leading hr tk (ja_cons (je_var 0) (ja_cons (je_var 2) (ja_cons (je_var 1) (ja_cons (je_var 5) (ja_nil)))))))) (jss_cons (js_ret (je_bl)) (jss_nil)) (jss_nil)) (jss_cons (js_ret (je_cmp (kop_eq hu) (je_callD D_seen_by hr tk (ja_cons (je_var 0) (ja_cons (je_var 2) (ja_cons (je_var 4) (ja_nil))))) (je_callD D_seen_by hr tk (ja_cons (je_var 0) (ja_cons (je_var 1) (ja_cons (je_callD D_led hr tk (ja_cons (je_var 0) (ja_cons (je_var 5) (ja_cons (je_var 4) (ja_nil))))) (ja_nil))))) (nomark _))) (jss_nil))))), fun vs G M R Z h => pf_law_holds h⟩
theorem df_law_holds {P : Program} {w : World} {K : PySem.W.Frag} {mg : Str → Option Value} {base : Heap} {f : Addr} {fd : FuncData} (B : Bs mg) (C : Cs K mg) (F : Fun K "_law_holds" "_law_holds" s_law_holds f fd) (b : Binds K fd ["_law_kinds_here", "_law_one", "_law_other", "_law_paper_here", "_law_draws_here"] []) (gm : mg "_law_holds" = some (.ref f)) (D_is_leading : Def P w K mg base 6 "is_leading" ["kinds", "one", "other", "thing"] (S_is_leading K)) (D_seen_by : Def P w K mg base 4 "seen_by" ["kinds", "signs", "draws"] (S_seen_by K)) (D_led : Def P w K mg base 6 "led" ["kinds", "leading", "draws"] (S_led K)) (D_back : Def P w K mg base 2 "back" ["leading"] (S_back K)) :
    Def P w K mg base 7 "_law_holds" ["_law_kinds_here", "_law_one", "_law_other", "_law_paper_here", "_law_draws_here"] (S_law_holds K) := ⟨f, fd, fo_law_holds B C F D_is_leading D_seen_by D_led D_back, gm, F.kp, b⟩
abbrev s_law_bent : Stmt := topS 42
abbrev N_law_bent : List Str := ["_law_pool_here", "_law_kinds_here", "_law_signs", "_law_bent_here", "_law_k"]
theorem sc_law_bent : FnScope N_law_bent ["_law_pool_here", "_law_kinds_here", "_law_signs"] (defScope s_law_bent) := ⟨rfl, rfl, rfl, by decide +kernel, rfl, by decide +kernel, by decide +kernel⟩
theorem fo_law_bent {P : Program} {w : World} {K : PySem.W.Frag} {mg : Str → Option Value} {base : Heap} {f : Addr} {fd : FuncData} (B : Bs mg) (C : Cs K mg) (F : Fun K "_law_bent" "_law_bent" s_law_bent f fd) (D_law_take : Def P w K mg base 1 "_law_take" ["_law_pool_here", "_law_many"] (S_law_take K)) (D_law_sign : Def P w K mg base 2 "_law_sign" ["_law_pool_here", "_law_kinds_here"] (S_law_sign K)) :
    FnOk P w K mg base (L2.CX P w) 3 f fd ["_law_pool_here", "_law_kinds_here", "_law_signs"] (lift (S_law_bent K)) := by
  refine fn_ok F sc_law_bent (fun vs G M R Z h => sp_len3 h) (fun cdv A outer s H E hr => ?_)
  have nd : N_law_bent.Nodup := sc_law_bent.nd
  have hu : _ + 64 < cLine := hr.units
  have tk : Takes (cxOf (L2.CX P w) P w K mg base N_law_bent "_law_bent" (defScope s_law_bent) f cdv A outer s H E) (fun c d _ H => E c d H) := takes_of rfl rfl rfl rfl
  have po : PassesOwn (model P w) _ _ _ := passes_of (X := cxOf (L2.CX P w) P w K mg base N_law_bent "_law_bent" (defScope s_law_bent) f cdv A outer s H E) rfl
  exact ⟨rd_law_bent K, jss_cons (js_set (i := 3) (je_callTy kc_list B.list (ja_cons (je_var 2) (ja_nil))) nd) (jss_cons (js_for po rfl (ji_range1 B.range (ja_cons (je_callD D_law_take hr tk (ja_cons (je_var 0) (ja_cons (je_int) (ja_nil)))) (ja_nil))) (jg_name (i := 4) nd) (jss_cons (js_if (jt_cmp (kop_ne hu) (je_var 3) (je_lst (ja_nil)) (nomark _)) (jss_cons (js_asg (je_callD D_law_sign hr tk (ja_cons (je_var 0) (ja_cons (je_var 1) (ja_nil)))) (jg_ix (je_var 3) (je_callD D_law_take hr takes0 (ja_cons (je_var 0) (ja_cons (je_callB kc_len B.len (ja_cons (je_var 3) (ja_nil))) (ja_nil)))))) (jss_nil)) (jss_nil)) (jss_nil))) (jss_cons (js_h (js_ret (je_var 3))) (jss_nil))), fun vs G M R Z h => pf_law_bent h⟩
theorem df_law_bent {P : Program} {w : World} {K : PySem.W.Frag} {mg : Str → Option Value} {base : Heap} {f : Addr} {fd : FuncData} (B : Bs mg) (C : Cs K mg) (F : Fun K "_law_bent" "_law_bent" s_law_bent f fd) (b : Binds K fd ["_law_pool_here", "_law_kinds_here", "_law_signs"] []) (gm : mg "_law_bent" = some (.ref f)) (D_law_take : Def P w K mg base 1 "_law_take" ["_law_pool_here", "_law_many"] (S_law_take K)) (D_law_sign : Def P w K mg base 2 "_law_sign" ["_law_pool_here", "_law_kinds_here"] (S_law_sign K)) :
    Def P w K mg base 3 "_law_bent" ["_law_pool_here", "_law_kinds_here", "_law_signs"] (S_law_bent K) := ⟨f, fd, fo_law_bent B C F D_law_take D_law_sign, gm, F.kp, b⟩
abbrev s_law_bent_paper : Stmt := topS 43
abbrev N_law_bent_paper : List Str := ["_law_pool_here", "_law_kinds_here", "_law_paper_here", "_law_bent_here", "_law_at"]
theorem sc_law_bent_paper : FnScope N_law_bent_paper ["_law_pool_here", "_law_kinds_here", "_law_paper_here"] (defScope s_law_bent_paper) := ⟨rfl, rfl, rfl, by decide +kernel, rfl, by decide +kernel, by decide +kernel⟩
theorem fo_law_bent_paper {P : Program} {w : World} {K : PySem.W.Frag} {mg : Str → Option Value} {base : Heap} {f : Addr} {fd : FuncData} (B : Bs mg) (C : Cs K mg) (F : Fun K "_law_bent_paper" "_law_bent_paper" s_law_bent_paper f fd) (D_law_turn : Def P w K mg base 2 "_law_turn" ["_law_pool_here", "_law_size"] (S_law_turn K)) (D_law_take : Def P w K mg base 1 "_law_take" ["_law_pool_here", "_law_many"] (S_law_take K)) :
    FnOk P w K mg base (L2.CX P w) 3 f fd ["_law_pool_here", "_law_kinds_here", "_law_paper_here"] (lift (S_law_bent_paper K)) := by
  refine fn_ok F sc_law_bent_paper (fun vs G M R Z h => sp_len3 h) (fun cdv A outer s H E hr => ?_)
  have nd : N_law_bent_paper.Nodup := sc_law_bent_paper.nd
  have hu : _ + 64 < cLine := hr.units
  have tk : Takes (cxOf (L2.CX P w) P w K mg base N_law_bent_paper "_law_bent_paper" (defScope s_law_bent_paper) f cdv A outer s H E) (fun c d _ H => E c d H) := takes_of rfl rfl rfl rfl
  have po : PassesOwn (model P w) _ _ _ := passes_of (X := cxOf (L2.CX P w) P w K mg base N_law_bent_paper "_law_bent_paper" (defScope s_law_bent_paper) f cdv A outer s H E) rfl
  exact ⟨rd_law_bent_paper K, jss_cons (js_set (i := 3) (je_callTy kc_list B.list (ja_cons (je_var 2) (ja_nil))) nd) (jss_cons (js_if (jt_cmp (kop_ne hu) (je_var 3) (je_lst (ja_nil)) (nomark _)) (jss_cons (js_set (i := 4) (je_callD D_law_take hr tk (ja_cons (je_var 0) (ja_cons (je_callB kc_len B.len (ja_cons (je_var 3) (ja_nil))) (ja_nil)))) nd) (jss_cons (js_if (jt_cmp (kop_eq hu) (je_ix (je_ix (je_var 1) (je_var 4)) (je_int)) (je_str) (nomark _)) (jss_cons (js_asg (je_tup (ja_cons (je_ix (je_ix (je_var 3) (je_var 4)) (je_int)) (ja_cons (je_callD D_law_turn hr tk (ja_cons (je_var 0) (ja_cons (je_ix (je_ix (je_var 1) (je_var 4)) (je_int)) (ja_nil)))) (ja_nil)))) (jg_ix (je_var 3) (je_var 4))) (jss_nil)) (jss_nil)) (jss_nil))) (jss_nil)) (jss_cons (js_h (js_ret (je_var 3))) (jss_nil))), fun vs G M R Z h => pf_law_bent_paper h⟩
theorem df_law_bent_paper {P : Program} {w : World} {K : PySem.W.Frag} {mg : Str → Option Value} {base : Heap} {f : Addr} {fd : FuncData} (B : Bs mg) (C : Cs K mg) (F : Fun K "_law_bent_paper" "_law_bent_paper" s_law_bent_paper f fd) (b : Binds K fd ["_law_pool_here", "_law_kinds_here", "_law_paper_here"] []) (gm : mg "_law_bent_paper" = some (.ref f)) (D_law_turn : Def P w K mg base 2 "_law_turn" ["_law_pool_here", "_law_size"] (S_law_turn K)) (D_law_take : Def P w K mg base 1 "_law_take" ["_law_pool_here", "_law_many"] (S_law_take K)) :
    Def P w K mg base 3 "_law_bent_paper" ["_law_pool_here", "_law_kinds_here", "_law_paper_here"] (S_law_bent_paper K) := ⟨f, fd, fo_law_bent_paper B C F D_law_turn D_law_take, gm, F.kp, b⟩
abbrev s_law_right : Stmt := topS 44
abbrev N_law_right : List Str := ["_law_pool_here", "_law_kinds_here", "_law_paper_here", "_law_one", "_law_k", "_law_other", "_law_sign_here", "_law_draws_here"]
theorem sc_law_right : FnScope N_law_right ["_law_pool_here"] (defScope s_law_right) := ⟨rfl, rfl, rfl, by decide +kernel, rfl, by decide +kernel, by decide +kernel⟩
theorem fo_law_right {P : Program} {w : World} {K : PySem.W.Frag} {mg : Str → Option Value} {base : Heap} {f : Addr} {fd : FuncData} (B : Bs mg) (C : Cs K mg) (F : Fun K "_law_right" "_law_right" s_law_right f fd) (D_law_kinds : Def P w K mg base 2 "_law_kinds" ["_law_pool_here", "_law_most", "_law_far"] (S_law_kinds K)) (D_law_paper : Def P w K mg base 3 "_law_paper" ["_law_pool_here", "_law_kinds_here"] (S_law_paper K)) (D_law_take : Def P w K mg base 1 "_law_take" ["_law_pool_here", "_law_many"] (S_law_take K)) (D_law_sign : Def P w K mg base 2 "_law_sign" ["_law_pool_here", "_law_kinds_here"] (S_law_sign K)) (D_law_led_sign : Def P w K mg base 1 "_law_led_sign" ["_law_paper_here", "_law_sign_here"] (S_law_led_sign K)) (D_law_draws : Def P w K mg base 3 "_law_draws" ["_law_pool_here", "_law_kinds_here"] (S_law_draws K)) (D_is_leading : Def P w K mg base 6 "is_leading" ["kinds", "one", "other", "thing"] (S_is_leading K)) (D_law_holds : Def P w K mg base 7 "_law_holds" ["_law_kinds_here", "_law_one", "_law_other", "_law_paper_here", "_law_draws_here"] (S_law_holds K)) (D_law_bent : Def P w K mg base 3 "_law_bent" ["_law_pool_here", "_law_kinds_here", "_law_signs"] (S_law_bent K)) (D_law_bent_paper : Def P w K mg base 3 "_law_bent_paper" ["_law_pool_here", "_law_kinds_here", "_law_paper_here"] (S_law_bent_paper K)) :
    FnOk P w K mg base (L2.CX P w) 8 f fd ["_law_pool_here"] (lift (S_law_right K)) := by
  refine fn_ok F sc_law_right (fun vs G M R Z h => sp_len1 h) (fun cdv A outer s H E hr => ?_)
  have nd : N_law_right.Nodup := sc_law_right.nd
  have hu : _ + 64 < cLine := hr.units
  have tk : Takes (cxOf (L2.CX P w) P w K mg base N_law_right "_law_right" (defScope s_law_right) f cdv A outer s H E) (fun c d _ H => E c d H) := takes_of rfl rfl rfl rfl
  have po : PassesOwn (model P w) _ _ _ := passes_of (X := cxOf (L2.CX P w) P w K mg base N_law_right "_law_right" (defScope s_law_right) f cdv A outer s H E) rfl
  exact ⟨rd_law_right K, jss_cons (js_set (i := 1) (je_callD D_law_kinds hr tk (ja_cons (je_var 0) (ja_cons (je_int) (ja_cons (je_int) (ja_nil))))) nd) (jss_cons (js_set (i := 2) (je_callD D_law_paper hr tk (ja_cons (je_var 0) (ja_cons (je_var 1) (ja_nil)))) nd) (jss_cons (js_setComp (own := [("_law_k", 4)]) (i := 3) rfl nd (sw_true rfl rfl rfl (by decide +kernel)) (ji_range1 B.range (ja_cons (je_callD D_law_take hr tk (ja_cons (je_var 0) (ja_cons (je_int) (ja_nil)))) (ja_nil))) (blkOk_by (own := [("_law_k", 4)]) (N := N_law_right) (sc := defScope s_law_right) (by decide +kernel)) (fun _ _ _ _ _ => by exact jg_name (i := 4) nd) (fun _ _ _ _ _ => by exact jts_nil) (fun _ _ _ _ _ => by exact je_callD D_law_sign hr takes0 (ja_cons (je_var 0) (ja_cons (je_var 1) (ja_nil))))) (jss_cons (js_setComp (own := [("_law_sign_here", 6)]) (i := 5) rfl nd (sw_true rfl rfl rfl (by decide +kernel)) (ji_list (je_var 3)) (blkOk_by (own := [("_law_sign_here", 6)]) (N := N_law_right) (sc := defScope s_law_right) (by decide +kernel)) (fun _ _ _ _ _ => by exact jg_name (i := 6) nd) (fun _ _ _ _ _ => by exact jts_nil) (fun _ _ _ _ _ => by exact je_callD D_law_led_sign hr takes0 (ja_cons (je_var 2) (ja_cons (je_var 6) (ja_nil))))) (jss_cons (js_set (i := 7) (je_callD D_law_draws hr tk (ja_cons (je_var 0) (ja_cons (je_var 1) (ja_nil)))) nd) (jss_cons (js_if ((jw_or (jt_not (jt_val (je_callD D_is_leading hr tk (ja_cons (je_var 1) (ja_cons (je_var 3) (ja_cons (je_var 5) (ja_cons (je_var 2) (ja_nil)))))))) (jw_or1 (jt_not (jt_val (je_callD D_law_holds hr tk (ja_cons (je_var 1) (ja_cons (je_var 3) (ja_cons (je_var 5) (ja_cons (je_var 2) (ja_cons (je_var 7) (ja_nil))))))))))).jt) (jss_cons (js_ret (je_bl)) (jss_nil)) (jss_nil)) (jss_cons (js_if (jt_not (jt_val (je_callD D_law_holds hr tk (ja_cons (je_var 1) (ja_cons (je_var 3) (ja_cons (je_callD D_law_bent hr tk (ja_cons (je_var 0) (ja_cons (je_var 1) (ja_cons (je_var 5) (ja_nil))))) (ja_cons (je_var 2) (ja_cons (je_var 7) (ja_nil))))))))) (jss_cons (js_ret (je_bl)) (jss_nil)) (jss_nil)) (jss_cons (js_ret (je_callD D_law_holds hr tk (ja_cons (je_var 1) (ja_cons (je_var 3) (ja_cons (je_var 5) (ja_cons (je_callD D_law_bent_paper hr tk (ja_cons (je_var 0) (ja_cons (je_var 1) (ja_cons (je_var 2) (ja_nil))))) (ja_cons (je_var 7) (ja_nil)))))))) (jss_nil)))))))), fun vs G M R Z h => pf_law_right h⟩
theorem df_law_right {P : Program} {w : World} {K : PySem.W.Frag} {mg : Str → Option Value} {base : Heap} {f : Addr} {fd : FuncData} (B : Bs mg) (C : Cs K mg) (F : Fun K "_law_right" "_law_right" s_law_right f fd) (b : Binds K fd ["_law_pool_here"] []) (gm : mg "_law_right" = some (.ref f)) (D_law_kinds : Def P w K mg base 2 "_law_kinds" ["_law_pool_here", "_law_most", "_law_far"] (S_law_kinds K)) (D_law_paper : Def P w K mg base 3 "_law_paper" ["_law_pool_here", "_law_kinds_here"] (S_law_paper K)) (D_law_take : Def P w K mg base 1 "_law_take" ["_law_pool_here", "_law_many"] (S_law_take K)) (D_law_sign : Def P w K mg base 2 "_law_sign" ["_law_pool_here", "_law_kinds_here"] (S_law_sign K)) (D_law_led_sign : Def P w K mg base 1 "_law_led_sign" ["_law_paper_here", "_law_sign_here"] (S_law_led_sign K)) (D_law_draws : Def P w K mg base 3 "_law_draws" ["_law_pool_here", "_law_kinds_here"] (S_law_draws K)) (D_is_leading : Def P w K mg base 6 "is_leading" ["kinds", "one", "other", "thing"] (S_is_leading K)) (D_law_holds : Def P w K mg base 7 "_law_holds" ["_law_kinds_here", "_law_one", "_law_other", "_law_paper_here", "_law_draws_here"] (S_law_holds K)) (D_law_bent : Def P w K mg base 3 "_law_bent" ["_law_pool_here", "_law_kinds_here", "_law_signs"] (S_law_bent K)) (D_law_bent_paper : Def P w K mg base 3 "_law_bent_paper" ["_law_pool_here", "_law_kinds_here", "_law_paper_here"] (S_law_bent_paper K)) :
    Def P w K mg base 8 "_law_right" ["_law_pool_here"] (S_law_right K) := ⟨f, fd, fo_law_right B C F D_law_kinds D_law_paper D_law_take D_law_sign D_law_led_sign D_law_draws D_is_leading D_law_holds D_law_bent D_law_bent_paper, gm, F.kp, b⟩
abbrev s_law : Stmt := topS 45
abbrev N_law : List Str := ["_law_script", "_law_k"]
theorem sc_law : FnScope N_law ["_law_script"] (defScope s_law) := ⟨rfl, rfl, rfl, by decide +kernel, rfl, by decide +kernel, by decide +kernel⟩
theorem fo_law {P : Program} {w : World} {K : PySem.W.Frag} {mg : Str → Option Value} {base : Heap} {f : Addr} {fd : FuncData} (B : Bs mg) (C : Cs K mg) (F : Fun K "law" "law" s_law f fd) (D_law_pool : Def P w K mg base 1 "_law_pool" ["_law_script", "_law_k"] (S_law_pool K)) (D_law_right : Def P w K mg base 8 "_law_right" ["_law_pool_here"] (S_law_right K)) :
    FnOk P w K mg base (L2.CX P w) 9 f fd ["_law_script"] (lift (S_law K)) := by
  refine fn_ok F sc_law (fun vs G M R Z h => sp_len1 h) (fun cdv A outer s H E hr => ?_)
  have nd : N_law.Nodup := sc_law.nd
  have hu : _ + 64 < cLine := hr.units
  have tk : Takes (cxOf (L2.CX P w) P w K mg base N_law "law" (defScope s_law) f cdv A outer s H E) (fun c d _ H => E c d H) := takes_of rfl rfl rfl rfl
  have po : PassesOwn (model P w) _ _ _ := passes_of (X := cxOf (L2.CX P w) P w K mg base N_law "law" (defScope s_law) f cdv A outer s H E) rfl
  exact ⟨rd_law K, jss_cons (js_for po rfl (ji_range1 B.range (ja_cons (je_callB kc_max2 B.max (ja_cons (je_int) (ja_cons (je_callB kc_min2 B.min (ja_cons (je_callB kc_len B.len (ja_cons (je_var 0) (ja_nil))) (ja_cons (je_int) (ja_nil)))) (ja_nil)))) (ja_nil))) (jg_name (i := 1) nd) (jss_cons (js_if (jt_not (jt_val (je_callD D_law_right hr tk (ja_cons (je_callD D_law_pool hr tk (ja_cons (je_var 0) (ja_cons (je_var 1) (ja_nil)))) (ja_nil))))) (jss_cons (js_ret (je_bl)) (jss_nil)) (jss_nil)) (jss_nil))) (jss_cons (js_ret (je_bl)) (jss_nil)), fun vs G M R Z h => pf_law h⟩
theorem df_law {P : Program} {w : World} {K : PySem.W.Frag} {mg : Str → Option Value} {base : Heap} {f : Addr} {fd : FuncData} (B : Bs mg) (C : Cs K mg) (F : Fun K "law" "law" s_law f fd) (b : Binds K fd ["_law_script"] []) (gm : mg "law" = some (.ref f)) (D_law_pool : Def P w K mg base 1 "_law_pool" ["_law_script", "_law_k"] (S_law_pool K)) (D_law_right : Def P w K mg base 8 "_law_right" ["_law_pool_here"] (S_law_right K)) :
    Def P w K mg base 9 "law" ["_law_script"] (S_law K) := ⟨f, fd, fo_law B C F D_law_pool D_law_right, gm, F.kp, b⟩
theorem all_mk {l : PySem.W.OpenLaw} {w : World} {K : PySem.W.Frag} {h : Heap} {mg : Str → Option Value} {fa f0 f1 f2 f3 f4 f5 f6 f7 f8 f9 f10 f11 f12 f13 f14 f15 f16 f17 f18 f19 f20 f21 f22 f23 f24 f25 f26 f27 f28 f29 f30 f31 f32 : Addr} (X : K.In h) (G : h.Ns mainGlobals mg) (hfa : mg "law" = some (.ref fa))
    {od0 an0 od1 an1 od2 an2 od3 an3 od4 an4 od5 an5 od6 an6 od7 an7 od8 an8 od9 an9 od10 an10 od11 an11 od12 an12 od13 an13 od14 an14 od15 an15 od16 an16 od17 an17 od18 an18 od19 an19 od20 an20 od21 an21 od22 an22 od23 an23 od24 an24 od25 an25 od26 an26 od27 an27 od28 an28 od29 an29 od30 an30 od31 an31 od32 an32 : Option Addr} {sl0 sl1 sl2 sl3 sl4 sl5 sl6 sl7 sl8 sl9 sl10 sl11 sl12 sl13 sl14 sl15 sl16 sl17 sl18 sl19 sl20 sl21 sl22 sl23 sl24 sl25 sl26 sl27 sl28 sl29 sl30 sl31 sl32 : Array (Option Value)} {oc0 kV0 dc0 pm0 cd0 ct0 oc1 kV1 dc1 pm1 cd1 ct1 oc2 kV2 dc2 pm2 cd2 ct2 oc3 kV3 dc3 pm3 cd3 ct3 oc4 kV4 dc4 pm4 cd4 ct4 oc5 kV5 dc5 pm5 cd5 ct5 oc6 kV6 dc6 pm6 cd6 ct6 oc7 kV7 dc7 pm7 cd7 ct7 oc8 kV8 dc8 pm8 cd8 ct8 oc9 kV9 dc9 pm9 cd9 ct9 oc10 kV10 dc10 pm10 cd10 ct10 oc11 kV11 dc11 pm11 cd11 ct11 oc12 kV12 dc12 pm12 cd12 ct12 oc13 kV13 dc13 pm13 cd13 ct13 oc14 kV14 dc14 pm14 cd14 ct14 oc15 kV15 dc15 pm15 cd15 ct15 oc16 kV16 dc16 pm16 cd16 ct16 oc17 kV17 dc17 pm17 cd17 ct17 oc18 kV18 dc18 pm18 cd18 ct18 oc19 kV19 dc19 pm19 cd19 ct19 oc20 kV20 dc20 pm20 cd20 ct20 oc21 kV21 dc21 pm21 cd21 ct21 oc22 kV22 dc22 pm22 cd22 ct22 oc23 kV23 dc23 pm23 cd23 ct23 oc24 kV24 dc24 pm24 cd24 ct24 oc25 kV25 dc25 pm25 cd25 ct25 oc26 kV26 dc26 pm26 cd26 ct26 oc27 kV27 dc27 pm27 cd27 ct27 oc28 kV28 dc28 pm28 cd28 ct28 oc29 kV29 dc29 pm29 cd29 ct29 oc30 kV30 dc30 pm30 cd30 ct30 oc31 kV31 dc31 pm31 cd31 ct31 oc32 kV32 dc32 pm32 cd32 ct32 : Value}
    (a0 : PySem.W.nsIn K mainGlobals "_law_pool" = some (some (.ref f0))) (l0 : K.lookup f0 = some ⟨oc0, od0, .func (PySem.W.fnOf "_law_pool" "_law_pool" (defArgs s_law_pool) (defBody s_law_pool) (defScope s_law_pool) .none kV0 dc0 pm0 an0 cd0 ct0), sl0⟩) (c0 : PySem.W.codeIn K cd0 "_law_pool" = true) (k0 : PySem.W.keepIn K (.ref f0) = true)
    (a1 : PySem.W.nsIn K mainGlobals "_law_take" = some (some (.ref f1))) (l1 : K.lookup f1 = some ⟨oc1, od1, .func (PySem.W.fnOf "_law_take" "_law_take" (defArgs s_law_take) (defBody s_law_take) (defScope s_law_take) .none kV1 dc1 pm1 an1 cd1 ct1), sl1⟩) (c1 : PySem.W.codeIn K cd1 "_law_take" = true) (k1 : PySem.W.keepIn K (.ref f1) = true)
    (a2 : PySem.W.nsIn K mainGlobals "_law_kinds" = some (some (.ref f2))) (l2 : K.lookup f2 = some ⟨oc2, od2, .func (PySem.W.fnOf "_law_kinds" "_law_kinds" (defArgs s_law_kinds) (defBody s_law_kinds) (defScope s_law_kinds) .none kV2 dc2 pm2 an2 cd2 ct2), sl2⟩) (c2 : PySem.W.codeIn K cd2 "_law_kinds" = true) (k2 : PySem.W.keepIn K (.ref f2) = true)
    (a3 : PySem.W.nsIn K mainGlobals "_law_turn" = some (some (.ref f3))) (l3 : K.lookup f3 = some ⟨oc3, od3, .func (PySem.W.fnOf "_law_turn" "_law_turn" (defArgs s_law_turn) (defBody s_law_turn) (defScope s_law_turn) .none kV3 dc3 pm3 an3 cd3 ct3), sl3⟩) (c3 : PySem.W.codeIn K cd3 "_law_turn" = true) (k3 : PySem.W.keepIn K (.ref f3) = true)
    (a4 : PySem.W.nsIn K mainGlobals "_law_paper" = some (some (.ref f4))) (l4 : K.lookup f4 = some ⟨oc4, od4, .func (PySem.W.fnOf "_law_paper" "_law_paper" (defArgs s_law_paper) (defBody s_law_paper) (defScope s_law_paper) .none kV4 dc4 pm4 an4 cd4 ct4), sl4⟩) (c4 : PySem.W.codeIn K cd4 "_law_paper" = true) (k4 : PySem.W.keepIn K (.ref f4) = true)
    (a5 : PySem.W.nsIn K mainGlobals "_law_sign" = some (some (.ref f5))) (l5 : K.lookup f5 = some ⟨oc5, od5, .func (PySem.W.fnOf "_law_sign" "_law_sign" (defArgs s_law_sign) (defBody s_law_sign) (defScope s_law_sign) .none kV5 dc5 pm5 an5 cd5 ct5), sl5⟩) (c5 : PySem.W.codeIn K cd5 "_law_sign" = true) (k5 : PySem.W.keepIn K (.ref f5) = true)
    (a6 : PySem.W.nsIn K mainGlobals "_law_led_sign" = some (some (.ref f6))) (l6 : K.lookup f6 = some ⟨oc6, od6, .func (PySem.W.fnOf "_law_led_sign" "_law_led_sign" (defArgs s_law_led_sign) (defBody s_law_led_sign) (defScope s_law_led_sign) .none kV6 dc6 pm6 an6 cd6 ct6), sl6⟩) (c6 : PySem.W.codeIn K cd6 "_law_led_sign" = true) (k6 : PySem.W.keepIn K (.ref f6) = true)
    (a7 : PySem.W.nsIn K mainGlobals "_law_draw" = some (some (.ref f7))) (l7 : K.lookup f7 = some ⟨oc7, od7, .func (PySem.W.fnOf "_law_draw" "_law_draw" (defArgs s_law_draw) (defBody s_law_draw) (defScope s_law_draw) .none kV7 dc7 pm7 an7 cd7 ct7), sl7⟩) (c7 : PySem.W.codeIn K cd7 "_law_draw" = true) (k7 : PySem.W.keepIn K (.ref f7) = true)
    (a8 : PySem.W.nsIn K mainGlobals "_law_draws" = some (some (.ref f8))) (l8 : K.lookup f8 = some ⟨oc8, od8, .func (PySem.W.fnOf "_law_draws" "_law_draws" (defArgs s_law_draws) (defBody s_law_draws) (defScope s_law_draws) .none kV8 dc8 pm8 an8 cd8 ct8), sl8⟩) (c8 : PySem.W.codeIn K cd8 "_law_draws" = true) (k8 : PySem.W.keepIn K (.ref f8) = true)
    (a9 : PySem.W.nsIn K mainGlobals "is_whole" = some (some (.ref f9))) (l9 : K.lookup f9 = some ⟨oc9, od9, .func (PySem.W.fnOf "is_whole" "is_whole" (defArgs s_is_whole) (defBody s_is_whole) (defScope s_is_whole) .none kV9 dc9 pm9 an9 cd9 ct9), sl9⟩) (c9 : PySem.W.codeIn K cd9 "is_whole" = true) (k9 : PySem.W.keepIn K (.ref f9) = true)
    (a10 : PySem.W.nsIn K mainGlobals "is_within" = some (some (.ref f10))) (l10 : K.lookup f10 = some ⟨oc10, od10, .func (PySem.W.fnOf "is_within" "is_within" (defArgs s_is_within) (defBody s_is_within) (defScope s_is_within) .none kV10 dc10 pm10 an10 cd10 ct10), sl10⟩) (c10 : PySem.W.codeIn K cd10 "is_within" = true) (k10 : PySem.W.keepIn K (.ref f10) = true)
    (a11 : PySem.W.nsIn K mainGlobals "is_order" = some (some (.ref f11))) (l11 : K.lookup f11 = some ⟨oc11, od11, .func (PySem.W.fnOf "is_order" "is_order" (defArgs s_is_order) (defBody s_is_order) (defScope s_is_order) .none kV11 dc11 pm11 an11 cd11 ct11), sl11⟩) (c11 : PySem.W.codeIn K cd11 "is_order" = true) (k11 : PySem.W.keepIn K (.ref f11) = true)
    (a12 : PySem.W.nsIn K mainGlobals "is_part" = some (some (.ref f12))) (l12 : K.lookup f12 = some ⟨oc12, od12, .func (PySem.W.fnOf "is_part" "is_part" (defArgs s_is_part) (defBody s_is_part) (defScope s_is_part) .none kV12 dc12 pm12 an12 cd12 ct12), sl12⟩) (c12 : PySem.W.codeIn K cd12 "is_part" = true) (k12 : PySem.W.keepIn K (.ref f12) = true)
    (a13 : PySem.W.nsIn K mainGlobals "is_paper" = some (some (.ref f13))) (l13 : K.lookup f13 = some ⟨oc13, od13, .func (PySem.W.fnOf "is_paper" "is_paper" (defArgs s_is_paper) (defBody s_is_paper) (defScope s_is_paper) .none kV13 dc13 pm13 an13 cd13 ct13), sl13⟩) (c13 : PySem.W.codeIn K cd13 "is_paper" = true) (k13 : PySem.W.keepIn K (.ref f13) = true)
    (a14 : PySem.W.nsIn K mainGlobals "is_led" = some (some (.ref f14))) (l14 : K.lookup f14 = some ⟨oc14, od14, .func (PySem.W.fnOf "is_led" "is_led" (defArgs s_is_led) (defBody s_is_led) (defScope s_is_led) .none kV14 dc14 pm14 an14 cd14 ct14), sl14⟩) (c14 : PySem.W.codeIn K cd14 "is_led" = true) (k14 : PySem.W.keepIn K (.ref f14) = true)
    (a15 : PySem.W.nsIn K mainGlobals "is_leading" = some (some (.ref f15))) (l15 : K.lookup f15 = some ⟨oc15, od15, .func (PySem.W.fnOf "is_leading" "is_leading" (defArgs s_is_leading) (defBody s_is_leading) (defScope s_is_leading) .none kV15 dc15 pm15 an15 cd15 ct15), sl15⟩) (c15 : PySem.W.codeIn K cd15 "is_leading" = true) (k15 : PySem.W.keepIn K (.ref f15) = true)
    (a16 : PySem.W.nsIn K mainGlobals "exchange" = some (some (.ref f16))) (l16 : K.lookup f16 = some ⟨oc16, od16, .func (PySem.W.fnOf "exchange" "exchange" (defArgs s_exchange) (defBody s_exchange) (defScope s_exchange) .none kV16 dc16 pm16 an16 cd16 ct16), sl16⟩) (c16 : PySem.W.codeIn K cd16 "exchange" = true) (k16 : PySem.W.keepIn K (.ref f16) = true)
    (a17 : PySem.W.nsIn K mainGlobals "order_of" = some (some (.ref f17))) (l17 : K.lookup f17 = some ⟨oc17, od17, .func (PySem.W.fnOf "order_of" "order_of" (defArgs s_order_of) (defBody s_order_of) (defScope s_order_of) .none kV17 dc17 pm17 an17 cd17 ct17), sl17⟩) (c17 : PySem.W.codeIn K cd17 "order_of" = true) (k17 : PySem.W.keepIn K (.ref f17) = true)
    (a18 : PySem.W.nsIn K mainGlobals "told_by" = some (some (.ref f18))) (l18 : K.lookup f18 = some ⟨oc18, od18, .func (PySem.W.fnOf "told_by" "told_by" (defArgs s_told_by) (defBody s_told_by) (defScope s_told_by) .none kV18 dc18 pm18 an18 cd18 ct18), sl18⟩) (c18 : PySem.W.codeIn K cd18 "told_by" = true) (k18 : PySem.W.keepIn K (.ref f18) = true)
    (a19 : PySem.W.nsIn K mainGlobals "node_at" = some (some (.ref f19))) (l19 : K.lookup f19 = some ⟨oc19, od19, .func (PySem.W.fnOf "node_at" "node_at" (defArgs s_node_at) (defBody s_node_at) (defScope s_node_at) .none kV19 dc19 pm19 an19 cd19 ct19), sl19⟩) (c19 : PySem.W.codeIn K cd19 "node_at" = true) (k19 : PySem.W.keepIn K (.ref f19) = true)
    (a20 : PySem.W.nsIn K mainGlobals "room_of" = some (some (.ref f20))) (l20 : K.lookup f20 = some ⟨oc20, od20, .func (PySem.W.fnOf "room_of" "room_of" (defArgs s_room_of) (defBody s_room_of) (defScope s_room_of) .none kV20 dc20 pm20 an20 cd20 ct20), sl20⟩) (c20 : PySem.W.codeIn K cd20 "room_of" = true) (k20 : PySem.W.keepIn K (.ref f20) = true)
    (a21 : PySem.W.nsIn K mainGlobals "touch_of" = some (some (.ref f21))) (l21 : K.lookup f21 = some ⟨oc21, od21, .func (PySem.W.fnOf "touch_of" "touch_of" (defArgs s_touch_of) (defBody s_touch_of) (defScope s_touch_of) .none kV21 dc21 pm21 an21 cd21 ct21), sl21⟩) (c21 : PySem.W.codeIn K cd21 "touch_of" = true) (k21 : PySem.W.keepIn K (.ref f21) = true)
    (a22 : PySem.W.nsIn K mainGlobals "seen_by" = some (some (.ref f22))) (l22 : K.lookup f22 = some ⟨oc22, od22, .func (PySem.W.fnOf "seen_by" "seen_by" (defArgs s_seen_by) (defBody s_seen_by) (defScope s_seen_by) .none kV22 dc22 pm22 an22 cd22 ct22), sl22⟩) (c22 : PySem.W.codeIn K cd22 "seen_by" = true) (k22 : PySem.W.keepIn K (.ref f22) = true)
    (a23 : PySem.W.nsIn K mainGlobals "row_of" = some (some (.ref f23))) (l23 : K.lookup f23 = some ⟨oc23, od23, .func (PySem.W.fnOf "row_of" "row_of" (defArgs s_row_of) (defBody s_row_of) (defScope s_row_of) .none kV23 dc23 pm23 an23 cd23 ct23), sl23⟩) (c23 : PySem.W.codeIn K cd23 "row_of" = true) (k23 : PySem.W.keepIn K (.ref f23) = true)
    (a24 : PySem.W.nsIn K mainGlobals "led_draw" = some (some (.ref f24))) (l24 : K.lookup f24 = some ⟨oc24, od24, .func (PySem.W.fnOf "led_draw" "led_draw" (defArgs s_led_draw) (defBody s_led_draw) (defScope s_led_draw) .none kV24 dc24 pm24 an24 cd24 ct24), sl24⟩) (c24 : PySem.W.codeIn K cd24 "led_draw" = true) (k24 : PySem.W.keepIn K (.ref f24) = true)
    (a25 : PySem.W.nsIn K mainGlobals "led" = some (some (.ref f25))) (l25 : K.lookup f25 = some ⟨oc25, od25, .func (PySem.W.fnOf "led" "led" (defArgs s_led) (defBody s_led) (defScope s_led) .none kV25 dc25 pm25 an25 cd25 ct25), sl25⟩) (c25 : PySem.W.codeIn K cd25 "led" = true) (k25 : PySem.W.keepIn K (.ref f25) = true)
    (a26 : PySem.W.nsIn K mainGlobals "inverse" = some (some (.ref f26))) (l26 : K.lookup f26 = some ⟨oc26, od26, .func (PySem.W.fnOf "inverse" "inverse" (defArgs s_inverse) (defBody s_inverse) (defScope s_inverse) .none kV26 dc26 pm26 an26 cd26 ct26), sl26⟩) (c26 : PySem.W.codeIn K cd26 "inverse" = true) (k26 : PySem.W.keepIn K (.ref f26) = true)
    (a27 : PySem.W.nsIn K mainGlobals "back" = some (some (.ref f27))) (l27 : K.lookup f27 = some ⟨oc27, od27, .func (PySem.W.fnOf "back" "back" (defArgs s_back) (defBody s_back) (defScope s_back) .none kV27 dc27 pm27 an27 cd27 ct27), sl27⟩) (c27 : PySem.W.codeIn K cd27 "back" = true) (k27 : PySem.W.keepIn K (.ref f27) = true)
    (a28 : PySem.W.nsIn K mainGlobals "_law_holds" = some (some (.ref f28))) (l28 : K.lookup f28 = some ⟨oc28, od28, .func (PySem.W.fnOf "_law_holds" "_law_holds" (defArgs s_law_holds) (defBody s_law_holds) (defScope s_law_holds) .none kV28 dc28 pm28 an28 cd28 ct28), sl28⟩) (c28 : PySem.W.codeIn K cd28 "_law_holds" = true) (k28 : PySem.W.keepIn K (.ref f28) = true)
    (a29 : PySem.W.nsIn K mainGlobals "_law_bent" = some (some (.ref f29))) (l29 : K.lookup f29 = some ⟨oc29, od29, .func (PySem.W.fnOf "_law_bent" "_law_bent" (defArgs s_law_bent) (defBody s_law_bent) (defScope s_law_bent) .none kV29 dc29 pm29 an29 cd29 ct29), sl29⟩) (c29 : PySem.W.codeIn K cd29 "_law_bent" = true) (k29 : PySem.W.keepIn K (.ref f29) = true)
    (a30 : PySem.W.nsIn K mainGlobals "_law_bent_paper" = some (some (.ref f30))) (l30 : K.lookup f30 = some ⟨oc30, od30, .func (PySem.W.fnOf "_law_bent_paper" "_law_bent_paper" (defArgs s_law_bent_paper) (defBody s_law_bent_paper) (defScope s_law_bent_paper) .none kV30 dc30 pm30 an30 cd30 ct30), sl30⟩) (c30 : PySem.W.codeIn K cd30 "_law_bent_paper" = true) (k30 : PySem.W.keepIn K (.ref f30) = true)
    (a31 : PySem.W.nsIn K mainGlobals "_law_right" = some (some (.ref f31))) (l31 : K.lookup f31 = some ⟨oc31, od31, .func (PySem.W.fnOf "_law_right" "_law_right" (defArgs s_law_right) (defBody s_law_right) (defScope s_law_right) .none kV31 dc31 pm31 an31 cd31 ct31), sl31⟩) (c31 : PySem.W.codeIn K cd31 "_law_right" = true) (k31 : PySem.W.keepIn K (.ref f31) = true)
    (a32 : PySem.W.nsIn K mainGlobals "law" = some (some (.ref f32))) (l32 : K.lookup f32 = some ⟨oc32, od32, .func (PySem.W.fnOf "law" "law" (defArgs s_law) (defBody s_law) (defScope s_law) .none kV32 dc32 pm32 an32 cd32 ct32), sl32⟩) (c32 : PySem.W.codeIn K cd32 "law" = true) (k32 : PySem.W.keepIn K (.ref f32) = true)
    (z_all : PySem.W.nsIn K mainGlobals "all" = some none)
    (z_bool : PySem.W.nsIn K mainGlobals "bool" = some none)
    (z_enumerate : PySem.W.nsIn K mainGlobals "enumerate" = some none)
    (z_int : PySem.W.nsIn K mainGlobals "int" = some none)
    (z_isinstance : PySem.W.nsIn K mainGlobals "isinstance" = some none)
    (z_len : PySem.W.nsIn K mainGlobals "len" = some none)
    (z_list : PySem.W.nsIn K mainGlobals "list" = some none)
    (z_max : PySem.W.nsIn K mainGlobals "max" = some none)
    (z_min : PySem.W.nsIn K mainGlobals "min" = some none)
    (z_range : PySem.W.nsIn K mainGlobals "range" = some none)
    (z_set : PySem.W.nsIn K mainGlobals "set" = some none)
    (z_tuple : PySem.W.nsIn K mainGlobals "tuple" = some none)
    (z_zip : PySem.W.nsIn K mainGlobals "zip" = some none)
    {X_NoOrder : Addr}
    {tk_MOST : Tok}
    (xa_NoOrder : PySem.W.nsIn K mainGlobals "NoOrder" = some (some (.ref X_NoOrder)))
    (xk_NoOrder : PySem.W.keepIn K (.ref X_NoOrder) = true)
    (xx_NoOrder : PySem.W.excIn K X_NoOrder [.type "ValueError", .type "Exception", .type "BaseException", .type "object"] "ValueError.__new__" = true)
    (xb_NoOrder : PySem.W.subIn K (.ref X_NoOrder) (.type "BaseException") = some true)
    (xt_NoOrder : PySem.W.typeIn K (.ref X_NoOrder) = some (.type "type"))
    (x4_NoOrder : PySem.W.hasDictIn K X_NoOrder = true)
    (ka_MOST : PySem.W.nsIn K mainGlobals "MOST" = some (some (.int 64 tk_MOST)))
    : ∃ fd : FuncData, (∀ (s : Shared) (v : Value), BindsTo s fd ⟨[v], []⟩ [("_law_script", v)]) ∧ ∀ base : Heap, K.In base → base.Ns mainGlobals mg → FnOk l.prog w K mg base (L2.CX l.prog w) 9 fa fd ["_law_script"] (lift (S_law K)) := by
  have e := hfa.symm.trans (PySem.W.mg_of X G a32)
  cases e
  have B : Bs mg := ⟨PySem.W.mg_none_of X G z_all, PySem.W.mg_none_of X G z_bool, PySem.W.mg_none_of X G z_enumerate, PySem.W.mg_none_of X G z_int, PySem.W.mg_none_of X G z_isinstance, PySem.W.mg_none_of X G z_len, PySem.W.mg_none_of X G z_list, PySem.W.mg_none_of X G z_max, PySem.W.mg_none_of X G z_min, PySem.W.mg_none_of X G z_range, PySem.W.mg_none_of X G z_set, PySem.W.mg_none_of X G z_tuple, PySem.W.mg_none_of X G z_zip⟩
  have C : Cs K mg := ⟨xg_mk X G xa_NoOrder xk_NoOrder, xr_mk xa_NoOrder xx_NoOrder xb_NoOrder xt_NoOrder, ⟨_, PySem.W.mg_of X G ka_MOST, _, rfl⟩⟩
  have F0 := fun_mk (st := s_law_pool) l0 c0 k0
  have b0 := F0.binds (ps := ["_law_script", "_law_k"]) fun _ _ _ _ _ _ us hl => match us, hl with | [_, _], _ => rfl
  have F1 := fun_mk (st := s_law_take) l1 c1 k1
  have b1 := F1.binds (ps := ["_law_pool_here", "_law_many"]) fun _ _ _ _ _ _ us hl => match us, hl with | [_, _], _ => rfl
  have F2 := fun_mk (st := s_law_kinds) l2 c2 k2
  have b2 := F2.binds (ps := ["_law_pool_here", "_law_most", "_law_far"]) fun _ _ _ _ _ _ us hl => match us, hl with | [_, _, _], _ => rfl
  have F3 := fun_mk (st := s_law_turn) l3 c3 k3
  have b3 := F3.binds (ps := ["_law_pool_here", "_law_size"]) fun _ _ _ _ _ _ us hl => match us, hl with | [_, _], _ => rfl
  have F4 := fun_mk (st := s_law_paper) l4 c4 k4
  have b4 := F4.binds (ps := ["_law_pool_here", "_law_kinds_here"]) fun _ _ _ _ _ _ us hl => match us, hl with | [_, _], _ => rfl
  have F5 := fun_mk (st := s_law_sign) l5 c5 k5
  have b5 := F5.binds (ps := ["_law_pool_here", "_law_kinds_here"]) fun _ _ _ _ _ _ us hl => match us, hl with | [_, _], _ => rfl
  have F6 := fun_mk (st := s_law_led_sign) l6 c6 k6
  have b6 := F6.binds (ps := ["_law_paper_here", "_law_sign_here"]) fun _ _ _ _ _ _ us hl => match us, hl with | [_, _], _ => rfl
  have F7 := fun_mk (st := s_law_draw) l7 c7 k7
  have b7 := F7.binds (ps := ["_law_pool_here", "_law_kind"]) fun _ _ _ _ _ _ us hl => match us, hl with | [_, _], _ => rfl
  have F8 := fun_mk (st := s_law_draws) l8 c8 k8
  have b8 := F8.binds (ps := ["_law_pool_here", "_law_kinds_here"]) fun _ _ _ _ _ _ us hl => match us, hl with | [_, _], _ => rfl
  have F9 := fun_mk (st := s_is_whole) l9 c9 k9
  have b9 := F9.binds (ps := ["thing"]) fun _ _ _ _ _ _ us hl => match us, hl with | [_], _ => rfl
  have F10 := fun_mk (st := s_is_within) l10 c10 k10
  have b10 := F10.binds (ps := ["thing", "least", "most"]) fun _ _ _ _ _ _ us hl => match us, hl with | [_, _, _], _ => rfl
  have F11 := fun_mk (st := s_is_order) l11 c11 k11
  have b11 := F11.binds (ps := ["thing"]) fun _ _ _ _ _ _ us hl => match us, hl with | [_], _ => rfl
  have F12 := fun_mk (st := s_is_part) l12 c12 k12
  have b12 := F12.binds (ps := ["kinds", "place", "thing"]) fun _ _ _ _ _ _ us hl => match us, hl with | [_, _, _], _ => rfl
  have F13 := fun_mk (st := s_is_paper) l13 c13 k13
  have b13 := F13.binds (ps := ["kinds", "thing"]) fun _ _ _ _ _ _ us hl => match us, hl with | [_, _], _ => rfl
  have F14 := fun_mk (st := s_is_led) l14 c14 k14
  have b14 := F14.binds (ps := ["one", "other", "paper"]) fun _ _ _ _ _ _ us hl => match us, hl with | [_, _, _], _ => rfl
  have F15 := fun_mk (st := s_is_leading) l15 c15 k15
  have b15 := F15.binds (ps := ["kinds", "one", "other", "thing"]) fun _ _ _ _ _ _ us hl => match us, hl with | [_, _, _, _], _ => rfl
  have F16 := fun_mk (st := s_exchange) l16 c16 k16
  have b16 := F16.binds (ps := ["row", "one", "other"]) fun _ _ _ _ _ _ us hl => match us, hl with | [_, _, _], _ => rfl
  have F17 := fun_mk (st := s_order_of) l17 c17 k17
  have b17 := F17.binds (ps := ["row"]) fun _ _ _ _ _ _ us hl => match us, hl with | [_], _ => rfl
  have F18 := fun_mk (st := s_told_by) l18 c18 k18
  have b18 := F18.binds (ps := ["kinds", "draws"]) fun _ _ _ _ _ _ us hl => match us, hl with | [_, _], _ => rfl
  have F19 := fun_mk (st := s_node_at) l19 c19 k19
  have b19 := F19.binds (ps := ["high", "depth", "leaf"]) fun _ _ _ _ _ _ us hl => match us, hl with | [_, _, _], _ => rfl
  have F20 := fun_mk (st := s_room_of) l20 c20 k20
  have b20 := F20.binds (ps := ["node", "side"]) fun _ _ _ _ _ _ us hl => match us, hl with | [_, _], _ => rfl
  have F21 := fun_mk (st := s_touch_of) l21 c21 k21
  have b21 := F21.binds (ps := ["kinds", "sign", "told"]) fun _ _ _ _ _ _ us hl => match us, hl with | [_, _, _], _ => rfl
  have F22 := fun_mk (st := s_seen_by) l22 c22 k22
  have b22 := F22.binds (ps := ["kinds", "signs", "draws"]) fun _ _ _ _ _ _ us hl => match us, hl with | [_, _, _], _ => rfl
  have F23 := fun_mk (st := s_row_of) l23 c23 k23
  have b23 := F23.binds (ps := ["order"]) fun _ _ _ _ _ _ us hl => match us, hl with | [_], _ => rfl
  have F24 := fun_mk (st := s_led_draw) l24 c24 k24
  have b24 := F24.binds (ps := ["part", "draws"]) fun _ _ _ _ _ _ us hl => match us, hl with | [_, _], _ => rfl
  have F25 := fun_mk (st := s_led) l25 c25 k25
  have b25 := F25.binds (ps := ["kinds", "leading", "draws"]) fun _ _ _ _ _ _ us hl => match us, hl with | [_, _, _], _ => rfl
  have F26 := fun_mk (st := s_inverse) l26 c26 k26
  have b26 := F26.binds (ps := ["order"]) fun _ _ _ _ _ _ us hl => match us, hl with | [_], _ => rfl
  have F27 := fun_mk (st := s_back) l27 c27 k27
  have b27 := F27.binds (ps := ["leading"]) fun _ _ _ _ _ _ us hl => match us, hl with | [_], _ => rfl
  have F28 := fun_mk (st := s_law_holds) l28 c28 k28
  have b28 := F28.binds (ps := ["_law_kinds_here", "_law_one", "_law_other", "_law_paper_here", "_law_draws_here"]) fun _ _ _ _ _ _ us hl => match us, hl with | [_, _, _, _, _], _ => rfl
  have F29 := fun_mk (st := s_law_bent) l29 c29 k29
  have b29 := F29.binds (ps := ["_law_pool_here", "_law_kinds_here", "_law_signs"]) fun _ _ _ _ _ _ us hl => match us, hl with | [_, _, _], _ => rfl
  have F30 := fun_mk (st := s_law_bent_paper) l30 c30 k30
  have b30 := F30.binds (ps := ["_law_pool_here", "_law_kinds_here", "_law_paper_here"]) fun _ _ _ _ _ _ us hl => match us, hl with | [_, _, _], _ => rfl
  have F31 := fun_mk (st := s_law_right) l31 c31 k31
  have b31 := F31.binds (ps := ["_law_pool_here"]) fun _ _ _ _ _ _ us hl => match us, hl with | [_], _ => rfl
  have F32 := fun_mk (st := s_law) l32 c32 k32
  have b32 := F32.binds (ps := ["_law_script"]) fun _ _ _ _ _ _ us hl => match us, hl with | [_], _ => rfl
  refine ⟨PySem.W.fnOf "law" "law" (defArgs s_law) (defBody s_law) (defScope s_law) .none kV32 dc32 pm32 an32 cd32 ct32, fun s v => .of_eq rfl, fun base _ _ => ?_⟩
  have D_law_pool := df_law_pool (P := l.prog) (w := w) (base := base) B C F0 b0 (PySem.W.mg_of X G a0) 
  have D_law_take := df_law_take (P := l.prog) (w := w) (base := base) B C F1 b1 (PySem.W.mg_of X G a1) 
  have D_law_kinds := df_law_kinds (P := l.prog) (w := w) (base := base) B C F2 b2 (PySem.W.mg_of X G a2) D_law_take
  have D_law_turn := df_law_turn (P := l.prog) (w := w) (base := base) B C F3 b3 (PySem.W.mg_of X G a3) D_law_take
  have D_law_paper := df_law_paper (P := l.prog) (w := w) (base := base) B C F4 b4 (PySem.W.mg_of X G a4) D_law_take D_law_turn
  have D_law_sign := df_law_sign (P := l.prog) (w := w) (base := base) B C F5 b5 (PySem.W.mg_of X G a5) D_law_take
  have D_law_led_sign := df_law_led_sign (P := l.prog) (w := w) (base := base) B C F6 b6 (PySem.W.mg_of X G a6) 
  have D_law_draw := df_law_draw (P := l.prog) (w := w) (base := base) B C F7 b7 (PySem.W.mg_of X G a7) D_law_take
  have D_law_draws := df_law_draws (P := l.prog) (w := w) (base := base) B C F8 b8 (PySem.W.mg_of X G a8) D_law_draw
  have D_is_whole := df_is_whole (P := l.prog) (w := w) (base := base) B C F9 b9 (PySem.W.mg_of X G a9) 
  have D_is_within := df_is_within (P := l.prog) (w := w) (base := base) B C F10 b10 (PySem.W.mg_of X G a10) D_is_whole
  have D_is_order := df_is_order (P := l.prog) (w := w) (base := base) B C F11 b11 (PySem.W.mg_of X G a11) D_is_within
  have D_is_part := df_is_part (P := l.prog) (w := w) (base := base) B C F12 b12 (PySem.W.mg_of X G a12) D_is_within D_is_order
  have D_is_paper := df_is_paper (P := l.prog) (w := w) (base := base) B C F13 b13 (PySem.W.mg_of X G a13) D_is_part
  have D_is_led := df_is_led (P := l.prog) (w := w) (base := base) B C F14 b14 (PySem.W.mg_of X G a14) 
  have D_is_leading := df_is_leading (P := l.prog) (w := w) (base := base) B C F15 b15 (PySem.W.mg_of X G a15) D_is_paper D_is_led
  have D_exchange := df_exchange (P := l.prog) (w := w) (base := base) B C F16 b16 (PySem.W.mg_of X G a16) 
  have D_order_of := df_order_of (P := l.prog) (w := w) (base := base) B C F17 b17 (PySem.W.mg_of X G a17) D_exchange
  have D_told_by := df_told_by (P := l.prog) (w := w) (base := base) B C F18 b18 (PySem.W.mg_of X G a18) D_order_of
  have D_node_at := df_node_at (P := l.prog) (w := w) (base := base) B C F19 b19 (PySem.W.mg_of X G a19) 
  have D_room_of := df_room_of (P := l.prog) (w := w) (base := base) B C F20 b20 (PySem.W.mg_of X G a20) 
  have D_touch_of := df_touch_of (P := l.prog) (w := w) (base := base) B C F21 b21 (PySem.W.mg_of X G a21) D_node_at D_room_of
  have D_seen_by := df_seen_by (P := l.prog) (w := w) (base := base) B C F22 b22 (PySem.W.mg_of X G a22) D_told_by D_touch_of
  have D_row_of := df_row_of (P := l.prog) (w := w) (base := base) B C F23 b23 (PySem.W.mg_of X G a23) D_is_order D_exchange
  have D_led_draw := df_led_draw (P := l.prog) (w := w) (base := base) B C F24 b24 (PySem.W.mg_of X G a24) D_order_of D_row_of
  have D_led := df_led (P := l.prog) (w := w) (base := base) B C F25 b25 (PySem.W.mg_of X G a25) D_led_draw
  have D_inverse := df_inverse (P := l.prog) (w := w) (base := base) B C F26 b26 (PySem.W.mg_of X G a26) 
  have D_back := df_back (P := l.prog) (w := w) (base := base) B C F27 b27 (PySem.W.mg_of X G a27) D_inverse
  have D_law_holds := df_law_holds (P := l.prog) (w := w) (base := base) B C F28 b28 (PySem.W.mg_of X G a28) D_is_leading D_seen_by D_led D_back
  have D_law_bent := df_law_bent (P := l.prog) (w := w) (base := base) B C F29 b29 (PySem.W.mg_of X G a29) D_law_take D_law_sign
  have D_law_bent_paper := df_law_bent_paper (P := l.prog) (w := w) (base := base) B C F30 b30 (PySem.W.mg_of X G a30) D_law_turn D_law_take
  have D_law_right := df_law_right (P := l.prog) (w := w) (base := base) B C F31 b31 (PySem.W.mg_of X G a31) D_law_kinds D_law_paper D_law_take D_law_sign D_law_led_sign D_law_draws D_is_leading D_law_holds D_law_bent D_law_bent_paper
  exact fo_law (P := l.prog) (w := w) (base := base) B C F32 D_law_pool D_law_right
end BT
def PySem.W.Fast.tw14014999510488165440 := 0
def PySem.W.Fast.tw14904520487867533537 := 0
def PySem.W.Fast.tw287876770709953354 := 0
def PySem.W.Fast.tw6502319928113995950 := 0
def PySem.W.Fast.tw9853531927365783825 := 0
def PySem.W.Fast.tw10427388523216604630 := 0
def PySem.W.Fast.tw15425265885752815352 := 0
def PySem.W.Fast.tw661952705197075708 := 0
def PySem.W.Fast.tw1813773901384574494 := 0
open PySem PySem.W PyProof.Rows
set_option maxHeartbeats 0 in
theorem PySem.Challenge.cw_blindtouch_k52_whole_whatever_leading_is_holds : PySem.Challenge.rw_blindtouch_k52_whole_whatever_leading_is.Holds := by
  w_on; o_law; k_head; (case hw => w_witness2)
  k_fill
  refine L2.walk_of (l := PySem.Challenge.rw_blindtouch_k52_whole_whatever_leading_is) (n := 63) (k := 9) (x := "_law_script") (CX := fun w => L2.CX (PySem.Challenge.rw_blindtouch_k52_whole_whatever_leading_is).prog w) (sp := fun w => BT.lift (BT.S_law _)) rfl (by decide) rfl ⟨rfl, by decide, by decide⟩ (fun w h Y => PySem.W.kIn_of Y) ?F (fun _ H a ns hl _ hS => BT.law_start hl hS) (fun _ _ _ _ _ h => BT.cx_none h)
  case F =>
    intro w mg fa h KX G hmg
    refine' BT.all_mk KX G hmg ?a0 ?l0 ?c0 ?k0 ?a1 ?l1 ?c1 ?k1 ?a2 ?l2 ?c2 ?k2 ?a3 ?l3 ?c3 ?k3 ?a4 ?l4 ?c4 ?k4 ?a5 ?l5 ?c5 ?k5 ?a6 ?l6 ?c6 ?k6 ?a7 ?l7 ?c7 ?k7 ?a8 ?l8 ?c8 ?k8 ?a9 ?l9 ?c9 ?k9 ?a10 ?l10 ?c10 ?k10 ?a11 ?l11 ?c11 ?k11 ?a12 ?l12 ?c12 ?k12 ?a13 ?l13 ?c13 ?k13 ?a14 ?l14 ?c14 ?k14 ?a15 ?l15 ?c15 ?k15 ?a16 ?l16 ?c16 ?k16 ?a17 ?l17 ?c17 ?k17 ?a18 ?l18 ?c18 ?k18 ?a19 ?l19 ?c19 ?k19 ?a20 ?l20 ?c20 ?k20 ?a21 ?l21 ?c21 ?k21 ?a22 ?l22 ?c22 ?k22 ?a23 ?l23 ?c23 ?k23 ?a24 ?l24 ?c24 ?k24 ?a25 ?l25 ?c25 ?k25 ?a26 ?l26 ?c26 ?k26 ?a27 ?l27 ?c27 ?k27 ?a28 ?l28 ?c28 ?k28 ?a29 ?l29 ?c29 ?k29 ?a30 ?l30 ?c30 ?k30 ?a31 ?l31 ?c31 ?k31 ?a32 ?l32 ?c32 ?k32 ?z_all ?z_bool ?z_enumerate ?z_int ?z_isinstance ?z_len ?z_list ?z_max ?z_min ?z_range ?z_set ?z_tuple ?z_zip ?xa_NoOrder ?xk_NoOrder ?xx_NoOrder ?xb_NoOrder ?xt_NoOrder ?x4_NoOrder ?ka_MOST
    (case a0 => k_is); (case l0 => k_is); (case c0 => k_is); (case k0 => k_is); (case a1 => k_is); (case l1 => k_is); (case c1 => k_is); (case k1 => k_is); (case a2 => k_is); (case l2 => k_is); (case c2 => k_is); (case k2 => k_is); (case a3 => k_is); (case l3 => k_is); (case c3 => k_is); (case k3 => k_is); (case a4 => k_is); (case l4 => k_is); (case c4 => k_is); (case k4 => k_is); (case a5 => k_is); (case l5 => k_is); (case c5 => k_is); (case k5 => k_is); (case a6 => k_is); (case l6 => k_is); (case c6 => k_is); (case k6 => k_is); (case a7 => k_is); (case l7 => k_is); (case c7 => k_is); (case k7 => k_is); (case a8 => k_is); (case l8 => k_is); (case c8 => k_is); (case k8 => k_is); (case a9 => k_is); (case l9 => k_is); (case c9 => k_is); (case k9 => k_is); (case a10 => k_is); (case l10 => k_is); (case c10 => k_is); (case k10 => k_is); (case a11 => k_is); (case l11 => k_is); (case c11 => k_is); (case k11 => k_is); (case a12 => k_is); (case l12 => k_is); (case c12 => k_is); (case k12 => k_is); (case a13 => k_is); (case l13 => k_is); (case c13 => k_is); (case k13 => k_is); (case a14 => k_is); (case l14 => k_is); (case c14 => k_is); (case k14 => k_is); (case a15 => k_is); (case l15 => k_is); (case c15 => k_is); (case k15 => k_is); (case a16 => k_is); (case l16 => k_is); (case c16 => k_is); (case k16 => k_is); (case a17 => k_is); (case l17 => k_is); (case c17 => k_is); (case k17 => k_is); (case a18 => k_is); (case l18 => k_is); (case c18 => k_is); (case k18 => k_is); (case a19 => k_is); (case l19 => k_is); (case c19 => k_is); (case k19 => k_is); (case a20 => k_is); (case l20 => k_is); (case c20 => k_is); (case k20 => k_is); (case a21 => k_is); (case l21 => k_is); (case c21 => k_is); (case k21 => k_is); (case a22 => k_is); (case l22 => k_is); (case c22 => k_is); (case k22 => k_is); (case a23 => k_is); (case l23 => k_is); (case c23 => k_is); (case k23 => k_is); (case a24 => k_is); (case l24 => k_is); (case c24 => k_is); (case k24 => k_is); (case a25 => k_is); (case l25 => k_is); (case c25 => k_is); (case k25 => k_is); (case a26 => k_is); (case l26 => k_is); (case c26 => k_is); (case k26 => k_is); (case a27 => k_is); (case l27 => k_is); (case c27 => k_is); (case k27 => k_is); (case a28 => k_is); (case l28 => k_is); (case c28 => k_is); (case k28 => k_is); (case a29 => k_is); (case l29 => k_is); (case c29 => k_is); (case k29 => k_is); (case a30 => k_is); (case l30 => k_is); (case c30 => k_is); (case k30 => k_is); (case a31 => k_is); (case l31 => k_is); (case c31 => k_is); (case k31 => k_is); (case a32 => k_is); (case l32 => k_is); (case c32 => k_is); (case k32 => k_is); (case z_all => k_is); (case z_bool => k_is); (case z_enumerate => k_is); (case z_int => k_is); (case z_isinstance => k_is); (case z_len => k_is); (case z_list => k_is); (case z_max => k_is); (case z_min => k_is); (case z_range => k_is); (case z_set => k_is); (case z_tuple => k_is); (case z_zip => k_is); (case xa_NoOrder => k_is); (case xk_NoOrder => k_is); (case xb_NoOrder => k_is); (case xt_NoOrder => k_is); (case x4_NoOrder => k_is); (case ka_MOST => k_is)
    (case xx_NoOrder => k_exc)
