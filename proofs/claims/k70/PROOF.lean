import PyProof.Rows.All
import Wide.All
import OpenK.AllK
import Wide.FinOn
import HandS.ForMost
import HandS.Exc
import HandS.TryOnly
import HandS.ExcOwn
import HandS.WordsExc
import HandS.Wide
import HandS.WideBits
import HandS.IsInst
import HandS.SortInts
import HandS.Style
import HandS.ExcIs
import HandS.ExcValue
import HandS.Conv
import HandS.Dict
import KE.DataMinMax
import HandS.RevRange
import HandS.More
import PyProof.SetRoads
import HandS.SetKeys
import HandS.TupAny
import HandS.NoneIn
import PyProof.EqKinds
import PyProof.FactsAll.dict
import HandS.ListItems
import PyProof.ReprRoads
import PyProof.ReprLen
import PyProof.Rows.StrJoinMade
import KE.SortData
import KE.DataCmp
import PySem.Challenge.RW_blindtouch_k70_comes_of_few
set_option Elab.async false
set_option linter.all false
set_option maxRecDepth 100000
set_option maxHeartbeats 4000000
/-! KL: readings over what is known of the heap: a frozen part G, and cells M that may be written. -/
namespace BT
open PySem PySem.Spec L2
open PyProof.Rows hiding St

abbrev Mem := List (Addr × HO)
structure Hv (G : Hp) (M : Mem) (H : Hp) : Prop where
  ex : ∀ a o, G a = some o → H a = some o
  mu : ∀ x, x ∈ M → H x.1 = some x.2
  nd : (M.map (·.1)).Nodup
  dj : ∀ x, x ∈ M → G x.1 = none
def Fr (G : Hp) (M : Mem) (p : Addr) : Prop := G p = none ∧ ∀ x, x ∈ M → x.1 ≠ p
def At (G : Hp) (M : Mem) (a : Addr) (o : HO) : Prop := (a, o) ∈ M ∨ G a = some o
section
variable {G : Hp} {M : Mem} {H : Hp} {p a : Addr} {o o' : HO} {n : Nat}
theorem Hv.self (H : Hp) : Hv H [] H := ⟨fun _ _ h => h, fun _ h => (nomatch h), List.nodup_nil, fun _ h => (nomatch h)⟩
theorem Hv.fr (h : Hv G M H) (hp : H p = none) : Fr G M p := by
  refine ⟨?_, fun x hx e => ?_⟩
  · cases e : G p with
    | none => rfl
    | some o => rw [h.ex p o e] at hp; cases hp
  · have := h.mu x hx
    rw [e, hp] at this; cases this
theorem Hv.at (h : Hv G M H) (q : At G M a o) : H a = some o := by
  rcases q with q | q
  · exact h.mu _ q
  · exact h.ex _ _ q
theorem Hv.newM (h : Hv G M H) (hp : H p = none) : Hv G ((p, o) :: M) (upd H p o) := by
  have f := h.fr hp
  refine ⟨fun b u e => ?_, fun x hx => ?_, ?_, fun x hx => ?_⟩
  · rw [upd_ne (ne_of_none (h.ex b u e) hp)]; exact h.ex b u e
  · rcases List.mem_cons.mp hx with rfl | hx
    · exact upd_same
    · rw [upd_ne (f.2 x hx)]; exact h.mu x hx
  · rw [List.map_cons, List.nodup_cons]
    refine ⟨fun hm => ?_, h.nd⟩
    obtain ⟨x, hx, e⟩ := List.mem_map.mp hm
    exact f.2 x hx e
  · rcases List.mem_cons.mp hx with rfl | hx
    · exact f.1
    · exact h.dj x hx
theorem Hv.newG (h : Hv G M H) (hp : H p = none) : Hv (upd G p o) M (upd H p o) := by
  have f := h.fr hp
  refine ⟨fun b u e => ?_, fun x hx => ?_, h.nd, fun x hx => ?_⟩
  · by_cases hb : b = p
    · subst hb; rw [upd_same] at e ⊢; exact e
    · rw [upd_ne hb] at e ⊢; exact h.ex b u e
  · rw [upd_ne (f.2 x hx)]; exact h.mu x hx
  · rw [upd_ne (f.2 x hx)]; exact h.dj x hx
/-- an object that nobody knows of is laid: nothing known changes -/
theorem Hv.junk (h : Hv G M H) (hp : H p = none) : Hv G M (upd H p o) := by
  have f := h.fr hp
  refine ⟨fun b u e => ?_, fun x hx => ?_, h.nd, h.dj⟩
  · rw [upd_ne (ne_of_none (h.ex b u e) hp)]; exact h.ex b u e
  · rw [upd_ne (f.2 x hx)]; exact h.mu x hx
theorem Hv.get (h : Hv G M H) (hn : M[n]? = some (p, o)) : H p = some o := h.mu _ (List.mem_of_getElem? hn)
theorem map_set_fst : ∀ (M : Mem) (n : Nat) (p : Addr) (o o' : HO), M[n]? = some (p, o) → (M.set n (p, o')).map (·.1) = M.map (·.1)
  | [], _, _, _, _, h => by simp at h
  | x :: M, 0, p, o, o', h => by
    have e : x = (p, o) := by simpa using h
    subst e; rfl
  | x :: M, n + 1, p, o, o', h => by
    have e : M[n]? = some (p, o) := by simpa using h
    show x.1 :: (M.set n (p, o')).map (·.1) = _
    rw [map_set_fst M n p o o' e]; rfl
theorem nodup_at : ∀ (M : Mem) (n : Nat) (p : Addr) (o : HO) (x : Addr × HO) (m : Nat), (M.map (·.1)).Nodup → M[n]? = some (p, o) → M[m]? = some x → x.1 = p → m = n := by
  intro M n p o x m hd h1 h2 e
  have q1 : (M.map (·.1))[n]? = some p := by rw [List.getElem?_map, h1]; rfl
  have q2 : (M.map (·.1))[m]? = some p := by rw [List.getElem?_map, h2, ← e]; rfl
  obtain ⟨l1, e1⟩ := List.getElem?_eq_some_iff.mp q1
  obtain ⟨l2, e2⟩ := List.getElem?_eq_some_iff.mp q2
  exact (List.getElem_inj hd).mp (e2.trans e1.symm)
theorem Hv.set (h : Hv G M H) (hn : M[n]? = some (p, o)) : Hv G (M.set n (p, o')) (upd H p o') := by
  have hlt : n < M.length := (List.getElem?_eq_some_iff.mp hn).1
  refine ⟨fun b u e => ?_, fun x hx => ?_, ?_, fun x hx => ?_⟩
  · have : b ≠ p := fun z => by
      have q := h.dj _ (List.mem_of_getElem? hn)
      rw [z] at e
      rw [show G p = none from q] at e; cases e
    rw [upd_ne this]; exact h.ex b u e
  · obtain ⟨m, hm⟩ := List.getElem?_of_mem hx
    by_cases e : m = n
    · subst e
      rw [List.getElem?_set_self hlt] at hm
      cases hm
      exact upd_same
    · rw [List.getElem?_set_ne (Ne.symm e)] at hm
      have : x.1 ≠ p := fun z => e (nodup_at M n p o x m h.nd hn hm z)
      rw [upd_ne this]
      exact h.mu x (List.mem_of_getElem? hm)
  · rw [map_set_fst M n p o o' hn]; exact h.nd
  · have : x.1 ∈ M.map (·.1) := by
      rw [← map_set_fst M n p o o' hn]; exact List.mem_map.mpr ⟨x, hx, rfl⟩
    obtain ⟨y, hy, e⟩ := List.mem_map.mp this
    rw [← e]; exact h.dj y hy
/-- what is known may be forgotten, and what may be written may be frozen -/
def Wk (G : Hp) (M : Mem) (G' : Hp) (M' : Mem) : Prop := ∀ H, Hv G M H → Hv G' M' H
theorem Wk.refl : Wk G M G M := fun _ h => h
theorem Wk.trans {G1 G2 G3 : Hp} {M1 M2 M3 : Mem} (a : Wk G1 M1 G2 M2) (b : Wk G2 M2 G3 M3) : Wk G1 M1 G3 M3 := fun H h => b H (a H h)
theorem Wk.drop (M1 : Mem) {x : Addr × HO} {M2 : Mem} : Wk G (M1 ++ x :: M2) G (M1 ++ M2) := fun H h => by
  refine ⟨h.ex, fun y hy => h.mu y ?_, ?_, fun y hy => h.dj y ?_⟩
  · rcases List.mem_append.mp hy with q | q
    · exact List.mem_append.mpr (.inl q)
    · exact List.mem_append.mpr (.inr (List.mem_cons_of_mem _ q))
  · refine h.nd.sublist ?_
    simp
  · rcases List.mem_append.mp hy with q | q
    · exact List.mem_append.mpr (.inl q)
    · exact List.mem_append.mpr (.inr (List.mem_cons_of_mem _ q))
theorem Wk.drop0 {x : Addr × HO} : Wk G (x :: M) G M := Wk.drop []
theorem Wk.drop1 {x y : Addr × HO} : Wk G (y :: x :: M) G (y :: M) := Wk.drop [y]
theorem Wk.drop2 {x y z : Addr × HO} : Wk G (z :: y :: x :: M) G (z :: y :: M) := Wk.drop [z, y]
theorem Wk.frz (M1 : Mem) {M2 : Mem} : Wk G (M1 ++ (p, o) :: M2) (upd G p o) (M1 ++ M2) := fun H h => by
  have hp : H p = some o := h.mu (p, o) (by simp)
  have hg : G p = none := h.dj (p, o) (by simp)
  have h2 := Wk.drop (G := G) M1 (x := (p, o)) (M2 := M2) H h
  refine ⟨fun b u e => ?_, h2.mu, h2.nd, fun x hx => ?_⟩
  · by_cases hb : b = p
    · subst hb; rw [upd_same] at e; cases e; exact hp
    · rw [upd_ne hb] at e; exact h.ex b u e
  · have : x.1 ≠ p := fun z => by
      have nd := h.nd
      rw [List.map_append, List.map_cons, List.nodup_append] at nd
      obtain ⟨n1, n2, n3⟩ := nd
      rcases List.mem_append.mp hx with q | q
      · exact n3 x.1 (List.mem_map.mpr ⟨x, q, rfl⟩) p (by simp) z
      · rw [List.nodup_cons] at n2
        exact n2.1 (by rw [← z]; exact List.mem_map.mpr ⟨x, q, rfl⟩)
    rw [upd_ne this]; exact h2.dj x hx
theorem Wk.frz0 : Wk G ((p, o) :: M) (upd G p o) M := Wk.frz []
theorem Wk.frz1 {y : Addr × HO} : Wk G (y :: (p, o) :: M) (upd G p o) (y :: M) := Wk.frz [y]
theorem Wk.perm {M' : Mem} (e : M'.Perm M) : Wk G M G M' := fun H h =>
  ⟨h.ex, fun x hx => h.mu x (e.mem_iff.mp hx), (e.map _).nodup_iff.mpr h.nd, fun x hx => h.dj x (e.mem_iff.mp hx)⟩
theorem Wk.swap {x y : Addr × HO} : Wk G (x :: y :: M) G (y :: x :: M) := Wk.perm (List.Perm.swap x y M)
/-- less of the frozen part -/
theorem Wk.less {G' : Hp} (e : ∀ a o, G' a = some o → G a = some o) : Wk G M G' M := fun H h =>
  ⟨fun a o q => h.ex a o (e a o q), h.mu, h.nd, fun x hx => by
    cases q : G' x.1 with
    | none => rfl
    | some o => have := h.dj x hx; rw [e _ _ q] at this; cases this⟩
end

/-! ### extension of the frozen part -/
def Ex (G G' : Hp) : Prop := ∀ a o, G a = some o → G' a = some o
theorem Ex.refl {G : Hp} : Ex G G := fun _ _ h => h
theorem Ex.trans {G G1 G2 : Hp} (a : Ex G G1) (b : Ex G1 G2) : Ex G G2 := fun x o h => b x o (a x o h)
theorem Ex.new {G : Hp} {M : Mem} {p : Addr} {o : HO} (h : Fr G M p) : Ex G (upd G p o) := fun a u e => by
  rw [upd_ne (ne_of_none e h.1)]; exact e
theorem Ex.new' {G : Hp} {p : Addr} {o : HO} (h : G p = none) : Ex G (upd G p o) := fun a u e => by
  rw [upd_ne (ne_of_none e h)]; exact e
theorem ex_rd {H H' : Hp} {a : Addr} {u : HO} (e : Ex H H') (h : Rd H a u) : Rd H' a u := by
  rcases h with h | ⟨o, h⟩
  · exact .inl (e a _ h)
  · exact .inr ⟨o, e a _ h⟩
theorem ex_l {K : PySem.W.Frag} {H H' : Hp} {a : Addr} {xs : List V} (e : Ex H H') (h : SqL K H a xs) : SqL K H' a xs := by
  rcases h with h | h
  · exact .inl (ex_rd e h)
  · exact .inr h
theorem ex_t {K : PySem.W.Frag} {H H' : Hp} {a : Addr} {xs : List V} (e : Ex H H') (h : SqT K H a xs) : SqT K H' a xs := by
  rcases h with h | h
  · exact .inl (ex_rd e h)
  · exact .inr h
mutual
theorem ex_d {K : PySem.W.Frag} {H H' : Hp} (e : Ex H H') : ∀ (d : PyData) {v : V}, Dp K H v d → Dp K H' v d
  | _, _, .non => .non
  | _, _, .bl b => .bl b
  | _, _, .int b => .int b
  | _, _, .str b => .str b
  | .list ds, _, .lst s a => .lst (ex_l e s) (ex_ds e ds a)
  | .tuple ds, _, .tup s a => .tup (ex_t e s) (ex_ds e ds a)
theorem ex_ds {K : PySem.W.Frag} {H H' : Hp} (e : Ex H H') : ∀ (ds : List PyData) {vs : List V}, DpAll K H vs ds → DpAll K H' vs ds
  | _, _, .nil => .nil
  | d :: ds, _, .cons a b => .cons (ex_d e d a) (ex_ds e ds b)
end
/-- a list, a tuple that can be read -/
def LstAt (K : PySem.W.Frag) (G : Hp) (M : Mem) (a : Addr) (xs : List V) : Prop := (a, HO.lst xs) ∈ M ∨ SqL K G a xs
def TupAt (K : PySem.W.Frag) (G : Hp) (M : Mem) (a : Addr) (xs : List V) : Prop := SqT K G a xs
def SeqAt' (K : PySem.W.Frag) (G : Hp) (M : Mem) (a : Addr) (xs : List V) : Prop := LstAt K G M a xs ∨ SqT K G a xs
/-- data that can be read -/
def DatAt (K : PySem.W.Frag) (G : Hp) (M : Mem) (v : V) (d : PyData) : Prop := ∀ H, Hv G M H → Dp K H v d
section
variable {K : PySem.W.Frag} {G : Hp} {M : Mem} {H : Hp} {a : Addr} {xs : List V}
theorem Hv.exx (h : Hv G M H) : Ex G H := h.ex
theorem Hv.lst (h : Hv G M H) (q : LstAt K G M a xs) : SqL K H a xs := by
  rcases q with q | q
  · exact .inl (.inl (h.mu _ q))
  · exact ex_l h.exx q
theorem Hv.tup (h : Hv G M H) (q : SqT K G a xs) : SqT K H a xs := ex_t h.exx q
theorem Hv.dat (h : Hv G M H) {v : V} {d : PyData} (q : DatAt K G M v d) : Dp K H v d := q H h
end

/-! ### judgements -/
abbrev KR := V → Hp → Mem → Prop
abbrev KX := Value → Option Addr → Hp → Mem → Prop
abbrev KK (α : Type) := St → Hp → Mem → (α → Hp → Mem → Prop) → KX → Prop
abbrev KE := KK V
abbrev KA := KK (List V)
abbrev KT := KK Bool
def upG {α : Type} (W : WX) (t : KK α) : St → Hp → (α → Hp → Prop) → Prop := fun σ H Q =>
  ∃ G M R E, Hv G M H ∧ t σ G M R E ∧ (∀ v G' M' H', Hv G' M' H' → R v G' M' → Q v H') ∧ (∀ c d G' M' H', Hv G' M' H' → E c d G' M' → W c d σ H')
def JE (X : Cx) (W : WX) (e : Expr) (t : KE) : Prop := PE X e (upG W t)
def JT (X : Cx) (W : WX) (e : Expr) (t : KT) : Prop := PT X e (upG W t)
def JW (X : Cx) (W : WX) (e : Expr) (t : KT) : Prop := PW X e (upG W t)
def JA (X : Cx) (W : WX) (es : List Expr) (t : KA) : Prop := PA X es (upG W t)
theorem pe_mono {X : Cx} {e : Expr} {t t' : TE} (h : PE X e t) (i : ∀ σ H Q, t' σ H Q → t σ H Q) : PE X e t' := ⟨fun pins s σ H Q I q => h.run pins s σ H Q I (i σ H Q q)⟩
theorem pt_mono {X : Cx} {e : Expr} {t t' : TT} (h : PT X e t) (i : ∀ σ H Q, t' σ H Q → t σ H Q) : PT X e t' := ⟨fun pins s σ H Q I q => h.run pins s σ H Q I (i σ H Q q)⟩
theorem pw_mono {X : Cx} {e : Expr} {t t' : TT} (h : PW X e t) (i : ∀ σ H Q, t' σ H Q → t σ H Q) : PW X e t' := ⟨fun wh pins s σ H Q I q => h.run wh pins s σ H Q I (i σ H Q q)⟩
theorem pa_mono {X : Cx} {e : List Expr} {t t' : TA} (h : PA X e t) (i : ∀ σ H Q, t' σ H Q → t σ H Q) : PA X e t' := ⟨fun pos pins s σ H Q I q => h.run pos pins s σ H Q I (i σ H Q q)⟩

section
variable {X : Cx} {W : WX} {pos : Pos}
/-- names, constants -/
def kVar (i : Nat) : KE := fun σ G M R _ => match σ[i]? with
  | some (some v) => R v G M
  | _ => False
def kC (v : V) : KE := fun _ G M R _ => R v G M
theorem je_var (i : Nat) {x : Str} (hN : X.N[i]? = some x := by rfl) (hv : Vis X.env.scope x := by first | exact Or.inl rfl | exact Or.inr (Or.inl rfl) | exact Or.inr (Or.inr rfl)) (hd : (x == ("__debug__" : Str)) = false := by decide)
    (hcd : (x == ("__classdict__" : Str)) = false := by decide) : JE X W (.Name x pos) (kVar i) := pe_mono (pe_var hN hv hd hcd) fun σ H Q ⟨G, M, R, E, hv, h, hR, _⟩ => by
  unfold kVar at h
  split at h
  · rename_i v e
    exact ⟨v, e, hR v G M H hv h⟩
  · exact h.elim
theorem je_c {e : Expr} {v : V} (h : PE X e (tC v)) : JE X W e (kC v) := pe_mono h fun σ H Q ⟨G, M, R, E, hv, h, hR, _⟩ => hR v G M H hv h
theorem je_int {i : Int} {j pos} : JE X W (.Constant (.int i) j pos) (kC (.int i)) := je_c pe_int
theorem je_bl {i : Bool} {j pos} : JE X W (.Constant (.bool i) j pos) (kC (.bl i)) := je_c pe_bl
theorem je_non {j pos} : JE X W (.Constant .none j pos) (kC .non) := je_c pe_non
theorem je_str {i : Str} {j pos} : JE X W (.Constant (.str i) j pos) (kC (.str i)) := je_c pe_str
/-- two in a row -/
def kBin {β : Type} (k : V → V → Hp → Mem → (β → Hp → Mem → Prop) → Prop) (ta tb : KE) : KK β := fun σ G M R E => ta σ G M (fun x G M => tb σ G M (fun y G M => k x y G M R) E) E
abbrev KR2 := V → V → Hp → Mem → KR → Prop
def KOp (X : Cx) (f : Value → Value → Sem Value) (k : KR2) : Prop :=
  ∀ (pins : List (Addr × Obj)) (s : Shared) (σ : St) (H : Hp) (x y : V) (v u : Value) (Q : VK) (G : Hp) (M : Mem) (R : KR), Inv X pins σ H s → RelV x v → RelV y u → Hv G M H → k x y G M R →
    (∀ v G' M' H', Hv G' M' H' → R v G' M' → Q v H') → wpAny (model X.prog X.w) X.A (f v u) (EP X pins σ Q) X.xe s
theorem kop_of {f : Value → Value → Sem Value} {r : R2} {k : KR2} (ho : OpR X f r)
    (s : ∀ x y G M R H Q, Hv G M H → k x y G M R → (∀ v G' M' H', Hv G' M' H' → R v G' M' → Q v H') → r x y H Q) : KOp X f k :=
  fun pins st σ H x y v u Q G M R I rx ry hv h hR => ho pins st σ H x y v u Q I rx ry (s x y G M R H Q hv h hR)
/-- an OpR whose reading is: it holds of k in some knowledge -/
def rUp (k : KR2) : R2 := fun x y H Q => ∃ G M R, Hv G M H ∧ k x y G M R ∧ ∀ v G' M' H', Hv G' M' H' → R v G' M' → Q v H'
theorem KOp.opr {f : Value → Value → Sem Value} {k : KR2} (h : KOp X f k) : OpR X f (rUp k) := fun pins s σ H x y v u Q I rx ry ⟨G, M, R, hv, hk, hR⟩ => h pins s σ H x y v u Q G M R I rx ry hv hk hR
theorem bin_sim {ta tb : KE} {k : KR2} {σ : St} {H : Hp} {Q : VK} (h : upG W (kBin k ta tb) σ H Q) : tOp (rUp k) (upG W ta) (upG W tb) σ H Q := by
  obtain ⟨G, M, R, E, hv, h, hR, hE⟩ := h
  exact ⟨G, M, _, E, hv, h, fun x G1 M1 H1 hv1 h1 => ⟨G1, M1, _, E, hv1, h1, fun y G2 M2 H2 hv2 h2 => ⟨G2, M2, R, hv2, h2, hR⟩, hE⟩, hE⟩
theorem je_op {a b : Expr} {op : Operator} {k : KR2} {ta tb : KE} (ho : KOp X (binaryOp op) k) (ha : JE X W a ta) (hb : JE X W b tb) : JE X W (.BinOp a op b pos) (kBin k ta tb) :=
  pe_mono (pe_op ho.opr ha hb) fun _ _ _ h => bin_sim h
theorem je_cmp {a b : Expr} {op : CmpOp} {k : KR2} {ta tb : KE} (ho : KOp X (compareOp op) k) (ha : JE X W a ta) (hb : JE X W b tb) (hm : behindInMarks op b = false) : JE X W (.Compare a [op] [b] pos) (kBin k ta tb) :=
  pe_mono (pe_cmpR ho.opr ha hb hm) fun _ _ _ h => bin_sim h
/-- a value as a test -/
def asB (R : Bool → Hp → Mem → Prop) : KR := fun v G M => match v with
  | .bl b => R b G M
  | _ => False
def kT (t : KE) : KT := fun σ G M R E => t σ G M (asB R) E
theorem asB_of {R : Bool → Hp → Mem → Prop} {v : V} {G : Hp} {M : Mem} (h : asB R v G M) : ∃ c, v = .bl c ∧ R c G M := by
  cases v <;> first | exact ⟨_, rfl, h⟩ | exact h.elim
theorem t_sim {t : KE} {σ : St} {H : Hp} {Q : Bool → Hp → Prop} (h : upG W (kT t) σ H Q) : tTest (upG W t) σ H Q := by
  obtain ⟨G, M, R, E, hv, h, hR, hE⟩ := h
  refine ⟨G, M, _, E, hv, h, fun v G1 M1 H1 hv1 h1 => ?_, hE⟩
  obtain ⟨c, rfl, h2⟩ := asB_of h1
  exact ⟨c, rfl, hR c G1 M1 H1 hv1 h2⟩
theorem jt_cmp {a b : Expr} {op : CmpOp} {k : KR2} {ta tb : KE} (ho : KOp X (compareOp op) k) (ha : JE X W a ta) (hb : JE X W b tb) (hm : behindInMarks op b = false) : JT X W (.Compare a [op] [b] pos) (kT (kBin k ta tb)) :=
  pt_mono (pt_cmpR ho.opr ha hb hm) fun σ H Q h => by
    have h2 := t_sim h
    exact bin_sim h2
theorem jt_val {e : Expr} {t : KE} (h : JE X W e t) (he : ∀ whole, isTrue e X.env whole = (do let v ← whole; standAt e.pos; holding [v] (truthy v)) := by intro _; rfl) : JT X W e (kT t) :=
  pt_mono (pt_val h he) fun σ H Q h => t_sim h
/-- chains -/
def kChain (k k' : KR2) (ta tb tc : KE) : KE := fun σ G M R E => ta σ G M (fun x G M => tb σ G M (fun y G M => k x y G M (asB fun c G M => if c = true then tc σ G M (fun z G M => k' y z G M R) E else R (.bl false) G M)) E) E
theorem chain_sim {ta tb tc : KE} {k k' : KR2} {σ : St} {H : Hp} {Q : VK} (h : upG W (kChain k k' ta tb tc) σ H Q) : tChain (rUp k) (rUp k') (upG W ta) (upG W tb) (upG W tc) σ H Q := by
  obtain ⟨G, M, R, E, hv, h, hR, hE⟩ := h
  refine ⟨G, M, _, E, hv, h, fun x G1 M1 H1 hv1 h1 => ⟨G1, M1, _, E, hv1, h1, fun y G2 M2 H2 hv2 h2 => ⟨G2, M2, _, hv2, h2, fun v G3 M3 H3 hv3 h3 => ?_⟩, hE⟩, hE⟩
  obtain ⟨c, rfl, h4⟩ := asB_of h3
  refine ⟨c, rfl, ?_⟩
  cases c with
  | true =>
    rw [if_pos rfl] at h4 ⊢
    exact ⟨G3, M3, _, E, hv3, h4, fun z G4 M4 H4 hv4 h5 => ⟨G4, M4, R, hv4, h5, hR⟩, hE⟩
  | false =>
    rw [if_neg Bool.false_ne_true] at h4 ⊢
    exact hR _ G3 M3 H3 hv3 h4
theorem je_chain {a b c : Expr} {op op' : CmpOp} {k k' : KR2} {ta tb tc : KE} (ho : KOp X (compareOp op) k) (ho' : KOp X (compareOp op') k') (ha : JE X W a ta) (hb : JE X W b tb) (hc : JE X W c tc)
    (hm : lastMarks [op, op'] [b, c] = false := by with_unfolding_all rfl) : JE X W (.Compare a [op, op'] [b, c] pos) (kChain k k' ta tb tc) := pe_mono (pe_chain ho.opr ho'.opr ha hb hc hm) fun _ _ _ h => chain_sim h
theorem jt_chain {a b c : Expr} {op op' : CmpOp} {k k' : KR2} {ta tb tc : KE} (ho : KOp X (compareOp op) k) (ho' : KOp X (compareOp op') k') (ha : JE X W a ta) (hb : JE X W b tb) (hc : JE X W c tc)
    (hm : lastMarks [op, op'] [b, c] = false := by with_unfolding_all rfl) : JT X W (.Compare a [op, op'] [b, c] pos) (kT (kChain k k' ta tb tc)) := pt_mono (pt_chain ho.opr ho'.opr ha hb hc hm) fun _ _ _ h => chain_sim (t_sim h)
/-- and, or, not -/
def kAnd (t u : KT) : KT := fun σ G M R E => t σ G M (fun c G M => if c = true then u σ G M R E else R false G M) E
def kOr (t u : KT) : KT := fun σ G M R E => t σ G M (fun c G M => if c = true then R true G M else u σ G M R E) E
def kNot (t : KT) : KT := fun σ G M R E => t σ G M (fun c G M => R (!c) G M) E
def kAndV (t u : KE) : KE := fun σ G M R E => t σ G M (asB fun c G M => if c = true then u σ G M R E else R (.bl false) G M) E
def kOrV (t u : KE) : KE := fun σ G M R E => t σ G M (asB fun c G M => if c = true then R (.bl true) G M else u σ G M R E) E
def kNotV (t : KE) : KE := fun σ G M R E => t σ G M (asB fun c G M => R (.bl (!c)) G M) E
variable {a b : Expr} {rest : List Expr}
theorem jw_and1 {t : KT} (h : JT X W a t) : JW X W (.BoolOp .And [a] pos) t := pw_and1 h
theorem jw_or1 {t : KT} (h : JT X W a t) : JW X W (.BoolOp .Or [a] pos) t := pw_or1 h
theorem jw_and {t u : KT} (ha : JT X W a t) (hb : JW X W (.BoolOp .And (b :: rest) pos) u) : JW X W (.BoolOp .And (a :: b :: rest) pos) (kAnd t u) :=
  pw_mono (pw_and ha hb) fun σ H Q ⟨G, M, R, E, hv, h, hR, hE⟩ => ⟨G, M, _, E, hv, h, fun c G1 M1 H1 hv1 h1 => by
    cases c with
    | true => rw [if_pos rfl] at h1 ⊢; exact ⟨G1, M1, R, E, hv1, h1, hR, hE⟩
    | false => rw [if_neg Bool.false_ne_true] at h1 ⊢; exact hR _ G1 M1 H1 hv1 h1, hE⟩
theorem jw_or {t u : KT} (ha : JT X W a t) (hb : JW X W (.BoolOp .Or (b :: rest) pos) u) : JW X W (.BoolOp .Or (a :: b :: rest) pos) (kOr t u) :=
  pw_mono (pw_or ha hb) fun σ H Q ⟨G, M, R, E, hv, h, hR, hE⟩ => ⟨G, M, _, E, hv, h, fun c G1 M1 H1 hv1 h1 => by
    cases c with
    | true => rw [if_pos rfl] at h1 ⊢; exact hR _ G1 M1 H1 hv1 h1
    | false => rw [if_neg Bool.false_ne_true] at h1 ⊢; exact ⟨G1, M1, R, E, hv1, h1, hR, hE⟩, hE⟩
theorem JW.jt {e : Expr} {t : KT} (h : JW X W e t) : JT X W e t := PW.pt h
theorem jt_not {t : KT} (h : JT X W a t) : JT X W (.UnaryOp .Not a pos) (kNot t) :=
  pt_mono (pt_not h) fun σ H Q ⟨G, M, R, E, hv, h, hR, hE⟩ => ⟨G, M, _, E, hv, h, fun c G1 M1 H1 hv1 h1 => hR _ G1 M1 H1 hv1 h1, hE⟩
theorem je_one {op} {t : KE} (h : JE X W a t) : JE X W (.BoolOp op [a] pos) t := pe_one h
theorem je_and {t u : KE} (ha : JE X W a t) (hb : JE X W (.BoolOp .And (b :: rest) pos) u) : JE X W (.BoolOp .And (a :: b :: rest) pos) (kAndV t u) :=
  pe_mono (pe_and ha hb) fun σ H Q ⟨G, M, R, E, hv, h, hR, hE⟩ => ⟨G, M, _, E, hv, h, fun v G1 M1 H1 hv1 h1 => by
    obtain ⟨c, rfl, h2⟩ := asB_of h1
    refine ⟨c, rfl, ?_⟩
    cases c with
    | true => rw [if_pos rfl] at h2 ⊢; exact ⟨G1, M1, R, E, hv1, h2, hR, hE⟩
    | false => rw [if_neg Bool.false_ne_true] at h2 ⊢; exact hR _ G1 M1 H1 hv1 h2, hE⟩
theorem je_or {t u : KE} (ha : JE X W a t) (hb : JE X W (.BoolOp .Or (b :: rest) pos) u) : JE X W (.BoolOp .Or (a :: b :: rest) pos) (kOrV t u) :=
  pe_mono (pe_or ha hb) fun σ H Q ⟨G, M, R, E, hv, h, hR, hE⟩ => ⟨G, M, _, E, hv, h, fun v G1 M1 H1 hv1 h1 => by
    obtain ⟨c, rfl, h2⟩ := asB_of h1
    refine ⟨c, rfl, ?_⟩
    cases c with
    | true => rw [if_pos rfl] at h2 ⊢; exact hR _ G1 M1 H1 hv1 h2
    | false => rw [if_neg Bool.false_ne_true] at h2 ⊢; exact ⟨G1, M1, R, E, hv1, h2, hR, hE⟩, hE⟩
theorem je_not {t : KE} (h : JE X W a t) : JE X W (.UnaryOp .Not a pos) (kNotV t) :=
  pe_mono (pe_not h) fun σ H Q ⟨G, M, R, E, hv, h, hR, hE⟩ => ⟨G, M, _, E, hv, h, fun v G1 M1 H1 hv1 h1 => by
    obtain ⟨c, rfl, h2⟩ := asB_of h1
    exact ⟨c, rfl, hR _ G1 M1 H1 hv1 h2⟩, hE⟩
/-- a if c else b -/
def kIte (t : KT) (ta tb : KE) : KE := fun σ G M R E => t σ G M (fun c G M => if c = true then ta σ G M R E else tb σ G M R E) E
end
end BT
set_option Elab.async false
set_option linter.all false
set_option maxRecDepth 100000
set_option maxHeartbeats 4000000
namespace BT
open PySem PySem.Spec L2
open PyProof.Rows hiding St
section
variable {X : Cx} {W : WX} {pos : Pos} {a b c e : Expr} {es : List Expr}
theorem je_ite {t : KT} {ta tb : KE} (hc : JT X W c t) (ha : JE X W a ta) (hb : JE X W b tb) : JE X W (.IfExp c a b pos) (kIte t ta tb) :=
  pe_mono (pe_ifExp hc ha hb) fun σ H Q ⟨G, M, R, E, hv, h, hR, hE⟩ => ⟨G, M, _, E, hv, h, fun c G1 M1 H1 hv1 h1 => by
    cases c with
    | true => rw [if_pos rfl] at h1 ⊢; exact ⟨G1, M1, R, E, hv1, h1, hR, hE⟩
    | false => rw [if_neg Bool.false_ne_true] at h1 ⊢; exact ⟨G1, M1, R, E, hv1, h1, hR, hE⟩, hE⟩
/-! ### arguments, displays -/
def kNil : KA := fun _ G M R _ => R [] G M
def kCons (t : KE) (u : KA) : KA := fun σ G M R E => t σ G M (fun x G M => u σ G M (fun xs G M => R (x :: xs) G M) E) E
theorem ja_nil : JA X W [] kNil := pa_mono pa_nil fun σ H Q ⟨G, M, R, E, hv, h, hR, _⟩ => hR _ G M H hv h
theorem ja_cons {t : KE} {u : KA} (ha : JE X W e t) (hr : JA X W es u) (hs : starEach (e :: es) X.env = (false, eval e X.env) :: starEach es X.env := by rfl) : JA X W (e :: es) (kCons t u) :=
  pa_mono (pa_cons ha hr hs) fun σ H Q ⟨G, M, R, E, hv, h, hR, hE⟩ => ⟨G, M, _, E, hv, h, fun x G1 M1 H1 hv1 h1 => ⟨G1, M1, _, E, hv1, h1, fun xs G2 M2 H2 hv2 h2 => hR _ G2 M2 H2 hv2 h2, hE⟩, hE⟩
def kLst (t : KA) : KE := fun σ G M R E => t σ G M (fun xs G M => xs.length ≤ sizeLine ∧ ∀ p, Fr G M p → R (.ref p) G ((p, .lst xs) :: M)) E
def kTup (t : KA) : KE := fun σ G M R E => t σ G M (fun xs G M => xs.length ≤ sizeLine ∧ ∀ p, Fr G M p → R (.ref p) (upd G p (.tup xs)) M) E
theorem je_lst {t : KA} (h : JA X W es t) : JE X W (.List es pos) (kLst t) :=
  pe_mono (pe_lst h) fun σ H Q ⟨G, M, R, E, hv, h, hR, hE⟩ => ⟨G, M, _, E, hv, h, fun xs G1 M1 H1 hv1 h1 => ⟨h1.1, fun p hp => hR _ G1 _ _ (hv1.newM hp) (h1.2 p (hv1.fr hp))⟩, hE⟩
theorem je_tup {t : KA} {k : Nat} (h : JA X W es t) : JE X W (.Tuple es k pos) (kTup t) :=
  pe_mono (pe_tup h) fun σ H Q ⟨G, M, R, E, hv, h, hR, hE⟩ => ⟨G, M, _, E, hv, h, fun xs G1 M1 H1 hv1 h1 => ⟨h1.1, fun p hp => hR _ _ M1 _ (hv1.newG hp) (h1.2 p (hv1.fr hp))⟩, hE⟩
/-! ### operators -/
def kAdd : KR2 := fun x y G M R => match x, y with
  | .int i, .int j => R (.int (i + j)) G M
  | .str i, .str j => i.length + j.length ≤ sizeLine ∧ R (.str (i ++ j)) G M
  | .ref a, .ref b => ∃ xs ys, At G M a (.lst xs) ∧ At G M b (.lst ys) ∧ xs.length + ys.length ≤ sizeLine ∧ ∀ p, Fr G M p → R (.ref p) G ((p, .lst (xs ++ ys)) :: M)
  | _, _ => False
theorem kop_add : KOp X (binaryOp .Add) kAdd := fun pins s σ H x y v u Q G M R I rx ry hv h hR => by
  cases x <;> cases y <;> first
    | exact op_add pins s σ H _ _ v u Q I rx ry ⟨_, _, rfl, rfl, hR _ G M H hv h⟩
    | exact op_add_str pins s σ H _ _ v u Q I rx ry ⟨_, _, rfl, rfl, h.1, hR _ G M H hv h.2⟩
    | (obtain ⟨xs, ys, h1, h2, h3, h4⟩ := h
       exact op_cat pins s σ H _ _ v u Q I rx ry ⟨_, _, xs, ys, rfl, rfl, hv.at h1, hv.at h2, h3, fun p hp => hR _ G _ _ (hv.newM hp) (h4 p (hv.fr hp))⟩)
    | exact h.elim
def kI (C : Int → Int → Prop) (g : Int → Int → V) : KR2 := fun x y G M R => match x, y with
  | .int i, .int j => C i j ∧ R (g i j) G M
  | _, _ => False
def kI0 (g : Int → Int → V) : KR2 := fun x y G M R => match x, y with
  | .int i, .int j => R (g i j) G M
  | _, _ => False
theorem kop_I {f : Value → Value → Sem Value} {C : Int → Int → Prop} {g : Int → Int → V} (h : OpR X f (rI C g)) : KOp X f (kI C g) := kop_of h fun x y G M R H Q hv h hR => by
  cases x <;> cases y <;> first
    | exact ⟨_, _, rfl, rfl, h.1, hR _ G M H hv h.2⟩
    | exact h.elim
theorem kop_I0 {f : Value → Value → Sem Value} {g : Int → Int → V} (h : OpR X f (rI0 g)) : KOp X f (kI0 g) := kop_of h fun x y G M R H Q hv h hR => by
  cases x <;> cases y <;> first
    | exact ⟨_, _, rfl, rfl, hR _ G M H hv h⟩
    | exact h.elim
/-- sizes of products, quotients -/
def MulOk (i j : Int) : Prop := CMul i j ∨ CMulW i j
theorem kop_sub : KOp X (binaryOp .Sub) (kI0 fun i j => .int (i - j)) := kop_I0 op_sub
/-- a product of ints, a list repeated -/
def kMul : KR2 := fun x y G M R => match x, y with
  | .int i, .int j => MulOk i j ∧ R (.int (i * j)) G M
  | .ref a, .int k => ∃ xs, At G M a (.lst xs) ∧ -(2 ^ 63) ≤ k ∧ k < 2 ^ 63 ∧ xs.length * k.toNat ≤ sizeLine ∧ ∀ p, Fr G M p → R (.ref p) G ((p, .lst (List.replicate k.toNat xs).flatten) :: M)
  | _, _ => False
theorem kop_mul : KOp X (binaryOp .Mult) kMul := fun pins s σ H x y v u Q G M R I rx ry hv h hR => by
  cases x <;> cases y <;> first
    | (obtain ⟨hc, h⟩ := h
       rcases hc with hc | hc
       · exact op_mul pins s σ H _ _ v u Q I rx ry ⟨_, _, rfl, rfl, hc, hR _ G M H hv h⟩
       · exact op_mulW pins s σ H _ _ v u Q I rx ry ⟨_, _, rfl, rfl, hc, hR _ G M H hv h⟩)
    | (obtain ⟨xs, h1, h2, h3, h4, h5⟩ := h
       exact op_rep pins s σ H _ _ v u Q I rx ry ⟨_, _, xs, rfl, rfl, hv.at h1, h2, h3, h4, fun p hp => hR _ G _ _ (hv.newM hp) (h5 p (hv.fr hp))⟩)
    | exact h.elim
theorem kop_mod : KOp X (binaryOp .Mod) (kI (fun _ j => 0 < j) fun i j => .int (i % j)) := kop_I op_mod
theorem kop_fdiv : KOp X (binaryOp .FloorDiv) (kI CDivW fun i j => .int (i / j)) := kop_I op_fdivW
theorem kop_pow : KOp X (binaryOp .Pow) (kI CPow fun i j => .int (i ^ j.toNat)) := kop_I op_pow
theorem kop_shl : KOp X (binaryOp .LShift) (kI CPow fun i j => .int (i * 2 ^ j.toNat)) := kop_I op_shl
theorem kop_shr : KOp X (binaryOp .RShift) (kI (fun _ j => 0 ≤ j) fun i j => .int (i / 2 ^ j.toNat)) := kop_I op_shr
theorem kop_lt : KOp X (compareOp .Lt) (kI0 fun i j => .bl (decide (i < j))) := kop_I0 op_lt
theorem kop_le : KOp X (compareOp .LtE) (kI0 fun i j => .bl (decide (i ≤ j))) := kop_I0 op_le
theorem kop_gt : KOp X (compareOp .Gt) (kI0 fun i j => .bl (decide (j < i))) := kop_I0 op_gt
theorem kop_ge : KOp X (compareOp .GtE) (kI0 fun i j => .bl (decide (j ≤ i))) := kop_I0 op_ge
/-- equality: of plain values at once, of data by what they hold -/
def kEqv (neg : Bool) (K : PySem.W.Frag) : KR2 := fun x y G M R =>
  match scal x y with
  | true => R (.bl (if neg then !decide (x = y) else decide (x = y))) G M
  | false => ∃ d e, DatAt K G M x d ∧ DatAt K G M y e ∧ SeqAt.shaped d = true ∧ SeqAt.shaped e = true ∧ R (.bl (if neg then !PyData.eqv d e else PyData.eqv d e)) G M
theorem kop_eq (hu : X.A.units + 64 < cLine) : KOp X (compareOp .Eq) (kEqv false X.K) := fun pins s σ H x y v u Q G M R I rx ry hv h hR => by
  unfold kEqv at h
  split at h
  · rename_i e
    exact op_eq pins s σ H _ _ v u Q I rx ry ⟨e, hR _ G M H hv h⟩
  · obtain ⟨d, e, h1, h2, h3, h4, h5⟩ := h
    exact op_eqD hu pins s σ H _ _ v u Q I rx ry ⟨d, e, hv.dat h1, hv.dat h2, h3, h4, hR _ G M H hv h5⟩
theorem kop_ne (hu : X.A.units + 64 < cLine) : KOp X (compareOp .NotEq) (kEqv true X.K) := fun pins s σ H x y v u Q G M R I rx ry hv h hR => by
  unfold kEqv at h
  split at h
  · rename_i e
    exact op_ne pins s σ H _ _ v u Q I rx ry ⟨e, hR _ G M H hv h⟩
  · obtain ⟨d, e, h1, h2, h3, h4, h5⟩ := h
    exact op_neD hu pins s σ H _ _ v u Q I rx ry ⟨d, e, hv.dat h1, hv.dat h2, h3, h4, hR _ G M H hv h5⟩
def kIs (neg : Bool) : KR2 := fun x y G M R => match y with
  | .non => R (.bl (if neg then !decide (x = .non) else decide (x = .non))) G M
  | _ => False
theorem kop_is : KOp X (compareOp .Is) (kIs false) := kop_of op_isN fun x y G M R H Q hv h hR => by
  cases y <;> first
    | exact ⟨rfl, hR _ G M H hv h⟩
    | exact h.elim
theorem kop_isnot : KOp X (compareOp .IsNot) (kIs true) := kop_of op_notN fun x y G M R H Q hv h hR => by
  cases y <;> first
    | exact ⟨rfl, hR _ G M H hv h⟩
    | exact h.elim
def kUn (k : V → Hp → Mem → KR → Prop) (t : KE) : KE := fun σ G M R E => t σ G M (fun x G M => k x G M R) E
def kNeg : V → Hp → Mem → KR → Prop := fun x G M R => match x with
  | .int i => R (.int (-i)) G M
  | _ => False
theorem je_neg {t : KE} (h : JE X W a t) : JE X W (.UnaryOp .USub a pos) (kUn kNeg t) :=
  pe_mono (pe_un un_neg h) fun σ H Q ⟨G, M, R, E, hv, h, hR, hE⟩ => ⟨G, M, _, E, hv, h, fun x G1 M1 H1 hv1 h1 => by
    cases x <;> first
      | exact ⟨_, rfl, hR _ G1 M1 H1 hv1 h1⟩
      | exact h1.elim, hE⟩
/-! ### subscripts, slices -/
def kIx (K : PySem.W.Frag) : KR2 := fun x y G M R => match x, y with
  | .ref a, .int i => ∃ xs v, SeqAt' K G M a xs ∧ atI xs i = some v ∧ R v G M
  | .str z, .int i => ∃ c, z.length ≤ sizeLine ∧ atI z.cps.toList i = some c ∧ R (.str ⟨#[c]⟩) G M
  | _, _ => False
theorem ix_k : IxR X (rUp (kIx X.K)) := fun value slice pins s σ H x y v u Q I rx ry ⟨G, M, R, hv, h, hR⟩ hs => by
  cases x <;> cases y <;> first
    | (obtain ⟨xs, w, h1, h2, h3⟩ := h
       rcases h1 with h1 | h1
       · exact ix_list value slice pins s σ H _ _ v u Q I rx ry ⟨_, xs, _, w, rfl, rfl, hv.lst h1, h2, hR _ G M H hv h3⟩ hs
       · exact ix_tup value slice pins s σ H _ _ v u Q I rx ry ⟨_, xs, _, w, rfl, rfl, hv.tup h1, h2, hR _ G M H hv h3⟩ hs)
    | (obtain ⟨c, h1, h2, h3⟩ := h
       exact ix_str value slice pins s σ H _ _ v u Q I rx ry ⟨_, _, c, rfl, rfl, h1, h2, hR _ G M H hv h3⟩ hs)
    | exact h.elim
theorem je_ix {ta tb : KE} (ha : JE X W a ta) (hb : JE X W b tb) (hs : PlainIx b := by exact fun _ _ => rfl) : JE X W (.Subscript a b pos) (kBin (kIx X.K) ta tb) :=
  pe_mono (pe_ix ix_k ha hb hs) fun _ _ _ h => bin_sim h
abbrev KO := KK (Option Int)
def JO (X : Cx) (W : WX) (e : Option Expr) (t : KO) : Prop := PO X e (upG W t)
theorem po_mono {X : Cx} {e : Option Expr} {t t' : TO} (h : PO X e t) (i : ∀ σ H Q, t' σ H Q → t σ H Q) : PO X e t' := ⟨fun pins s σ H Q I q => h.run pins s σ H Q I (i σ H Q q)⟩
def kNoP : KO := fun _ G M R _ => R none G M
def asI (R : Option Int → Hp → Mem → Prop) : KR := fun v G M => match v with
  | .int i => R (some i) G M
  | _ => False
def kPart (t : KE) : KO := fun σ G M R E => t σ G M (asI R) E
theorem jo_none : JO X W none kNoP := po_mono po_none fun σ H Q ⟨G, M, R, E, hv, h, hR, _⟩ => hR _ G M H hv h
theorem jo_some {t : KE} (h : JE X W e t) : JO X W (some e) (kPart t) := po_mono (po_some h) fun σ H Q ⟨G, M, R, E, hv, h, hR, hE⟩ => ⟨G, M, _, E, hv, h, fun v G1 M1 H1 hv1 h1 => by
    cases v <;> first
      | exact ⟨_, rfl, hR _ G1 M1 H1 hv1 h1⟩
      | exact h1.elim, hE⟩
/-- xs[lo:hi] of a list -/
def kSl (K : PySem.W.Frag) (t : KE) (tl th : KO) : KE := fun σ G M R E => t σ G M (fun x G M => tl σ G M (fun l G M => th σ G M (fun u G M => match x with
  | .ref a => ∃ xs, LstAt K G M a xs ∧ ∀ p, Fr G M p → R (.ref p) G ((p, .lst (cutV xs l u)) :: M)
  | _ => False) E) E) E
theorem je_slice {t : KE} {lo hi : Option Expr} {tl th : KO} {p2 : Pos} (he : JE X W e t) (hl : JO X W lo tl) (hu : JO X W hi th) : JE X W (.Subscript e (.Slice lo hi none p2) pos) (kSl X.K t tl th) :=
  pe_mono (pe_slice sl_list he hl hu) fun σ H Q ⟨G, M, R, E, hv, h, hR, hE⟩ => ⟨G, M, _, E, hv, h, fun x G1 M1 H1 hv1 h1 => ⟨G1, M1, _, E, hv1, h1, fun l G2 M2 H2 hv2 h2 => ⟨G2, M2, _, E, hv2, h2, fun u G3 M3 H3 hv3 h3 => by
    cases x <;> first
      | (obtain ⟨xs, q1, q2⟩ := h3
         exact ⟨_, xs, rfl, hv3.lst q1, fun p hp => hR _ G3 _ _ (hv3.newM hp) (q2 p (hv3.fr hp))⟩)
      | exact h3.elim, hE⟩, hE⟩, hE⟩
/-! ### calls of built-ins -/
abbrev KC := List V → Hp → Mem → KR → Prop
def rUpC (k : KC) : List V → Hp → VK → Prop := fun vs H Q => ∃ G M R, Hv G M H ∧ k vs G M R ∧ ∀ v G' M' H', Hv G' M' H' → R v G' M' → Q v H'
def kCB (k : KC) (t : KA) : KE := fun σ G M R E => t σ G M (fun vs G M => k vs G M R) E
def KCall (X : Cx) (f : Value) (k : KC) : Prop := CallR X f (rUpC k)
theorem kcall_of {f : Value} {r : List V → Hp → VK → Prop} {k : KC} (h : CallR X f r)
    (s : ∀ vs G M R H Q, Hv G M H → k vs G M R → (∀ v G' M' H', Hv G' M' H' → R v G' M' → Q v H') → r vs H Q) : KCall X f k :=
  fun pins st σ H xs us Q I rv ⟨G, M, R, hv, hk, hR⟩ => h pins st σ H xs us Q I rv (s xs G M R H Q hv hk hR)
theorem cb_sim {t : KA} {k : KC} {σ : St} {H : Hp} {Q : VK} (h : upG W (kCB k t) σ H Q) : tCB (rUpC k) (upG W t) σ H Q := by
  obtain ⟨G, M, R, E, hv, h, hR, hE⟩ := h
  exact ⟨G, M, _, E, hv, h, fun vs G1 M1 H1 hv1 h1 => ⟨G1, M1, R, hv1, h1, hR⟩, hE⟩
variable {x : Str} {p : Pos} {id T : String}
theorem je_callB {k : KC} {t : KA} (hc : KCall X (.builtin id) k) (hm : X.mg x = none) (ha : JA X W (e :: es) t) (hv : bootBuiltins x = some (.builtin id) := by decide +kernel) (hg : Gl X x := by rfl) (hn : x ≠ "__name__" := by decide) (hdb : (x == ("__debug__" : Str)) = false := by decide)
    (he : starEach (e :: es) X.env = (false, eval e X.env) :: starEach es X.env := by rfl) (hpl : (backTo pos (starEach es X.env)).any (·.1) = false := by rfl) : JE X W (.Call (.Name x p) (e :: es) [] pos) (kCB k t) :=
  pe_mono (pe_callB hc hg hm hv ha hn hdb he hpl) fun _ _ _ h => cb_sim h
theorem je_callTy {k : KC} {t : KA} (hc : KCall X (.type T) k) (hm : X.mg x = none) (ha : JA X W (e :: es) t) (hv : bootBuiltins x = some (.type T) := by decide +kernel) (hg : Gl X x := by rfl) (hn : x ≠ "__name__" := by decide) (hdb : (x == ("__debug__" : Str)) = false := by decide)
    (he : starEach (e :: es) X.env = (false, eval e X.env) :: starEach es X.env := by rfl) (hpl : (backTo pos (starEach es X.env)).any (·.1) = false := by rfl) : JE X W (.Call (.Name x p) (e :: es) [] pos) (kCB k t) :=
  pe_mono (pe_callTy hc hg hm hv ha hn hdb he hpl) fun _ _ _ h => cb_sim h
/-- a built-in type's name as a value -/
theorem je_ty {T : String} {x : Str} {pos : Pos} (hm : X.mg x = none) (hv : bootBuiltins x = some (.type T) := by decide +kernel) (hg : Gl X x := by rfl) (hn : x ≠ "__name__" := by decide) (hd : (x == ("__debug__" : Str)) = false := by decide) : JE X W (.Name x pos) (kC (.ty T)) :=
  je_c (pe_bltn hg hm hv rfl hn hd)
/-- a module's constant -/
theorem je_glob {x : Str} {v : V} {u : Value} {pos : Pos} (hm : X.mg x = some u) (r : RelV v u) (hg : Gl X x := by rfl) (hd : (x == ("__debug__" : Str)) = false := by decide) : JE X W (.Name x pos) (kC v) := je_c (pe_glob hg hm r hd)
def kLen (K : PySem.W.Frag) : KC := fun vs G M R => match vs with
  | [.ref a] => ∃ xs, SeqAt' K G M a xs ∧ R (.int xs.length) G M
  | _ => False
theorem kc_len : KCall X (.builtin "len") (kLen X.K) := kcall_of call_len_seq fun vs G M R H Q hv h hR => by
  match vs, h with
  | [.ref a], ⟨xs, h1, h2⟩ => exact ⟨a, xs, rfl, h1.elim (fun q => .inl (hv.lst q)) (fun q => .inr (hv.tup q)), hR _ G M H hv h2⟩
def kList (K : PySem.W.Frag) : KC := fun vs G M R => match vs with
  | [.ref a] => ∃ xs, SeqAt' K G M a xs ∧ ∀ p, Fr G M p → R (.ref p) G ((p, .lst xs) :: M)
  | _ => False
theorem kc_list : KCall X (.type "list") (kList X.K) := kcall_of call_list_of fun vs G M R H Q hv h hR => by
  match vs, h with
  | [.ref a], ⟨xs, h1, h2⟩ => exact ⟨a, xs, rfl, h1.elim (fun q => .inl (hv.lst q)) (fun q => .inr (hv.tup q)), fun p hp => hR _ G _ _ (hv.newM hp) (h2 p (hv.fr hp))⟩
def kMin2 : KC := fun vs G M R => match vs with
  | [.int i, .int j] => R (.int (min i j)) G M
  | _ => False
def kMax2 : KC := fun vs G M R => match vs with
  | [.int i, .int j] => R (.int (max i j)) G M
  | _ => False
theorem kc_min2 (hc : X.calm = true := by rfl) : KCall X (.builtin "min") kMin2 := kcall_of (call_min2 hc) fun vs G M R H Q hv h hR => by
  match vs, h with
  | [.int i, .int j], h =>
    refine ⟨i, j, rfl, ?_⟩
    have e : (if j < i then j else i) = min i j := by split <;> omega
    rw [e]
    exact hR _ G M H hv h
theorem kc_max2 (hc : X.calm = true := by rfl) : KCall X (.builtin "max") kMax2 := kcall_of (call_max2 hc) fun vs G M R H Q hv h hR => by
  match vs, h with
  | [.int i, .int j], h =>
    refine ⟨i, j, rfl, ?_⟩
    have e : (if j > i then j else i) = max i j := by split <;> omega
    rw [e]
    exact hR _ G M H hv h
def kInt : KC := fun vs G M R => match vs with
  | [.int i] => R (.int i) G M
  | [.bl k] => R (.int (if k then 1 else 0)) G M
  | _ => False
theorem kc_int : KCall X (.type "int") kInt := kcall_of call_int1 fun vs G M R H Q hv h hR => by
  match vs, h with
  | [.int i], h => exact .inl ⟨i, rfl, hR _ G M H hv h⟩
  | [.bl i], h => exact .inr ⟨i, rfl, hR _ G M H hv h⟩
/-- min(xs), max(xs) of ints -/
def kMinL (K : PySem.W.Frag) : KC := fun vs G M R => match vs with
  | [.ref a] => ∃ ns : List Int, LstAt K G M a (ns.map V.int) ∧ 0 < ns.length ∧ ∀ m, m ∈ ns → (∀ y, y ∈ ns → m ≤ y) → R (.int m) G M
  | _ => False
def kMaxL (K : PySem.W.Frag) : KC := fun vs G M R => match vs with
  | [.ref a] => ∃ ns : List Int, LstAt K G M a (ns.map V.int) ∧ 0 < ns.length ∧ ∀ m, m ∈ ns → (∀ y, y ∈ ns → y ≤ m) → R (.int m) G M
  | _ => False
theorem kc_minL (hc : X.calm = true := by rfl) : KCall X (.builtin "min") (kMinL X.K) := kcall_of (cr_min hc) fun vs G M R H Q hv h hR => by
  match vs, h with
  | [.ref a], ⟨ns, h1, h2, h3⟩ => exact ⟨a, ns, rfl, hv.lst h1, h2, fun m q1 q2 => hR _ G M H hv (h3 m q1 q2)⟩
theorem kc_maxL (hc : X.calm = true := by rfl) : KCall X (.builtin "max") (kMaxL X.K) := kcall_of (cr_max hc) fun vs G M R H Q hv h hR => by
  match vs, h with
  | [.ref a], ⟨ns, h1, h2, h3⟩ => exact ⟨a, ns, rfl, hv.lst h1, h2, fun m q1 q2 => hR _ G M H hv (h3 m q1 q2)⟩
def kAll (K : PySem.W.Frag) : KC := fun vs G M R => match vs with
  | [.ref a] => ∃ bs : List Bool, LstAt K G M a (bs.map V.bl) ∧ R (.bl (bs.all _root_.id)) G M
  | _ => False
theorem kc_all (hc : X.calm = true := by rfl) : KCall X (.builtin "all") (kAll X.K) := kcall_of (cr_all hc) fun vs G M R H Q hv h hR => by
  match vs, h with
  | [.ref a], ⟨ns, h1, h2⟩ => exact ⟨a, ns, rfl, hv.lst h1, hR _ G M H hv h2⟩
def kSum (K : PySem.W.Frag) : KC := fun vs G M R => match vs with
  | [.ref a] => ∃ ns : List Int, LstAt K G M a (ns.map V.int) ∧ R (.int ns.sum) G M
  | _ => False
theorem kc_sum (hc : X.calm = true := by rfl) : KCall X (.builtin "sum") (kSum X.K) := kcall_of (cr_sum hc) fun vs G M R H Q hv h hR => by
  match vs, h with
  | [.ref a], ⟨ns, h1, h2⟩ => exact ⟨a, ns, rfl, hv.lst h1, hR _ G M H hv h2⟩
/-- isinstance(x, c) -/
def kIsi (K : PySem.W.Frag) : KC := fun vs G M R => match vs with
  | [x, c] => ∃ (t u : Value) (b : Bool), ClsV c u ∧ (∀ H, Hv G M H → TyX K H x t) ∧ PySem.W.kitOne K t u = some b ∧ R (.bl b) G M
  | _ => False
theorem kc_isi : KCall X (.builtin "isinstance") (kIsi X.K) := kcall_of call_isi fun vs G M R H Q hv h hR => by
  match vs, h with
  | [x, c], ⟨t, u, b, h1, h2, h3, h4⟩ => exact ⟨x, c, t, u, b, rfl, h1, h2 H hv, h3, hR _ G M H hv h4⟩
/-! ### methods of built-in types -/
abbrev KM := V → List V → Hp → Mem → KR → Prop
def rUpM (k : KM) : V → List V → Hp → VK → Prop := fun x vs H Q => ∃ G M R, Hv G M H ∧ k x vs G M R ∧ ∀ v G' M' H', Hv G' M' H' → R v G' M' → Q v H'
def KMt (X : Cx) (id : String) (k : KM) : Prop := MtR X id (rUpM k)
theorem kmt_of {r : V → List V → Hp → VK → Prop} {k : KM} (h : MtR X id r)
    (s : ∀ x vs G M R H Q, Hv G M H → k x vs G M R → (∀ v G' M' H', Hv G' M' H' → R v G' M' → Q v H') → r x vs H Q) : KMt X id k :=
  fun pins st σ H x xs v us Q I rx rv ⟨G, M, R, hv, hk, hR⟩ => h pins st σ H x xs v us Q I rx rv (s x xs G M R H Q hv hk hR)
def kBM (K : PySem.W.Frag) (T : String) (k : KM) (to : KE) (t : KA) : KE := fun σ G M R E => to σ G M (fun x G M => (∀ H, Hv G M H → tyV K T x H) ∧ t σ G M (fun vs G M => k x vs G M R) E) E
def kBM0 (K : PySem.W.Frag) (T : String) (k : KM) (to : KE) : KE := fun σ G M R E => to σ G M (fun x G M => (∀ H, Hv G M H → tyV K T x H) ∧ k x [] G M R) E
variable {o : Expr} {name : Str} {apos cpos : Pos}
theorem je_bm {k : KM} {to : KE} {t : KA} (pa : PlainAttrs T) (slot : Slot T name id) (hty : typeOf (.builtin id) = pure (.type "method_descriptor")) (hm : KMt X id k) (ho : JE X W o to) (ha : JA X W (e :: es) t)
    (hbase : attributeBase o name X.env (eval o X.env) = eval o X.env := by rfl)
    (hfew : ((backTo cpos (starEach (e :: es) X.env)).all (fun x => !x.1) && (backToKw cpos (keywordEach [] X.env)).all (fun x => x.1.isSome)
      && decide ((e :: es).length + ([] : List Keyword).length + (if ([] : List Keyword).isEmpty then 0 else 1) < 30)) = true := by rfl)
    (hline : (apos.endLine == cpos.line) = true := by rfl) (hs : starEach (e :: es) X.env = (false, eval e X.env) :: starEach es X.env := by rfl) (hplain : (backTo cpos (starEach es X.env)).any (·.1) = false := by rfl) :
    JE X W (.Call (.Attribute o name apos) (e :: es) [] cpos) (kBM X.K T k to t) :=
  pe_mono (pe_bm pa slot hty hm ho ha hbase hfew hline hs hplain) fun σ H Q ⟨G, M, R, E, hv, h, hR, hE⟩ => ⟨G, M, _, E, hv, h, fun x G1 M1 H1 hv1 h1 => ⟨h1.1 H1 hv1, G1, M1, _, E, hv1, h1.2, fun vs G2 M2 H2 hv2 h2 => ⟨G2, M2, R, hv2, h2, hR⟩, hE⟩, hE⟩
theorem je_bm0 {k : KM} {to : KE} (pa : PlainAttrs T) (slot : Slot T name id) (hty : typeOf (.builtin id) = pure (.type "method_descriptor")) (hm : KMt X id k) (ho : JE X W o to)
    (hbase : attributeBase o name X.env (eval o X.env) = eval o X.env := by rfl) (hline : (apos.endLine == cpos.line) = true := by rfl) : JE X W (.Call (.Attribute o name apos) [] [] cpos) (kBM0 X.K T k to) :=
  pe_mono (pe_bm0 pa slot hty hm ho hbase hline) fun σ H Q ⟨G, M, R, E, hv, h, hR, hE⟩ => ⟨G, M, _, E, hv, h, fun x G1 M1 H1 hv1 h1 => ⟨h1.1 H1 hv1, G1, M1, R, hv1, h1.2, hR⟩, hE⟩
def kAppend : KM := fun x vs G M R => match x, vs with
  | .ref a, [y] => ∃ n xs, M[n]? = some (a, .lst xs) ∧ xs.length < sizeLine ∧ R .non G (M.set n (a, .lst (xs ++ [y])))
  | _, _ => False
theorem km_append : KMt X "list.append" kAppend := kmt_of mt_append fun x vs G M R H Q hv h hR => by
  match x, vs, h with
  | .ref a, [y], ⟨n, xs, h1, h2, h3⟩ => exact ⟨a, xs, y, rfl, rfl, hv.get h1, h2, hR _ G _ _ (hv.set h1) h3⟩
def kExtend : KM := fun x vs G M R => match x, vs with
  | .ref a, [.ref b] => ∃ n xs ys, M[n]? = some (a, .lst xs) ∧ At G M b (.lst ys) ∧ xs.length + ys.length ≤ sizeLine ∧ R .non G (M.set n (a, .lst (xs ++ ys)))
  | _, _ => False
theorem km_extend : KMt X "list.extend" kExtend := kmt_of mt_extend fun x vs G M R H Q hv h hR => by
  match x, vs, h with
  | .ref a, [.ref b], ⟨n, xs, ys, h1, h2, h3, h4⟩ => exact ⟨a, b, xs, ys, rfl, rfl, hv.get h1, hv.at h2, h3, hR _ G _ _ (hv.set h1) h4⟩
def kReverse : KM := fun x vs G M R => match x, vs with
  | .ref a, [] => ∃ n xs, M[n]? = some (a, .lst xs) ∧ R .non G (M.set n (a, .lst xs.reverse))
  | _, _ => False
theorem km_reverse : KMt X "list.reverse" kReverse := kmt_of mt_reverse fun x vs G M R H Q hv h hR => by
  match x, vs, h with
  | .ref a, [], ⟨n, xs, h1, h3⟩ => exact ⟨a, xs, rfl, rfl, hv.get h1, hR _ G _ _ (hv.set h1) h3⟩
end
/-! ### defs -/
abbrev KSp := List V → Hp → Mem → KR → KX → Prop
def lift (S : KSp) : Sp := fun vs H Q E => ∃ G M R X, Hv G M H ∧ S vs G M R X ∧ (∀ v G' M' H', Hv G' M' H' → R v G' M' → Q v H') ∧ (∀ c d G' M' H', Hv G' M' H' → X c d G' M' → E c d H')
def kCall (S : KSp) (t : KA) : KE := fun σ G M R E => t σ G M (fun vs G M => S vs G M R E) E
section
variable {X : Cx} {W : WX} {pos p : Pos} {e : Expr} {es : List Expr} {x : Str} {k : Nat} {f : Addr} {fd : FuncData} {ps : List Str} {S : KSp} {t : KA}
theorem je_call (F : FnOk X.prog X.w X.K X.mg X.base (L2.CX X.prog X.w) k f fd ps (lift S)) (hr : Room k X.A) (tk : Takes X W) (hm : X.mg x = some (.ref f)) (hk : PySem.W.keepIn X.K (.ref f) = true) (hb : Binds X.K fd ps []) (ha : JA X W (e :: es) t) (hg : Gl X x := by rfl)
    (hdb : (x == ("__debug__" : Str)) = false := by decide) (he : starEach (e :: es) X.env = (false, eval e X.env) :: starEach es X.env := by rfl) (hpl : (backTo pos (starEach es X.env)).any (·.1) = false := by rfl) :
    JE X W (.Call (.Name x p) (e :: es) [] pos) (kCall S t) :=
  pe_mono (pe_callS F hr hg hm hk hb (passAt tk) ha hdb he hpl) fun σ H Q ⟨G, M, R, E, hv, h, hR, hE⟩ =>
    ⟨G, M, _, E, hv, h, fun vs G1 M1 H1 hv1 h1 => ⟨G1, M1, R, E, hv1, h1, hR, hE⟩, hE⟩
end
end BT
set_option Elab.async false
set_option linter.all false
set_option maxRecDepth 100000
set_option maxHeartbeats 4000000
namespace BT
open PySem PySem.Spec L2
open PyProof.Rows hiding St
/-! ### statements -/
structure Kd where
  nx : St → Hp → Mem → Prop
  rt : KR
  bk : St → Hp → Mem → Prop := fun _ _ _ => False
  ct : St → Hp → Mem → Prop := fun _ _ _ => False
  xc : Value → Option Addr → St → Hp → Mem → Prop := fun _ _ _ _ _ => False
abbrev KS := Kd → St → Hp → Mem → Prop
structure EndsTo (W : WX) (d : Kd) (D : Ends) : Prop where
  nx : ∀ σ G M H, Hv G M H → d.nx σ G M → D.nx σ H
  rt : ∀ v G M H, Hv G M H → d.rt v G M → D.rt v H
  bk : ∀ σ G M H, Hv G M H → d.bk σ G M → D.bk σ H
  ct : ∀ σ G M H, Hv G M H → d.ct σ G M → D.ct σ H
  xc : ∀ c a σ G M H, Hv G M H → d.xc c a σ G M → W c a σ H
def upS (W : WX) (t : KS) : TS := fun D σ H => ∃ G M d, Hv G M H ∧ t d σ G M ∧ EndsTo W d D
def JS (X : Cx) (W : WX) (s : Stmt) (t : KS) : Prop := PS X s (upS W t)
def JSs (X : Cx) (W : WX) (s : List Stmt) (t : KS) : Prop := PSs X s (upS W t)
theorem ps_mono {X : Cx} {s : Stmt} {t t' : TS} (h : PS X s t) (i : ∀ D σ H, t' D σ H → t D σ H) : PS X s t' := ⟨fun pins st σ H D I q => h.run pins st σ H D I (i D σ H q)⟩
theorem pss_mono {X : Cx} {s : List Stmt} {t t' : TS} (h : PSs X s t) (i : ∀ D σ H, t' D σ H → t D σ H) : PSs X s t' := ⟨fun pins st σ H D I q => h.run pins st σ H D I (i D σ H q)⟩
def Kd.x (d : Kd) (σ : St) : KX := fun c a G M => d.xc c a σ G M
section
variable {X : Cx} {W : WX} {pos : Pos} {s : Stmt} {ss : List Stmt} {e : Expr} {t u : KS}
def kNext : KS := fun D σ G M => D.nx σ G M
def kSeq (t u : KS) : KS := fun D σ G M => ∃ G' M', Wk G M G' M' ∧ t { D with nx := u D } σ G' M'
def kNever : KS := fun _ _ _ _ => False
theorem jss_nil : JSs X W [] kNext := pss_mono pss_nil fun D σ H ⟨G, M, d, hv, h, en⟩ => en.nx σ G M H hv h
theorem jss_cons (h1 : JS X W s t) (h2 : JSs X W ss u) : JSs X W (s :: ss) (kSeq t u) := pss_mono (pss_cons h1 h2) fun D σ H ⟨G, M, d, hv, ⟨G', M', wk, h⟩, en⟩ =>
  ⟨G', M', _, wk H hv, h, ⟨fun σ' G2 M2 H2 hv2 q => ⟨G2, M2, d, hv2, q, en⟩, en.rt, en.bk, en.ct, en.xc⟩⟩
theorem js_never : JS X W s kNever := ps_mono ps_never fun D σ H ⟨G, M, d, hv, h, en⟩ => h
theorem js_pass : JS X W (.Pass pos) kNext := ps_mono ps_pass fun D σ H ⟨G, M, d, hv, h, en⟩ => en.nx σ G M H hv h
def kSet (i : Nat) (t : KE) : KS := fun D σ G M => t σ G M (fun v G M => D.nx (σ.set i (some v)) G M) (D.x σ)
theorem js_set {i : Nat} {x : Str} {t : KE} {pos' : Pos} (he : JE X W e t) (hN : X.N.Nodup) (hi : X.N[i]? = some x := by rfl) (hx : Loc X.env.scope x := by first | exact Or.inl rfl | exact Or.inr rfl)
    (hs : swapsWith e (some (.Name x pos')) pos.line X.env = pure false := by rfl) (hf : X.fn x = true ∨ X.env.scope.names.lookup x = some .local := by first | exact .inl rfl | exact .inr rfl | assumption) :
    JS X W (.Assign [.Name x pos'] e pos) (kSet i t) := ps_mono (ps_set hN hi hx he hs hf) fun D σ H ⟨G, M, d, hv, h, en⟩ =>
  ⟨G, M, _, _, hv, h, fun v G' M' H' hv' q => en.nx _ G' M' H' hv' q, fun c a G' M' H' hv' q => en.xc c a σ G' M' H' hv' q⟩
def kExpr (t : KE) : KS := fun D σ G M => t σ G M (fun _ G M => D.nx σ G M) (D.x σ)
theorem js_expr {t : KE} (he : JE X W e t) (hs : swapsWith e none pos.line X.env = pure false := by rfl) : JS X W (.Expr e pos) (kExpr t) := ps_mono (ps_expr he hs) fun D σ H ⟨G, M, d, hv, h, en⟩ =>
  ⟨G, M, _, _, hv, h, fun v G' M' H' hv' q => en.nx _ G' M' H' hv' q, fun c a G' M' H' hv' q => en.xc c a σ G' M' H' hv' q⟩
def kRet (t : KE) : KS := fun D σ G M => t σ G M D.rt (D.x σ)
theorem js_ret {t : KE} (he : JE X W e t) : JS X W (.Return (some e) pos) (kRet t) := ps_mono (ps_ret he) fun D σ H ⟨G, M, d, hv, h, en⟩ =>
  ⟨G, M, _, _, hv, h, fun v G' M' H' hv' q => en.rt _ G' M' H' hv' q, fun c a G' M' H' hv' q => en.xc c a σ G' M' H' hv' q⟩
def kRetN : KS := fun D σ G M => D.rt .non G M
theorem js_retN : JS X W (.Return none pos) kRetN := ps_mono ps_retN fun D σ H ⟨G, M, d, hv, h, en⟩ => en.rt _ G M H hv h
def kIf (c : KT) (t u : KS) : KS := fun D σ G M => c σ G M (fun b G M => if b = true then t D σ G M else u D σ G M) (D.x σ)
theorem js_if {c : Expr} {a b : List Stmt} {tc : KT} (hc : JT X W c tc) (ha : JSs X W a t) (hb : JSs X W b u) : JS X W (.If c a b pos) (kIf tc t u) := ps_mono (ps_if hc ha hb) fun D σ H ⟨G, M, d, hv, h, en⟩ =>
  ⟨G, M, _, _, hv, h, fun v G' M' H' hv' q => by
    cases v with
    | true => rw [if_pos rfl] at q ⊢; exact ⟨G', M', d, hv', q, en⟩
    | false => rw [if_neg Bool.false_ne_true] at q ⊢; exact ⟨G', M', d, hv', q, en⟩, fun c a G' M' H' hv' q => en.xc c a σ G' M' H' hv' q⟩
/-! ### targets -/
structure KG where
  val : V → St → Hp → Mem → (St → Hp → Mem → Prop) → Prop
  tup : List V → St → Hp → Mem → (St → Hp → Mem → Prop) → Prop
structure JG (X : Cx) (tg : Expr) (g : KG) (gr : TG) : Prop where
  pg : PG X tg gr
  val : ∀ v σ G M R H Q, Hv G M H → g.val v σ G M R → (∀ σ' G' M' H', Hv G' M' H' → R σ' G' M' → Q σ' H') → gr v σ H Q
  tup : ∀ T vs σ G M R H Q, Hv G M H → H T = none → g.tup vs σ G M R → (∀ σ' G' M' H', Hv G' M' H' → R σ' G' M' → Q σ' H') → gr (.ref T) σ (upd H T (.tup vs)) Q
def kgName (i : Nat) : KG := ⟨fun v σ G M R => R (σ.set i (some v)) G M, fun vs σ G M R => ∀ T, Fr G M T → R (σ.set i (some (.ref T))) (upd G T (.tup vs)) M⟩
theorem jg_name {i : Nat} {x : Str} (hN : X.N.Nodup) (hi : X.N[i]? = some x := by rfl) (hx : Loc X.env.scope x := by first | exact Or.inl rfl | exact Or.inr rfl) (hf : X.fn x = true ∨ X.env.scope.names.lookup x = some .local := by first | exact .inl rfl | exact .inr rfl | assumption) : JG X (.Name x pos) (kgName i) (gName i) :=
  ⟨pg_name hN hi hx hf, fun v σ G M R H Q hv h hR => hR _ G M H hv h, fun T vs σ G M R H Q hv hT h hR => hR _ _ M _ (hv.newG hT) (h T (hv.fr hT))⟩
/-- several targets at once -/
abbrev KGs := List V → St → Hp → Mem → (St → Hp → Mem → Prop) → Prop
def kgsNil : KGs := fun vs σ G M R => match vs with
  | [] => R σ G M
  | _ => False
def kgsCons (g : KG) (r : KGs) : KGs := fun vs σ G M R => match vs with
  | v :: vs => g.val v σ G M (fun σ G M => r vs σ G M R)
  | [] => False
structure JGs (X : Cx) (ts : List Expr) (g : KGs) (gr : TGs) : Prop where
  pgs : PGs X ts gr
  sim : ∀ vs σ G M R H Q, Hv G M H → g vs σ G M R → (∀ σ' G' M' H', Hv G' M' H' → R σ' G' M' → Q σ' H') → gr vs σ H Q
theorem jgs_nil : JGs X [] kgsNil gNil := ⟨pgs_nil, fun vs σ G M R H Q hv h hR => by
  match vs, h with
  | [], h => exact ⟨rfl, hR _ G M H hv h⟩⟩
theorem jgs_cons {tg : Expr} {ts : List Expr} {g : KG} {r : KGs} {gr : TG} {gs : TGs} (h1 : JG X tg g gr) (hr : JGs X ts r gs)
    (hs : (assignEach (tg :: ts) X.env).map (·.2) = assign tg X.env :: (assignEach ts X.env).map (·.2) := by rfl) : JGs X (tg :: ts) (kgsCons g r) (gCons gr gs) :=
  ⟨pgs_cons h1.pg hr.pgs hs, fun vs σ G M R H Q hv h hR => by
    match vs, h with
    | v :: vs, h => exact ⟨v, vs, rfl, h1.val v σ G M _ H _ hv h fun σ' G' M' H' hv' q => hr.sim vs σ' G' M' R H' Q hv' q hR⟩⟩
def onLen (n : Nat) (g : KGs) : KGs := fun vs σ G M R => match vs.length == n with
  | true => g vs σ G M R
  | false => False
theorem onLen_of {n : Nat} {g : KGs} {vs : List V} {σ : St} {G : Hp} {M : Mem} {R : St → Hp → Mem → Prop} (h : onLen n g vs σ G M R) : vs.length = n ∧ g vs σ G M R := by
  unfold onLen at h
  split at h
  · rename_i e; exact ⟨beq_iff_eq.mp e, h⟩
  · exact h.elim
def kgTup (K : PySem.W.Frag) (n : Nat) (g : KGs) : KG := ⟨fun v σ G M R => match v with
    | .ref a => ∃ xs, SqT K G a xs ∧ onLen n g xs σ G M R
    | _ => False, onLen n g⟩
theorem jg_tup {K : PySem.W.Frag} {ts : List Expr} {g : KGs} {gs : TGs} {n k : Nat} (hc : X.calm = true) (h : JGs X ts g gs) (hK : X.K = K := by rfl) (hn : (assignEach ts X.env).length = n := by rfl) (hst : (assignEach ts X.env).findIdx? (·.1) = none := by rfl) :
    JG X (.Tuple ts k pos) (kgTup K n g) (gTup K n gs) := by
  subst hK
  exact ⟨pg_tup hc h.pgs hn hst, fun v σ G M R H Q hv q hR => by
    match v, q with
    | .ref a, ⟨xs, q1, q2⟩ =>
      obtain ⟨e, q3⟩ := onLen_of q2
      exact ⟨a, xs, rfl, hv.tup q1, e, h.sim xs σ G M R H Q hv q3 hR⟩,
   fun T vs σ G M R H Q hv hT q hR => by
    obtain ⟨e, q3⟩ := onLen_of q
    exact ⟨T, vs, rfl, .inl (.inl upd_same), e, h.sim vs σ G M R _ Q (hv.junk hT) q3 hR⟩⟩
/-- nothing is raised -/
def W0 : WX := fun _ _ _ _ => False
/-- a place of a list as a target -/
def setL (o i v : V) (G : Hp) (M : Mem) (R : Hp → Mem → Prop) : Prop := match o, i with
  | .ref a, .int k => ∃ n xs j, M[n]? = some (a, .lst xs) ∧ ixN xs.length k = some j ∧ R G (M.set n (a, .lst (xs.set j v)))
  | _, _ => False
def kgIx (to ti : KE) : KG := ⟨fun v σ G M R => to σ G M (fun o G M => ti σ G M (fun i G M => setL o i v G M (fun G M => R σ G M)) (fun _ _ _ _ => False)) (fun _ _ _ _ => False), fun _ _ _ _ _ => False⟩
theorem jg_ix {o i : Expr} {to ti : KE} (ho : JE X W0 o to) (hi : JE X W0 i ti)
    (ha : ∀ v, assign (.Subscript o i pos) X.env v = (do
      let ov ← holding [v] (eval o X.env)
      let iv ← holding [v, ov] (eval i X.env)
      standAt pos
      holding [v, ov, iv] (setItem ov iv v)
      release [v, ov, iv] []) := by intro _; rfl) : JG X (.Subscript o i pos) (kgIx to ti) (gSub (upG W0 to) (upG W0 ti) rSetL) :=
  ⟨pg_sub ho hi set_list ha, fun v σ G M R H Q hv q hR => ⟨G, M, _, _, hv, q, fun ov G2 M2 H2 hv2 q2 => ⟨G2, M2, _, _, hv2, q2, fun iv G3 M3 H3 hv3 q3 => by
    match ov, iv, q3 with
    | .ref a, .int k, ⟨n, xs, j, e1, e2, q⟩ => exact ⟨a, xs, k, j, rfl, rfl, hv3.get e1, e2, hR σ G3 _ _ (hv3.set e1) q⟩, fun _ _ _ _ _ _ z => z.elim⟩, fun _ _ _ _ _ _ z => z.elim⟩,
   fun _ _ _ _ _ _ _ _ _ _ z => z.elim⟩
/-- a target of an assignment -/
def kAsg (t : KE) (g : KG) : KS := fun D σ G M => t σ G M (fun v G M => g.val v σ G M D.nx) (D.x σ)
theorem js_asg {tg : Expr} {t : KE} {g : KG} {gr : TG} (he : JE X W e t) (hg : JG X tg g gr) (hs : swapsWithSole [tg] e pos.line X.env = pure false := by rfl) (hw : swappedStores [tg] e X.env = pure none := by rfl)
    (h1 : (assignEach [tg] X.env).map (·.2) = [assign tg X.env] := by rfl) : JS X W (.Assign [tg] e pos) (kAsg t g) := ps_mono (ps_asg he hg.pg hs hw h1) fun D σ H ⟨G, M, d, hv, h, en⟩ =>
  ⟨G, M, _, _, hv, h, fun v G' M' H' hv' q => hg.val v σ G' M' _ H' _ hv' q fun σ' G2 M2 H2 hv2 q2 => en.nx _ G2 M2 H2 hv2 q2, fun c a G' M' H' hv' q => en.xc c a σ G' M' H' hv' q⟩
end
end BT
set_option Elab.async false
set_option linter.all false
set_option maxRecDepth 100000
set_option maxHeartbeats 4000000
namespace BT
open PySem PySem.Spec L2
open PyProof.Rows hiding St
/-! ### what is walked -/
structure Src where
  n : Nat
  get : Nat → V ⊕ List V
  ok : Hp → Mem → Prop
abbrev KI := KK Src
/-- an iterator that gives what the source says -/
structure Goes (src : Src) (J : It) : Prop where
  go : ∀ i G M H, Hv G M H → src.ok G M → i < src.n → J.go i H
  stop : ∀ i G M H, Hv G M H → src.ok G M → src.n ≤ i → J.stop i H
  yld : ∀ i G M H x H', Hv G M H → src.ok G M → i < src.n → J.yld i H x H' → match src.get i with
    | .inl v => x = v ∧ H' = H
    | .inr vs => ∃ T, x = .ref T ∧ H T = none ∧ H' = upd H T (.tup vs)
def upI (W : WX) (t : KI) : TI := fun σ H Q => ∃ G M R E, Hv G M H ∧ t σ G M R E ∧ (∀ src G' M' H', Hv G' M' H' → R src G' M' → ∀ J, Goes src J → Q J H') ∧ (∀ c d G' M' H', Hv G' M' H' → E c d G' M' → W c d σ H')
def JI (X : Cx) (W : WX) (tg it : Expr) (t : KI) : Prop := PI X tg it (upI W t)
theorem pi_mono {X : Cx} {tg it : Expr} {t t' : TI} (h : PI X tg it t) (i : ∀ σ H Q, t' σ H Q → t σ H Q) : PI X tg it t' := ⟨fun pins s σ H Q I q => h.run pins s σ H Q I (i σ H Q q)⟩
def srcL (K : PySem.W.Frag) (a : Addr) (xs : List V) : Src := ⟨xs.length, fun i => .inl (xs.getD i .non), fun G M => LstAt K G M a xs⟩
def srcT (K : PySem.W.Frag) (a : Addr) (xs : List V) : Src := ⟨xs.length, fun i => .inl (xs.getD i .non), fun G M => SqT K G a xs⟩
def srcR (lo : Int) (n : Nat) : Src := ⟨n, fun i => .inl (.int (lo + i)), fun _ _ => True⟩
def srcC (lo c : Int) (n : Nat) : Src := ⟨n, fun i => .inl (.int (lo + (i : Nat) * c)), fun _ _ => True⟩
def srcE (K : PySem.W.Frag) (a : Addr) (xs : List V) : Src := ⟨xs.length, fun i => .inr [.int i, xs.getD i .non], fun G M => LstAt K G M a xs⟩
def srcZ (K : PySem.W.Frag) (a b : Addr) (xs ys : List V) : Src := ⟨min xs.length ys.length, fun i => .inr [xs.getD i .non, ys.getD i .non], fun G M => LstAt K G M a xs ∧ LstAt K G M b ys⟩
def srcV (K : PySem.W.Frag) (a : Addr) (xs : List V) : Src := ⟨xs.length, fun i => .inl (xs.getD (xs.length - 1 - i) .non), fun G M => LstAt K G M a xs⟩
theorem getD_of {xs : List V} {i : Nat} {x : V} (h : xs[i]? = some x) : xs.getD i .non = x := by
  rw [List.getD_eq_getElem?_getD, h]; rfl
theorem get_lt {xs : List V} {i : Nat} (h : i < xs.length) : xs[i]? = some (xs.getD i .non) := by
  rw [List.getD_eq_getElem?_getD, List.getElem?_eq_getElem h]; rfl
theorem goes_L {K : PySem.W.Frag} {a : Addr} {xs : List V} : Goes (srcL K a xs) (Itl K a) where
  go := fun i G M H hv ok hi => ⟨xs, _, hv.lst ok, get_lt hi⟩
  stop := fun i G M H hv ok hi => ⟨xs, hv.lst ok, hi⟩
  yld := fun i G M H x H' hv ok hi y => ⟨(getD_of (y.2 xs (hv.lst ok))).symm, y.1⟩
theorem goes_T {K : PySem.W.Frag} {a : Addr} {xs : List V} : Goes (srcT K a xs) (Itt K a) where
  go := fun i G M H hv ok hi => ⟨xs, _, hv.tup ok, get_lt hi⟩
  stop := fun i G M H hv ok hi => ⟨xs, hv.tup ok, hi⟩
  yld := fun i G M H x H' hv ok hi y => ⟨(getD_of (y.2 xs (hv.tup ok))).symm, y.1⟩
theorem goes_R {lo : Int} {n : Nat} : Goes (srcR lo n) (Itr lo n) where
  go := fun i G M H hv ok hi => hi
  stop := fun i G M H hv ok hi => hi
  yld := fun i G M H x H' hv ok hi y => ⟨y.2, y.1⟩
theorem goes_C {lo c : Int} {n : Nat} : Goes (srcC lo c n) (Itc lo c n) where
  go := fun i G M H hv ok hi => hi
  stop := fun i G M H hv ok hi => hi
  yld := fun i G M H x H' hv ok hi y => ⟨y.2, y.1⟩
theorem goes_E {K : PySem.W.Frag} {a : Addr} {xs : List V} : Goes (srcE K a xs) (Ite K a) where
  go := fun i G M H hv ok hi => ⟨xs, _, hv.lst ok, get_lt hi⟩
  stop := fun i G M H hv ok hi => ⟨xs, hv.lst ok, hi⟩
  yld := fun i G M H x H' hv ok hi y => by
    obtain ⟨T, z, e1, e2, e3, e4⟩ := y
    have e5 := getD_of (e4 xs (hv.lst ok))
    exact ⟨T, e1, e2, by rw [e3, ← e5]⟩
theorem goes_Z {K : PySem.W.Frag} {a b : Addr} {xs ys : List V} : Goes (srcZ K a b xs ys) (Itz K a b) where
  go := fun i G M H hv ok hi => ⟨xs, ys, _, _, hv.lst ok.1, hv.lst ok.2, get_lt (Nat.lt_of_lt_of_le hi (Nat.min_le_left _ _)), get_lt (Nat.lt_of_lt_of_le hi (Nat.min_le_right _ _))⟩
  stop := fun i G M H hv ok hi => ⟨xs, ys, hv.lst ok.1, hv.lst ok.2, by
    have hi : min xs.length ys.length ≤ i := hi
    omega⟩
  yld := fun i G M H x H' hv ok hi y => by
    obtain ⟨T, z, w, e1, e2, e3, e4, e5⟩ := y
    have e6 := getD_of (e4 xs (hv.lst ok.1))
    have e7 := getD_of (e5 ys (hv.lst ok.2))
    exact ⟨T, e1, e2, by rw [e3, ← e6, ← e7]⟩
theorem goes_V {K : PySem.W.Frag} {a : Addr} {xs : List V} : Goes (srcV K a xs) (Itv K a xs.length) where
  go := fun i G M H hv ok hi => ⟨hi, xs, _, hv.lst ok, get_lt (by have hi : i < xs.length := hi; omega)⟩
  stop := fun i G M H hv ok hi => hi
  yld := fun i G M H x H' hv ok hi y => ⟨(getD_of (y.2 xs (hv.lst ok))).symm, y.1⟩
section
variable {X : Cx} {W : WX} {pos p tpos : Pos} {e e2 a b c : Expr} {es : List Expr} {tg : Expr}
def kiSeq (K : PySem.W.Frag) (t : KE) : KI := fun σ G M R E => t σ G M (fun x G M => match x with
  | .ref a => ∃ xs, LstAt K G M a xs ∧ R (srcL K a xs) G M
  | _ => False) E
def kiTup (K : PySem.W.Frag) (t : KE) : KI := fun σ G M R E => t σ G M (fun x G M => match x with
  | .ref a => ∃ xs, SqT K G a xs ∧ R (srcT K a xs) G M
  | _ => False) E
theorem ji_list {t : KE} (h : JE X W e t) : JI X W tg e (kiSeq X.K t) := pi_mono (pi_list h) fun σ H Q ⟨G, M, R, E, hv, h, hR, hE⟩ => ⟨G, M, _, E, hv, h, fun x G1 M1 H1 hv1 q => by
    match x, q with
    | .ref a, ⟨xs, q1, q2⟩ => exact ⟨a, rfl, ⟨xs, hv1.lst q1⟩, hR _ G1 M1 H1 hv1 q2 _ goes_L⟩, hE⟩
theorem ji_tup {t : KE} (h : JE X W e t) : JI X W tg e (kiTup X.K t) := pi_mono (pi_tup h) fun σ H Q ⟨G, M, R, E, hv, h, hR, hE⟩ => ⟨G, M, _, E, hv, h, fun x G1 M1 H1 hv1 q => by
    match x, q with
    | .ref a, ⟨xs, q1, q2⟩ => exact ⟨a, rfl, ⟨xs, hv1.tup q1⟩, hR _ G1 M1 H1 hv1 q2 _ goes_T⟩, hE⟩
/-- range(n), range(a, b), range(a, b, c) -/
def kiR1 (t : KA) : KI := fun σ G M R E => t σ G M (fun vs G M => match vs with
  | [.int j] => (-(2 ^ 62) ≤ j ∧ j < 2 ^ 62) ∧ R (srcR 0 j.toNat) G M
  | _ => False) E
def kiR2 (t : KA) : KI := fun σ G M R E => t σ G M (fun vs G M => match vs with
  | [.int i, .int j] => (-(2 ^ 62) ≤ i ∧ i < 2 ^ 62 ∧ -(2 ^ 62) ≤ j ∧ j < 2 ^ 62) ∧ R (srcR i (j - i).toNat) G M
  | _ => False) E
def kiR3 (t : KA) : KI := fun σ G M R E => t σ G M (fun vs G M => match vs with
  | [.int i, .int j, .int c] => ∃ n, RgC i j c n ∧ R (srcC i c n) G M
  | _ => False) E
theorem ji_range1 {t : KA} (hm : X.mg "range" = none) (ha : JA X W [a] t) (hg : Gl X "range" := by rfl) (hs : starEach [a] X.env = [(false, eval a X.env)] := by rfl) : JI X W tg (.Call (.Name "range" p) [a] [] pos) (kiR1 t) :=
  pi_mono (pi_range1 hg hm ha hs) fun σ H Q ⟨G, M, R, E, hv, h, hR, hE⟩ => ⟨G, M, _, E, hv, h, fun vs G1 M1 H1 hv1 q => by
    match vs, q with
    | [.int j], ⟨⟨q1, q2⟩, q3⟩ => exact ⟨j, rfl, q1, q2, hR _ G1 M1 H1 hv1 q3 _ goes_R⟩, hE⟩
theorem ji_range2 {t : KA} (hm : X.mg "range" = none) (ha : JA X W [a, b] t) (hg : Gl X "range" := by rfl) (hs : starEach [a, b] X.env = [(false, eval a X.env), (false, eval b X.env)] := by rfl) (hs2 : starEach [b] X.env = [(false, eval b X.env)] := by rfl) : JI X W tg (.Call (.Name "range" p) [a, b] [] pos) (kiR2 t) :=
  pi_mono (pi_range2 hg hm ha hs hs2) fun σ H Q ⟨G, M, R, E, hv, h, hR, hE⟩ => ⟨G, M, _, E, hv, h, fun vs G1 M1 H1 hv1 q => by
    match vs, q with
    | [.int i, .int j], ⟨q1, q3⟩ => exact ⟨i, j, rfl, q1, hR _ G1 M1 H1 hv1 q3 _ goes_R⟩, hE⟩
theorem ji_range3 {t : KA} (hm : X.mg "range" = none) (ha : JA X W [a, b, c] t) (hg : Gl X "range" := by rfl) (hs : starEach [a, b, c] X.env = (false, eval a X.env) :: starEach [b, c] X.env := by rfl) (hpl : (backTo pos (starEach [b, c] X.env)).any (·.1) = false := by rfl) : JI X W tg (.Call (.Name "range" p) [a, b, c] [] pos) (kiR3 t) :=
  pi_mono (pi_range3 hg hm ha hs hpl) fun σ H Q ⟨G, M, R, E, hv, h, hR, hE⟩ => ⟨G, M, _, E, hv, h, fun vs G1 M1 H1 hv1 q => by
    match vs, q with
    | [.int i, .int j, .int c], ⟨n, q1, q3⟩ => exact ⟨i, j, c, n, rfl, q1, hR _ G1 M1 H1 hv1 q3 _ goes_C⟩, hE⟩
def kiEnum (K : PySem.W.Frag) (t : KA) : KI := fun σ G M R E => t σ G M (fun vs G M => match vs with
  | [.ref a] => ∃ xs, LstAt K G M a xs ∧ R (srcE K a xs) G M
  | _ => False) E
def kiRev (K : PySem.W.Frag) (t : KA) : KI := fun σ G M R E => t σ G M (fun vs G M => match vs with
  | [.ref a] => ∃ xs, LstAt K G M a xs ∧ R (srcV K a xs) G M
  | _ => False) E
def kiZip (K : PySem.W.Frag) (t : KA) : KI := fun σ G M R E => t σ G M (fun vs G M => match vs with
  | [.ref a, .ref b] => ∃ xs ys, LstAt K G M a xs ∧ LstAt K G M b ys ∧ R (srcZ K a b xs ys) G M
  | _ => False) E
variable {elts : List Expr} {kk : Nat}
theorem ji_enum {t : KA} (hm : X.mg "enumerate" = none) (ha : JA X W [e] t) (hg : Gl X "enumerate" := by rfl) (hs : starEach [e] X.env = [(false, eval e X.env)] := by rfl) : JI X W (.Tuple elts kk tpos) (.Call (.Name "enumerate" p) [e] [] pos) (kiEnum X.K t) :=
  pi_mono (pi_enum hg hm ha hs) fun σ H Q ⟨G, M, R, E, hv, h, hR, hE⟩ => ⟨G, M, _, E, hv, h, fun vs G1 M1 H1 hv1 q => by
    match vs, q with
    | [.ref a], ⟨xs, q1, q3⟩ => exact ⟨a, xs, rfl, hv1.lst q1, hR _ G1 M1 H1 hv1 q3 _ goes_E⟩, hE⟩
theorem ji_rev {t : KA} (hm : X.mg "reversed" = none) (ha : JA X W [e] t) (hg : Gl X "reversed" := by rfl) (hs : starEach [e] X.env = [(false, eval e X.env)] := by rfl) : JI X W tg (.Call (.Name "reversed" p) [e] [] pos) (kiRev X.K t) :=
  pi_mono (pi_reversed hg hm ha hs) fun σ H Q ⟨G, M, R, E, hv, h, hR, hE⟩ => ⟨G, M, _, E, hv, h, fun vs G1 M1 H1 hv1 q => by
    match vs, q with
    | [.ref a], ⟨xs, q1, q3⟩ => exact ⟨a, xs, rfl, hv1.lst q1, hR _ G1 M1 H1 hv1 q3 _ goes_V⟩, hE⟩
theorem ji_zip {t : KA} (hm : X.mg "zip" = none) (ha : JA X W [e, e2] t) (hg : Gl X "zip" := by rfl) (hs : starEach [e, e2] X.env = (false, eval e X.env) :: starEach [e2] X.env := by rfl) (hpl : (backTo pos (starEach [e2] X.env)).any (·.1) = false := by rfl) :
    JI X W (.Tuple elts kk tpos) (.Call (.Name "zip" p) [e, e2] [] pos) (kiZip X.K t) :=
  pi_mono (pi_zip hg hm ha hs hpl) fun σ H Q ⟨G, M, R, E, hv, h, hR, hE⟩ => ⟨G, M, _, E, hv, h, fun vs G1 M1 H1 hv1 q => by
    match vs, q with
    | [.ref a, .ref b], ⟨xs, ys, q1, q2, q3⟩ => exact ⟨a, b, xs, ys, rfl, hv1.lst q1, hv1.lst q2, hR _ G1 M1 H1 hv1 q3 _ goes_Z⟩, hE⟩
/-! ### for -/
def asg (g : KG) (w : V ⊕ List V) : St → Hp → Mem → (St → Hp → Mem → Prop) → Prop := match w with
  | .inl v => g.val v
  | .inr vs => g.tup vs
def wk1 (Pv : St → Hp → Mem → Prop) : St → Hp → Mem → Prop := fun σ G M => ∃ G' M', Wk G M G' M' ∧ Pv σ G' M'
def kFor (ti : KI) (g : KG) (tb : KS) : KS := fun D σ G M => ti σ G M (fun src G M => ∃ Pv : Nat → St → Hp → Mem → Prop, Pv 0 σ G M ∧ (∀ i σ G M, i ≤ src.n → Pv i σ G M → src.ok G M) ∧
  (∀ i σ G M, i < src.n → Pv i σ G M → asg g (src.get i) σ G M (fun σ G M => tb { D with nx := wk1 (Pv (i + 1)), ct := wk1 (Pv (i + 1)), bk := D.nx } σ G M)) ∧ (∀ σ G M, Pv src.n σ G M → D.nx σ G M)) (D.x σ)
theorem asg_sim {g : KG} {gr : TG} (hg : JG X tg g gr) {w : V ⊕ List V} {σ : St} {G : Hp} {M : Mem} {R : St → Hp → Mem → Prop} {H H' : Hp} {x : V} {Q : St → Hp → Prop} (hv : Hv G M H)
    (y : match w with | .inl v => x = v ∧ H' = H | .inr vs => ∃ T, x = .ref T ∧ H T = none ∧ H' = upd H T (.tup vs)) (h : asg g w σ G M R) (hR : ∀ σ' G' M' H', Hv G' M' H' → R σ' G' M' → Q σ' H') : gr x σ H' Q := by
  cases w with
  | inl v =>
    obtain ⟨rfl, rfl⟩ := y
    exact hg.val _ σ G M R _ Q hv h hR
  | inr vs =>
    obtain ⟨T, rfl, hT, rfl⟩ := y
    exact hg.tup T vs σ G M R H Q hv hT h hR
theorem js_for {it : Expr} {body : List Stmt} {ti : KI} {g : KG} {gr : TG} {tb : KS} (hp : PassesOwn (model X.prog X.w) X.A X.env X.xe) (hc : X.calm = true) (hi : JI X W tg it ti) (hg : JG X tg g gr) (hb : JSs X W body tb)
    (hs : ∀ x, foldedSetIterable it X.env x = pure x := by intro _; rfl) : JS X W (.For tg it body [] pos) (kFor ti g tb) := ps_mono (ps_for hp hc hi hg.pg hb hs) fun D σ H ⟨G, M, d, hv, h, en⟩ => by
  refine ⟨G, M, _, _, hv, h, fun src G1 M1 H1 hv1 q J go => ?_, fun c a G' M' H' hv' q => en.xc c a σ G' M' H' hv' q⟩
  obtain ⟨Pv, p0, pok, pst, pend⟩ := q
  refine ⟨fun i m σ H => m = src.n - i ∧ i ≤ src.n ∧ ∃ G M, Hv G M H ∧ Pv i σ G M, ⟨src.n, by simp, Nat.zero_le _, G1, M1, hv1, p0⟩, ?_⟩
  rintro i m σ2 H2 ⟨rfl, hi2, G2, M2, hv2, p2⟩
  have ok := pok i σ2 G2 M2 hi2 p2
  by_cases hlt : i < src.n
  · refine .inr ⟨go.go i G2 M2 H2 hv2 ok hlt, fun σ' H' => ∃ G M, Hv G M H' ∧ Pv (i + 1) σ' G M, fun σ' H' ⟨G3, M3, hv3, p3⟩ => ⟨src.n - (i + 1), by omega, rfl, hlt, G3, M3, hv3, p3⟩, fun x H' y => ?_⟩
    refine asg_sim hg hv2 (go.yld i G2 M2 H2 x H' hv2 ok hlt y) (pst i σ2 G2 M2 hlt p2) fun σ3 G3 M3 H3 hv3 q3 => ?_
    have e1 : ∀ σ G M H, Hv G M H → wk1 (Pv (i + 1)) σ G M → ∃ G M, Hv G M H ∧ Pv (i + 1) σ G M := fun σ G M H hv ⟨G', M', wk, q⟩ => ⟨G', M', wk H hv, q⟩
    exact ⟨G3, M3, _, hv3, q3, ⟨e1, en.rt, en.nx, e1, en.xc⟩⟩
  · have e : i = src.n := by omega
    subst e
    exact .inl ⟨go.stop _ G2 M2 H2 hv2 ok (Nat.le_refl _), en.nx _ G2 M2 H2 hv2 (pend σ2 G2 M2 p2)⟩
/-! ### while -/
def kWhile (c : KT) (tb : KS) : KS := fun D σ G M => ∃ Pv : Nat → St → Hp → Mem → Prop, (∃ m, Pv m σ G M) ∧ ∀ m σ G M, Pv m σ G M →
  c σ G M (fun b G M => if b = true then tb { D with nx := fun σ G M => ∃ m', m' < m ∧ wk1 (Pv m') σ G M, ct := fun σ G M => ∃ m', m' < m ∧ wk1 (Pv m') σ G M, bk := D.nx } σ G M else D.nx σ G M) (D.x σ)
theorem js_while {c : Expr} {body : List Stmt} {tc : KT} {tb : KS} (hp : PassesOwn (model X.prog X.w) X.A X.env X.xe) (hc : JT X W c tc) (hb : JSs X W body tb) : JS X W (.While c body [] pos) (kWhile tc tb) := ps_mono (ps_while hp hc hb) fun D σ H ⟨G, M, d, hv, ⟨Pv, ⟨m0, p0⟩, st⟩, en⟩ => by
  refine ⟨fun m σ H => ∃ G M, Hv G M H ∧ Pv m σ G M, ⟨m0, G, M, hv, p0⟩, ?_⟩
  rintro m σ1 H1 ⟨G1, M1, hv1, p1⟩
  refine ⟨G1, M1, _, _, hv1, st m σ1 G1 M1 p1, fun b G2 M2 H2 hv2 q2 => ?_, fun c a G' M' H' hv' q => en.xc c a σ1 G' M' H' hv' q⟩
  cases b with
  | true =>
    rw [if_pos rfl] at q2 ⊢
    refine ⟨fun σ' H' => ∃ m', m' < m ∧ ∃ G M, Hv G M H' ∧ Pv m' σ' G M, fun σ' H' h => h, ?_⟩
    have e1 : ∀ σ G M H, Hv G M H → (∃ m', m' < m ∧ wk1 (Pv m') σ G M) → ∃ m', m' < m ∧ ∃ G M, Hv G M H ∧ Pv m' σ G M := fun σ G M H hv ⟨m', l, G', M', wk, q⟩ => ⟨m', l, G', M', wk H hv, q⟩
    exact ⟨G2, M2, _, hv2, q2, ⟨e1, en.rt, en.nx, e1, en.xc⟩⟩
  | false =>
    rw [if_neg Bool.false_ne_true] at q2 ⊢
    exact en.nx _ G2 M2 H2 hv2 q2
/-! ### list comprehensions -/
def E0 : KX := fun _ _ _ _ => False
def kYes : KT := fun _ G M R _ => R true G M
def JTs (X : Cx) (W : WX) (es : List Expr) (t : KT) : Prop := PTs X es (upG W t)
theorem jts_nil : JTs X W [] kYes := ⟨fun pins s σ H Q I ⟨G, M, R, E, hv, h, hR, _⟩ => pts_nil.run pins s σ H Q I (hR _ G M H hv h)⟩
theorem jts_one {t : KT} (h : JT X W c t) : JTs X W [c] t := pts_one h
def kComp (ti : KI) (g : KG) (tt : KT) (te : KE) (own : List Nat) : KE := fun σ G M R E => ti σ G M (fun src G M => src.n ≤ sizeLine ∧ ∃ Pv : Nat → List V → Hp → Mem → Prop, Pv 0 [] G M ∧ (∀ i acc G M, i ≤ src.n → Pv i acc G M → src.ok G M) ∧
  (∀ i acc G M D, i < src.n → acc.length ≤ i → Pv i acc G M → Fr G M D → asg g (src.get i) (wipe σ own) G ((D, .lst acc) :: M) (fun σ2 G M => wipe σ2 own = wipe σ own ∧ tt σ2 G M (fun b G M =>
    if b = true then te σ2 G M (fun y G M => ∃ G' M', Wk G M G' ((D, .lst acc) :: M') ∧ Pv (i + 1) (acc ++ [y]) G' M') E0 else ∃ G' M', Wk G M G' ((D, .lst acc) :: M') ∧ Pv (i + 1) acc G' M') E0)) ∧
  (∀ acc G M p, Pv src.n acc G M → acc.length ≤ src.n → Fr G M p → R (.ref p) G ((p, .lst acc) :: M))) E
theorem comp_sim {K : PySem.W.Frag} {ti : KI} {g : KG} {gr : TG} {tt : KT} {te : KE} {own : List Nat} {σ : St} {H : Hp} {Q : VK}
    (hgv : ∀ v σ G M R H Q, Hv G M H → g.val v σ G M R → (∀ σ' G' M' H', Hv G' M' H' → R σ' G' M' → Q σ' H') → gr v σ H Q)
    (hgt : ∀ T vs σ G M R H Q, Hv G M H → H T = none → g.tup vs σ G M R → (∀ σ' G' M' H', Hv G' M' H' → R σ' G' M' → Q σ' H') → gr (.ref T) σ (upd H T (.tup vs)) Q)
    (h : upG W (kComp ti g tt te own) σ H Q) : tLc (upI W ti) gr (upG W0 tt) (upG W0 te) own σ H Q := by
  obtain ⟨G, M, R, E, hv, h, hR, hE⟩ := h
  refine ⟨G, M, _, E, hv, h, fun src G1 M1 H1 hv1 q J go => ?_, hE⟩
  obtain ⟨hn, Pv, p0, pok, pst, pend⟩ := q
  intro D hD
  refine ⟨fun i m H => m = src.n - i ∧ i ≤ src.n ∧ ∃ acc G M, acc.length ≤ i ∧ Hv G ((D, .lst acc) :: M) H ∧ Pv i acc G M, ⟨src.n, by simp, Nat.zero_le _, [], G1, M1, Nat.le_refl _, hv1.newM hD, p0⟩, ?_⟩
  rintro i m H2 ⟨rfl, hi2, acc, G2, M2, hacc, hv2, p2⟩
  have hv2' : Hv G2 M2 H2 := Wk.drop0 H2 hv2
  have ok := pok i acc G2 M2 hi2 p2
  have fD : Fr G2 M2 D := by
    refine ⟨hv2.dj (D, .lst acc) List.mem_cons_self, fun x hx e => ?_⟩
    have nd := hv2.nd
    rw [List.map_cons, List.nodup_cons] at nd
    exact nd.1 (by rw [← e]; exact List.mem_map.mpr ⟨x, hx, rfl⟩)
  by_cases hlt : i < src.n
  · refine .inr ⟨go.go i G2 M2 H2 hv2' ok hlt, fun H' => ∃ acc G M, acc.length ≤ i + 1 ∧ Hv G ((D, .lst acc) :: M) H' ∧ Pv (i + 1) acc G M, fun H' ⟨acc', G3, M3, l3, hv3, p3⟩ => ⟨src.n - (i + 1), by omega, rfl, hlt, acc', G3, M3, l3, hv3, p3⟩, fun x H' y => ?_⟩
    have step := pst i acc G2 M2 D hlt hacc p2 fD
    have yy := go.yld i G2 M2 H2 x H' hv2' ok hlt y
    have fin : ∀ σ3 G3 M3 H3, Hv G3 M3 H3 → (wipe σ3 own = wipe σ own ∧ tt σ3 G3 M3 (fun b G M =>
        if b = true then te σ3 G M (fun y G M => ∃ G' M', Wk G M G' ((D, .lst acc) :: M') ∧ Pv (i + 1) (acc ++ [y]) G' M') E0 else ∃ G' M', Wk G M G' ((D, .lst acc) :: M') ∧ Pv (i + 1) acc G' M') E0) →
        (wipe σ3 own = wipe σ own ∧ upG W0 tt σ3 H3 fun b H3 => if b = true then upG W0 te σ3 H3 fun y H4 => ∃ acc, H4 D = some (.lst acc) ∧ acc.length < sizeLine ∧ (∃ acc' G M, acc'.length ≤ i + 1 ∧ Hv G ((D, .lst acc') :: M) (upd H4 D (.lst (acc ++ [y]))) ∧ Pv (i + 1) acc' G M) else ∃ acc' G M, acc'.length ≤ i + 1 ∧ Hv G ((D, .lst acc') :: M) H3 ∧ Pv (i + 1) acc' G M) := by
      rintro σ3 G3 M3 H3 hv3 ⟨ew, q3⟩
      refine ⟨ew, G3, M3, _, _, hv3, q3, fun b G4 M4 H4 hv4 q4 => ?_, fun _ _ _ _ _ _ z => z.elim⟩
      cases b with
      | true =>
        rw [if_pos rfl] at q4 ⊢
        refine ⟨G4, M4, _, _, hv4, q4, fun y G5 M5 H5 hv5 ⟨G6, M6, wk, p6⟩ => ?_, fun _ _ _ _ _ _ z => z.elim⟩
        have hv6 := wk H5 hv5
        refine ⟨acc, hv6.mu (D, .lst acc) List.mem_cons_self, by omega, acc ++ [y], G6, M6, by rw [List.length_append]; exact Nat.succ_le_succ hacc, ?_, p6⟩
        exact hv6.set (n := 0) (o' := .lst (acc ++ [y])) rfl
      | false =>
        rw [if_neg Bool.false_ne_true] at q4 ⊢
        obtain ⟨G6, M6, wk, p6⟩ := q4
        exact ⟨acc, G6, M6, by omega, wk H4 hv4, p6⟩
    revert yy step
    cases src.get i with
    | inl v =>
      rintro step ⟨rfl, rfl⟩
      exact hgv _ _ G2 _ _ _ _ hv2 step fin
    | inr vs =>
      rintro step ⟨T, rfl, hT, rfl⟩
      exact hgt T vs _ G2 _ _ _ _ hv2 hT step fin
  · have e : i = src.n := by omega
    subst e
    exact .inl ⟨go.stop _ G2 M2 H2 hv2' ok (Nat.le_refl _), hR _ _ _ _ hv2 (pend acc G2 M2 D p2 hacc fD)⟩
variable {elt it : Expr} {ifs : List Expr} {scope : Scope} {own : List (Str × Nat)} {spos py : Pos}
theorem je_comp {ti : KI} {g : KG} {gr : TG} {tt : KT} {te : KE} (hc : X.calm = true) (hN : X.N.Nodup) (hi : JI X W tg it ti) (ok : BlkOk X.N X.env.scope scope own)
    (hg : ∀ (s : Shared) (H : Hp) (C : Addr) (cl : List (Str × Addr)) (fp : List Addr), JG (X.blk s H scope (compEnvC scope cl C X.env) fp) tg g gr) (ht : ∀ (s : Shared) (H : Hp) (C : Addr) (cl : List (Str × Addr)) (fp : List Addr), JTs (X.blk s H scope (compEnvC scope cl C X.env) fp) W0 ifs tt)
    (he : ∀ (s : Shared) (H : Hp) (C : Addr) (cl : List (Str × Addr)) (fp : List Addr), JE (X.blk s H scope (compEnvC scope cl C X.env) fp) W0 elt te) (hs : ∀ x, foldedSetIterable it X.env x = pure x := by intro _; rfl) :
    JE X W (.ListComp elt [⟨tg, it, ifs, 0⟩] scope pos) (kComp ti g tt te (own.map (·.2))) :=
  pe_mono (pe_lc hc hN hi ok (fun s H C cl fp => (hg s H C cl fp).pg) ht he hs) fun σ H Q h =>
    comp_sim (K := X.K) (fun v σ G M R H Q hv => ((hg X.s_0 H 0 [] []).val v σ G M R H Q hv)) (fun T vs σ G M R H Q hv => ((hg X.s_0 H 0 [] []).tup T vs σ G M R H Q hv)) h
theorem js_setComp {i : Nat} {y : Str} {ti : KI} {g : KG} {gr : TG} {tt : KT} {te : KE} (hc : X.calm = true) (hN : X.N.Nodup) (hsw : swapsWith (.ListComp elt [⟨tg, it, ifs, 0⟩] scope pos) (some (.Name y py)) spos.line X.env = pure true) (hi : JI X W tg it ti) (ok : BlkOk X.N X.env.scope scope own)
    (hg : ∀ (s : Shared) (H : Hp) (C : Addr) (cl : List (Str × Addr)) (fp : List Addr), JG (X.blk s H scope (compEnvC scope cl C X.env) fp) tg g gr) (ht : ∀ (s : Shared) (H : Hp) (C : Addr) (cl : List (Str × Addr)) (fp : List Addr), JTs (X.blk s H scope (compEnvC scope cl C X.env) fp) W0 ifs tt)
    (he : ∀ (s : Shared) (H : Hp) (C : Addr) (cl : List (Str × Addr)) (fp : List Addr), JE (X.blk s H scope (compEnvC scope cl C X.env) fp) W0 elt te) (hy : X.N[i]? = some y := by rfl) (hyl : X.env.scope.names.lookup y = some .local := by rfl) (hs : ∀ x, foldedSetIterable it X.env x = pure x := by intro _; rfl) :
    JS X W (.Assign [.Name y py] (.ListComp elt [⟨tg, it, ifs, 0⟩] scope pos) spos) (kSet i (kComp ti g tt te (own.map (·.2)))) :=
  ps_mono (ps_setLc hc hN hy hyl hsw hi ok (fun s H C cl fp => (hg s H C cl fp).pg) ht he hs) fun D σ H ⟨G, M, d, hv, h, en⟩ =>
    comp_sim (K := X.K) (fun v σ G M R H Q hv => ((hg X.s_0 H 0 [] []).val v σ G M R H Q hv)) (fun T vs σ G M R H Q hv => ((hg X.s_0 H 0 [] []).tup T vs σ G M R H Q hv))
      ⟨G, M, _, _, hv, h, fun v G' M' H' hv' q => en.nx _ G' M' H' hv' q, fun c a G' M' H' hv' q => en.xc c a σ G' M' H' hv' q⟩
end
/-! ### a def -/
/-- what is known may be weakened at the end -/
def wkR (R : KR) : KR := fun v G M => ∀ H, Hv G M H → ∃ G' M', Hv G' M' H ∧ R v G' M'
def wkX (Z : KX) : KX := fun c d G M => ∃ G' M', Wk G M G' M' ∧ Z c d G' M'
theorem ret0 {R : KR} {v : V} {G : Hp} {M : Mem} (h : R v G M) : wkR R v G M := fun _ hv => ⟨G, M, hv, h⟩
theorem retW {R : KR} {v : V} {G G' : Hp} {M M' : Mem} (w : Wk G M G' M') (h : R v G' M') : wkR R v G M := fun H hv => ⟨G', M', w H hv, h⟩
theorem wkR_wk {R : KR} {v : V} {G G' : Hp} {M M' : Mem} (w : Wk G M G' M') (h : wkR R v G' M') : wkR R v G M := fun H hv => h H (w H hv)
section
variable {P : Program} {w : World} {K : PySem.W.Frag} {mg : Str → Option Value} {base : Heap}
theorem fn_ok {x qual : Str} {st : Stmt} {f : Addr} {fd : FuncData} {N ps : List Str} {k : Nat} {S : KSp} (F : Fun K x qual st f fd) (sc : FnScope N ps (defScope st)) (len : ∀ vs G M R X, S vs G M R X → vs.length = ps.length)
    (hbody : ∀ (cdv : Value) (A : Around) (outer : List Env) (s : Shared) (H : Hp) (E : XK), Room k (A.deeper (envOfC qual (defScope st) s.heap.objs.size f cdv)) →
      ∃ t, JSs (cxOf (L2.CX P w) P w K mg base N qual (defScope st) f cdv A outer s H E) (fun c d _ H => E c d H) (defBody st) t ∧
        ∀ vs G M R Z, S vs G M R Z → t { nx := fun _ G M => wkR R .non G M, rt := wkR R, xc := fun c d _ G M => wkX Z c d G M } (start N vs) G M) : FnOk P w K mg base (L2.CX P w) (k + 1) f fd ps (lift S) := by
  refine F.okX sc (fun vs H Q E ⟨G, M, R, Z, _, h, _⟩ => len vs G M R Z h) fun cdv A outer s H vs Q E hr ⟨G, M, R, Z, hv, h, hR, hZ⟩ => ?_
  obtain ⟨t, j, q⟩ := hbody cdv A outer s H E hr
  exact ⟨_, j, G, M, _, hv, q vs G M R Z h, ⟨fun σ G M H hv h => (h H hv).elim fun G' h => h.elim fun M' h => hR _ G' M' H h.1 h.2, fun v G M H hv h => (h H hv).elim fun G' h => h.elim fun M' h => hR _ G' M' H h.1 h.2, fun _ _ _ _ _ z => z.elim, fun _ _ _ _ _ z => z.elim, fun c a σ G M H hv ⟨G', M', w, q⟩ => hZ c a G' M' H (w H hv) q⟩⟩
/-- a def that keeps its promise -/
structure Def (P : Program) (w : World) (K : PySem.W.Frag) (mg : Str → Option Value) (base : Heap) (lev : Nat) (x : Str) (ps : List Str) (S : KSp) : Prop where
  ex : ∃ f fd, FnOk P w K mg base (L2.CX P w) lev f fd ps (lift S) ∧ mg x = some (.ref f) ∧ PySem.W.keepIn K (.ref f) = true ∧ Binds K fd ps []
end
section
variable {X : Cx} {W : WX} {pos p : Pos} {e : Expr} {es : List Expr} {x : Str} {k lev : Nat} {ps : List Str} {S : KSp} {t : KA}
theorem je_callD (D : Def X.prog X.w X.K X.mg X.base lev x ps S) (hr : Room k X.A) (tk : Takes X W) (ha : JA X W (e :: es) t) (hl : lev ≤ k := by decide) (hg : Gl X x := by rfl)
    (hdb : (x == ("__debug__" : Str)) = false := by decide) (he : starEach (e :: es) X.env = (false, eval e X.env) :: starEach es X.env := by rfl) (hpl : (backTo pos (starEach es X.env)).any (·.1) = false := by rfl) :
    JE X W (.Call (.Name x p) (e :: es) [] pos) (kCall S t) := by
  obtain ⟨f, fd, F, hm, hk, hb⟩ := D.ex
  exact je_call (F.mono hl) hr tk hm hk hb ha hg hdb he hpl
end
end BT
set_option Elab.async false
set_option linter.all false
set_option maxRecDepth 100000
set_option maxHeartbeats 4000000
namespace BT
open PySem PySem.Spec L2
open PyProof.Rows hiding St
/-! ### promises by the number of arguments -/
def sp1 (f : V → Hp → Mem → KR → KX → Prop) : KSp := fun vs G M R Z => match vs with
  | [x] => f x G M R Z
  | _ => False
def sp2 (f : V → V → Hp → Mem → KR → KX → Prop) : KSp := fun vs G M R Z => match vs with
  | [x, y] => f x y G M R Z
  | _ => False
def sp3 (f : V → V → V → Hp → Mem → KR → KX → Prop) : KSp := fun vs G M R Z => match vs with
  | [x, y, z] => f x y z G M R Z
  | _ => False
def sp4 (f : V → V → V → V → Hp → Mem → KR → KX → Prop) : KSp := fun vs G M R Z => match vs with
  | [x, y, z, u] => f x y z u G M R Z
  | _ => False
def sp5 (f : V → V → V → V → V → Hp → Mem → KR → KX → Prop) : KSp := fun vs G M R Z => match vs with
  | [x, y, z, u, t] => f x y z u t G M R Z
  | _ => False
section
variable {vs : List V} {G : Hp} {M : Mem} {R : KR} {Z : KX}
theorem sp1_of {f} (h : sp1 f vs G M R Z) : ∃ x, vs = [x] ∧ f x G M R Z := by
  match vs, h with
  | [x], h => exact ⟨x, rfl, h⟩
theorem sp2_of {f} (h : sp2 f vs G M R Z) : ∃ x y, vs = [x, y] ∧ f x y G M R Z := by
  match vs, h with
  | [x, y], h => exact ⟨x, y, rfl, h⟩
theorem sp3_of {f} (h : sp3 f vs G M R Z) : ∃ x y z, vs = [x, y, z] ∧ f x y z G M R Z := by
  match vs, h with
  | [x, y, z], h => exact ⟨x, y, z, rfl, h⟩
theorem sp4_of {f} (h : sp4 f vs G M R Z) : ∃ x y z u, vs = [x, y, z, u] ∧ f x y z u G M R Z := by
  match vs, h with
  | [x, y, z, u], h => exact ⟨x, y, z, u, rfl, h⟩
theorem sp5_of {f} (h : sp5 f vs G M R Z) : ∃ x y z u t, vs = [x, y, z, u, t] ∧ f x y z u t G M R Z := by
  match vs, h with
  | [x, y, z, u, t], h => exact ⟨x, y, z, u, t, rfl, h⟩
theorem sp_len1 {f} (h : sp1 f vs G M R Z) : vs.length = 1 := by obtain ⟨_, rfl, _⟩ := sp1_of h; rfl
theorem sp_len2 {f} (h : sp2 f vs G M R Z) : vs.length = 2 := by obtain ⟨_, _, rfl, _⟩ := sp2_of h; rfl
theorem sp_len3 {f} (h : sp3 f vs G M R Z) : vs.length = 3 := by obtain ⟨_, _, _, rfl, _⟩ := sp3_of h; rfl
theorem sp_len4 {f} (h : sp4 f vs G M R Z) : vs.length = 4 := by obtain ⟨_, _, _, _, rfl, _⟩ := sp4_of h; rfl
theorem sp_len5 {f} (h : sp5 f vs G M R Z) : vs.length = 5 := by obtain ⟨_, _, _, _, _, rfl, _⟩ := sp5_of h; rfl
end
/-- what a body has at its ends -/
abbrev ends (R : KR) (Z : KX) : Kd := { nx := fun _ G M => wkR R .non G M, rt := wkR R, xc := fun c d _ G M => wkX Z c d G M }
/-! ### small helps -/
section
variable {K : PySem.W.Frag} {G : Hp} {M : Mem} {a p : Addr} {xs : List V} {o : HO} {n : Nat}
theorem lst_n (h : M[n]? = some (a, .lst xs)) : SeqAt' K G M a xs := .inl (.inl (List.mem_of_getElem? h))
theorem lat_n (h : M[n]? = some (a, .lst xs)) : LstAt K G M a xs := .inl (List.mem_of_getElem? h)
theorem lst_g (h : SqL K G a xs) : SeqAt' K G M a xs := .inl (.inr h)
theorem lat_g (h : SqL K G a xs) : LstAt K G M a xs := .inr h
theorem tup_g (h : SqT K G a xs) : SeqAt' K G M a xs := .inr h
theorem at_n (h : M[n]? = some (a, o)) : At G M a o := .inl (List.mem_of_getElem? h)
theorem set_n {x : Addr × HO} (h : M[n]? = some (p, o)) : (M.set n x)[n]? = some x := List.getElem?_set_self (List.getElem?_eq_some_iff.mp h).1
theorem sqt_new {xs : List V} : SqT K (upd G p (.tup xs)) p xs := .inl (.inl upd_same)
theorem sql_new {xs : List V} : SqL K (upd G p (.lst xs)) p xs := .inl (.inl upd_same)
theorem ite2' {c : Bool} {A B : Prop} (h1 : c = true → A) (h2 : c = false → B) : if c = true then A else B := by
  cases c with
  | true => rw [if_pos rfl]; exact h1 rfl
  | false => rw [if_neg Bool.false_ne_true]; exact h2 rfl
theorem sz {n : Nat} (h : n ≤ 16777216) : n ≤ sizeLine := h
theorem tyl_n (h : M[n]? = some (a, .lst xs)) : ∀ H, Hv G M H → tyV K "list" (.ref a) H := fun H hv => .inl ⟨rfl, xs, .inl (.inl (hv.get h))⟩
theorem tyl_g (h : SqL K G a xs) : ∀ H, Hv G M H → tyV K "list" (.ref a) H := fun H hv => .inl ⟨rfl, xs, ex_l hv.exx h⟩
end
/-! ### the law's pool of numbers -/
def pool (c s : Int) : HO := .lst [.int c, .int s]
def PoolOk (s : Int) : Prop := 0 ≤ s ∧ s < 2147483647
def S_law_take (K : PySem.W.Frag) : KSp := sp2 fun x y G M R Z => ∃ (p : Addr) (m : Int) (n : Nat) (c s : Int), x = .ref p ∧ y = .int m ∧ M[n]? = some (p, pool c s) ∧ PoolOk s ∧ 0 < m ∧ m < 2 ^ 200 ∧
  ∀ r c' s', 0 ≤ r → r < m → PoolOk s' → R (.int r) G (M.set n (p, pool c' s'))
def S_law_pool (K : PySem.W.Frag) : KSp := sp2 fun x y G M R Z => ∃ (a : Addr) (ns : List Int) (k : Int), x = .ref a ∧ y = .int k ∧ SqL K G a (ns.map V.int) ∧ 0 ≤ k ∧ k ≤ 100 ∧ ns.length ≤ 63 ∧
  ∀ p c s, Fr G M p → PoolOk s → R (.ref p) G ((p, pool c s) :: M)
end BT
set_option Elab.async false
set_option linter.all false
set_option maxRecDepth 100000
set_option maxHeartbeats 4000000
namespace BT
open PySem PySem.Spec L2
open PyProof.Rows hiding St
/-! ### shapes of data -/
inductive Shp : Nat → PyData → Prop
  | non {n} : Shp n .none
  | bl {n b} : Shp n (.bool b)
  | int {n i} : Shp n (.int i)
  | str {n x} : PyData.strOk x = true → Shp n (.str x)
  | list {n ds} : (∀ d, d ∈ ds → Shp n d) → Shp (n + 1) (.list ds)
  | tuple {n ds} : (∀ d, d ∈ ds → Shp n d) → Shp (n + 1) (.tuple ds)
theorem shp_all {n : Nat} (ih : ∀ d, Shp n d → d.canLay0 = true ∧ d.depth ≤ n) : ∀ ds : List PyData, (∀ d, d ∈ ds → Shp n d) → PyData.canLayAll0 ds = true ∧ PyData.depthAll ds ≤ n
  | [], _ => by
    refine ⟨by simp [PyData.canLayAll0], by simp [PyData.depthAll]⟩
  | d :: ds, h => by
    obtain ⟨a, b⟩ := ih d (h d List.mem_cons_self)
    obtain ⟨c, e⟩ := shp_all ih ds fun x hx => h x (List.mem_cons_of_mem _ hx)
    refine ⟨by simp [PyData.canLayAll0, a, c], ?_⟩
    show max d.depth (PyData.depthAll ds) ≤ n
    omega
theorem shp_of : ∀ (n : Nat) (d : PyData), Shp n d → d.canLay0 = true ∧ d.depth ≤ n
  | n, _, .non => by refine ⟨by simp [PyData.canLay0], by simp [PyData.depth]⟩
  | n, _, .bl => by refine ⟨by simp [PyData.canLay0], by simp [PyData.depth]⟩
  | n, _, .int => by refine ⟨by simp [PyData.canLay0], by simp [PyData.depth]⟩
  | n, _, .str h => by refine ⟨by simp [PyData.canLay0, h], by simp [PyData.depth]⟩
  | n + 1, .list ds, .list h => by
    obtain ⟨a, b⟩ := shp_all (shp_of n) ds h
    refine ⟨by simp [PyData.canLay0, a], ?_⟩
    show PyData.depthAll ds + 1 ≤ n + 1
    omega
  | n + 1, .tuple ds, .tuple h => by
    obtain ⟨a, b⟩ := shp_all (shp_of n) ds h
    refine ⟨by simp [PyData.canLay0, a], ?_⟩
    show PyData.depthAll ds + 1 ≤ n + 1
    omega
theorem Shp.shaped {n : Nat} {d : PyData} (h : Shp n d) (hn : n ≤ 64) : SeqAt.shaped d = true := by
  obtain ⟨a, b⟩ := shp_of n d h
  unfold SeqAt.shaped
  rw [a, decide_eq_true (Nat.le_trans b hn)]; rfl
theorem Shp.refl {n : Nat} {d : PyData} (h : Shp n d) : PyData.eqv d d = true := by
  obtain ⟨a, b⟩ := shp_of n d h
  exact SeqAt.eqv_refl d a
theorem shp_ints {n : Nat} (ns : List Int) : Shp (n + 1) (.list (ns.map .int)) := .list fun d hd => by
  obtain ⟨i, _, rfl⟩ := List.mem_map.mp hd
  exact .int
/-! ### data known -/
section
variable {K : PySem.W.Frag} {G G' : Hp} {M : Mem} {a : Addr} {v : V} {d : PyData} {vs : List V} {ds : List PyData}
def DatAll (K : PySem.W.Frag) (G : Hp) (M : Mem) (vs : List V) (ds : List PyData) : Prop := ∀ H, Hv G M H → DpAll K H vs ds
theorem dat_g (h : Dp K G v d) : DatAt K G M v d := fun H hv => ex_d hv.exx d h
theorem dats_g (h : DpAll K G vs ds) : DatAll K G M vs ds := fun H hv => ex_ds hv.exx ds h
theorem dat_list (h : LstAt K G M a vs) (hs : DatAll K G M vs ds) : DatAt K G M (.ref a) (.list ds) := fun H hv => .lst (hv.lst h) (hs H hv)
theorem dat_tup (h : SqT K G a vs) (hs : DatAll K G M vs ds) : DatAt K G M (.ref a) (.tuple ds) := fun H hv => .tup (hv.tup h) (hs H hv)
theorem dat_int {i : Int} : DatAt K G M (.int i) (.int i) := fun H hv => .int i
theorem dat_bl {i : Bool} : DatAt K G M (.bl i) (.bool i) := fun H hv => .bl i
theorem dat_non : DatAt K G M .non .none := fun H hv => .non
theorem dat_str {i : Str} : DatAt K G M (.str i) (.str i) := fun H hv => .str i
theorem dats_nil : DatAll K G M [] [] := fun H hv => .nil
theorem dats_cons (h : DatAt K G M v d) (hs : DatAll K G M vs ds) : DatAll K G M (v :: vs) (d :: ds) := fun H hv => .cons (h H hv) (hs H hv)
theorem dpall_ints : ∀ ns : List Int, DpAll K G (ns.map V.int) (ns.map PyData.int)
  | [] => .nil
  | n :: ns => .cons (.int n) (dpall_ints ns)
theorem dats_ints {ns : List Int} : DatAll K G M (ns.map V.int) (ns.map PyData.int) := fun H hv => dpall_ints ns
theorem dat_ints {ns : List Int} (h : LstAt K G M a (ns.map V.int)) : DatAt K G M (.ref a) (.list (ns.map .int)) := dat_list h dats_ints
theorem dp_ints {ns : List Int} (h : SqL K G a (ns.map V.int)) : Dp K G (.ref a) (.list (ns.map .int)) := .lst h (dpall_ints ns)
theorem dpall_snoc : ∀ {vs : List V} {ds : List PyData}, DpAll K G vs ds → Dp K G v d → DpAll K G (vs ++ [v]) (ds ++ [d])
  | _, _, .nil, h => .cons h .nil
  | _, _, .cons a b, h => .cons a (dpall_snoc b h)
theorem dpall_len : ∀ {vs : List V} {ds : List PyData}, DpAll K G vs ds → vs.length = ds.length
  | _, _, .nil => rfl
  | _, _, .cons _ b => by simp [dpall_len b]
theorem dpall_get : ∀ {vs : List V} {ds : List PyData} {i : Nat} {d : PyData}, DpAll K G vs ds → ds[i]? = some d → ∃ v, vs[i]? = some v ∧ Dp K G v d
  | _, _, _, _, .nil, e => by simp at e
  | _, _, 0, _, .cons a _, e => by
    rw [List.getElem?_cons_zero] at e
    cases e; exact ⟨_, rfl, a⟩
  | _, _, i + 1, d, .cons _ b, e => by
    obtain ⟨v, h1, h2⟩ := dpall_get (i := i) (d := d) b (by simpa using e)
    exact ⟨v, by simpa using h1, h2⟩
theorem dpall_get' : ∀ {vs : List V} {ds : List PyData} {i : Nat} {v : V}, DpAll K G vs ds → vs[i]? = some v → ∃ d, ds[i]? = some d ∧ Dp K G v d
  | _, _, _, _, .nil, e => by simp at e
  | _, _, 0, _, .cons a _, e => by
    rw [List.getElem?_cons_zero] at e
    cases e; exact ⟨_, rfl, a⟩
  | _, _, i + 1, d, .cons _ b, e => by
    obtain ⟨v, h1, h2⟩ := dpall_get' (i := i) (v := d) b (by simpa using e)
    exact ⟨v, by simpa using h1, h2⟩
theorem dpall_one {x : V} {i : PyData} (h : DpAll K G [x] [i]) : Dp K G x i := by
  cases h with
  | cons a b => exact a
theorem dp_int_inv {i : Int} (h : Dp K G v (.int i)) : v = .int i := by cases h; rfl
theorem dp_tup_inv (h : Dp K G v (.tuple ds)) : ∃ t xs, v = .ref t ∧ SqT K G t xs ∧ DpAll K G xs ds := by
  cases h with
  | tup s a => exact ⟨_, _, rfl, s, a⟩
theorem dp_list_inv (h : Dp K G v (.list ds)) : ∃ t xs, v = .ref t ∧ SqL K G t xs ∧ DpAll K G xs ds := by
  cases h with
  | lst s a => exact ⟨_, _, rfl, s, a⟩
theorem dpall_ints_inv : ∀ {vs : List V} {ns : List Int}, DpAll K G vs (ns.map .int) → vs = ns.map V.int
  | _, [], h => by cases h; rfl
  | _, n :: ns, h => by
    cases h with
    | cons a b =>
      have e := dp_int_inv a
      subst e
      rw [dpall_ints_inv b]; rfl
end
/-! ### pairs of ints -/
def prD (p : Int × Int) : PyData := .tuple [.int p.1, .int p.2]
theorem dp_pr_inv {K : PySem.W.Frag} {G : Hp} {v : V} {p : Int × Int} (h : Dp K G v (prD p)) : ∃ t, v = .ref t ∧ SqT K G t [.int p.1, .int p.2] := by
  obtain ⟨t, xs, rfl, s, a⟩ := dp_tup_inv h
  have e : xs = [V.int p.1, V.int p.2] := dpall_ints_inv (ns := [p.1, p.2]) a
  rw [e] at s
  exact ⟨t, rfl, s⟩
theorem dp_pr {K : PySem.W.Frag} {G : Hp} {t : Addr} {a b : Int} (h : SqT K G t [.int a, .int b]) : Dp K G (.ref t) (prD (a, b)) := .tup h (.cons (.int a) (.cons (.int b) .nil))
theorem shp_prs {n : Nat} (ps : List (Int × Int)) : Shp (n + 2) (.list (ps.map prD)) := .list fun d hd => by
  obtain ⟨p, _, rfl⟩ := List.mem_map.mp hd
  refine .tuple fun d hd => ?_
  rcases List.mem_cons.mp hd with rfl | hd
  · exact .int
  · rcases List.mem_cons.mp hd with rfl | hd
    · exact .int
    · cases hd
/-! ### lists of ints by place -/
section
theorem atI_int {ns : List Int} {k : Int} (h0 : 0 ≤ k) (h1 : k < ns.length) : atI (ns.map V.int) k = some (.int (ns.getD k.toNat 0)) := by
  obtain ⟨j, rfl⟩ : ∃ j : Nat, k = j := ⟨k.toNat, by omega⟩
  have hj : j < ns.length := by omega
  refine atI_nat ?_
  rw [List.getElem?_map, List.getElem?_eq_getElem hj, Int.toNat_natCast, List.getD_eq_getElem?_getD, List.getElem?_eq_getElem hj]; rfl
theorem ixN_int {n : Nat} {k : Int} (h0 : 0 ≤ k) (h1 : k < n) : ixN n k = some k.toNat := by
  unfold ixN
  rw [if_pos h0, if_pos h1]
theorem map_set_int {ns : List Int} {j : Nat} {i : Int} : (ns.map V.int).set j (.int i) = (ns.set j i).map V.int := by rw [List.map_set]
theorem lat_cons {K : PySem.W.Frag} {G : Hp} {M : Mem} {a : Addr} {xs : List V} {x : Addr × HO} (h : LstAt K G M a xs) : LstAt K G (x :: M) a xs := by
  rcases h with h | h
  · exact .inl (List.mem_cons_of_mem _ h)
  · exact .inr h
theorem lat_ex {K : PySem.W.Frag} {G G' : Hp} {M : Mem} {a : Addr} {xs : List V} (e : Ex G G') (h : LstAt K G M a xs) : LstAt K G' M a xs := by
  rcases h with h | h
  · exact .inl h
  · exact .inr (ex_l e h)
theorem lat_0 {K : PySem.W.Frag} {G : Hp} {M : Mem} {a : Addr} {xs : List V} : LstAt K G ((a, .lst xs) :: M) a xs := .inl List.mem_cons_self
theorem seq_0 {K : PySem.W.Frag} {G : Hp} {M : Mem} {a : Addr} {xs : List V} : SeqAt' K G ((a, .lst xs) :: M) a xs := .inl lat_0
theorem isi_list {K : PySem.W.Frag} {G : Hp} {M : Mem} {a : Addr} {xs : List V} {R : KR} {n : Nat} (h : M[n]? = some (a, .lst xs)) (q : R (.bl true) G M) : kIsi K [.ref a, .ty "list"] G M R :=
  ⟨.type "list", .type "list", true, .ty "list", fun H hv => .base (.lst (hv.get h)), kit_ty (by decide +kernel), q⟩
theorem mul_l {i j : Int} (h0 : -(2 ^ 64) < i) (h1 : i < 2 ^ 64) : MulOk i j := .inl (.inl ⟨h0, h1⟩)
theorem mul_r {i j : Int} (h0 : -(2 ^ 64) < j) (h1 : j < 2 ^ 64) : MulOk i j := .inl (.inr ⟨h0, h1⟩)
theorem divW {m : Int} (h0 : 0 < m) (h1 : m < 2 ^ 200) (c : Int) : CDivW c m := wide_div (b := 200) h0 (by omega) (by decide) (by decide)
theorem sz0 : (0 : Nat) ≤ sizeLine := by decide
theorem sz1 : (1 : Nat) ≤ sizeLine := by decide
theorem sz2 : (2 : Nat) ≤ sizeLine := by decide
theorem sz3 : (3 : Nat) ≤ sizeLine := by decide
theorem sz4 : (4 : Nat) ≤ sizeLine := by decide
theorem sz5 : (5 : Nat) ≤ sizeLine := by decide
theorem sz6 : (6 : Nat) ≤ sizeLine := by decide
theorem sz7 : (7 : Nat) ≤ sizeLine := by decide
theorem sz8 : (8 : Nat) ≤ sizeLine := by decide
theorem pow10_18 : CPow 10 18 := ⟨by decide, by decide, by decide⟩
end
end BT
namespace BT
open PySem PySem.Spec L2
section
variable {K : PySem.W.Frag} {G : Hp} {M : Mem} {a b : Addr} {vs ws : List V} {i : Nat} {v u : V} {g : KG} {σ : St} {R : St → Hp → Mem → Prop}
theorem asg_L (h : vs[i]? = some v) (q : g.val v σ G M R) : asg g ((srcL K a vs).get i) σ G M R := by
  show g.val (vs.getD i .non) σ G M R
  rw [getD_of h]; exact q
theorem asg_T (h : vs[i]? = some v) (q : g.val v σ G M R) : asg g ((srcT K a vs).get i) σ G M R := by
  show g.val (vs.getD i .non) σ G M R
  rw [getD_of h]; exact q
theorem asg_V (h : vs[vs.length - 1 - i]? = some v) (q : g.val v σ G M R) : asg g ((srcV K a vs).get i) σ G M R := by
  show g.val (vs.getD (vs.length - 1 - i) .non) σ G M R
  rw [getD_of h]; exact q
theorem asg_E (h : vs[i]? = some v) (q : g.tup [.int i, v] σ G M R) : asg g ((srcE K a vs).get i) σ G M R := by
  show g.tup [.int i, vs.getD i .non] σ G M R
  rw [getD_of h]; exact q
theorem asg_Z (h : vs[i]? = some v) (h2 : ws[i]? = some u) (q : g.tup [v, u] σ G M R) : asg g ((srcZ K a b vs ws).get i) σ G M R := by
  show g.tup [vs.getD i .non, ws.getD i .non] σ G M R
  rw [getD_of h, getD_of h2]; exact q
theorem dpall_at {ds : List PyData} {d : PyData} (h : DpAll K G vs ds) (e : ds[i]? = some d) : ∃ v, vs[i]? = some v ∧ Dp K G v d := dpall_get h e
end
end BT
namespace BT
open PySem PySem.Spec L2
/-- a cell becomes frozen -/
theorem frz {G : Hp} {M : Mem} {p : Addr} (o : HO) (h : Fr G M p) : ∃ G', Ex G G' ∧ G' p = some o ∧ Wk G ((p, o) :: M) G' M ∧ ∀ q M0, Fr G M0 q → q ≠ p → Fr G' M0 q :=
  ⟨upd G p o, Ex.new h, upd_same, Wk.frz0, fun q M0 f hq => ⟨by rw [upd_ne hq]; exact f.1, f.2⟩⟩
theorem Wk.nil' {G : Hp} {M : Mem} : Wk G M G [] := fun H h => ⟨h.ex, fun _ z => (nomatch z), List.nodup_nil, fun _ z => (nomatch z)⟩
theorem sql_of {K : PySem.W.Frag} {G : Hp} {a : Addr} {xs : List V} (h : G a = some (.lst xs)) : SqL K G a xs := .inl (.inl h)
theorem sqt_of {K : PySem.W.Frag} {G : Hp} {a : Addr} {xs : List V} (h : G a = some (.tup xs)) : SqT K G a xs := .inl (.inl h)
theorem Fr.cons {G : Hp} {M : Mem} {p : Addr} {x : Addr × HO} (h : Fr G (x :: M) p) : Fr G M p := ⟨h.1, fun y hy => h.2 y (List.mem_cons_of_mem _ hy)⟩
end BT
set_option Elab.async false
set_option linter.all false
set_option maxRecDepth 100000
set_option maxHeartbeats 4000000
namespace BT
open PySem PySem.Spec L2
open PyProof.Rows hiding St
/-- the slots at a body's start -/
def sta (n : Nat) (vs : List V) : St := vs.map some ++ List.replicate (n - vs.length) none
/-! ### ranges with a step -/
theorem rg_up {i j c : Int} (hc : 0 < c) (hc2 : c < 1000000) (hi : -1000000000000 < i) (hi2 : i < 1000000000000) (hj : -1000000000000 < j) (hj2 : j < 1000000000000) :
    RgC i j c (if i < j then ((j - i - 1) / c + 1).toNat else 0) := by
  have e : Builtin.Range.rangeSize i j c = if i < j then (j - i - 1) / c + 1 else 0 := by
    unfold Builtin.Range.rangeSize
    rw [if_pos hc]
  have hb : 0 ≤ (j - i - 1) / c ∨ ¬ i < j := by
    by_cases h : i < j
    · exact .inl (Int.ediv_nonneg (by omega) (by omega))
    · exact .inr h
  have hb2 : (j - i - 1) / c ≤ 2000000000000 ∨ ¬ i < j := by
    by_cases h : i < j
    · left
      have := Int.ediv_le_self c (show 0 ≤ j - i - 1 by omega)
      omega
    · exact .inr h
  refine ⟨by omega, by omega, ?_, ?_⟩
  · unfold Builtin.Range.small
    rw [e]
    simp only [Builtin.Range.rangeFitsLong, Bool.and_eq_true, Bool.or_eq_true, decide_eq_true_eq, beq_iff_eq, hc, gt_iff_lt, if_true]
    by_cases h : i < j
    · rw [if_pos h]; omega
    · rw [if_neg h]; omega
  · rw [e]
    by_cases h : i < j
    · rw [if_pos h, if_pos h]; omega
    · rw [if_neg h, if_neg h]; rfl
theorem rg_down {i j : Int} (hi : -1000000000000 < i) (hi2 : i < 1000000000000) (hj : -1000000000000 < j) (hj2 : j < 1000000000000) : RgC i j (-1) (i - j).toNat :=
  RgC.neg (by omega) (by omega) (by omega) (by omega)
section
variable {X : Cx} {W : WX} {pos : Pos} {a b c e : Expr} {es : List Expr}
/-! ### sorted, xs[::-1] -/
def kSorted (K : PySem.W.Frag) : KC := fun vs G M R => match vs with
  | [.ref a] => ∃ ns : List Int, LstAt K G M a (ns.map V.int) ∧ ∀ (ns' : List Int) (p : Addr), ns'.Perm ns → ns'.Pairwise (· ≤ ·) → Fr G M p → R (.ref p) G ((p, .lst (ns'.map V.int)) :: M)
  | _ => False
theorem kc_sorted : KCall X (.builtin "sorted") (kSorted X.K) := kcall_of cr_sortedI fun vs G M R H Q hv h hR => by
  match vs, h with
  | [.ref a], ⟨ns, h1, h2⟩ => exact ⟨a, ns, rfl, hv.lst h1, fun ns' p q1 q2 q3 => hR _ G _ _ (hv.newM q3) (h2 ns' p q1 q2 (hv.fr q3))⟩
def kRevL (K : PySem.W.Frag) : V → Hp → Mem → KR → Prop := fun x G M R => match x with
  | .ref a => ∃ xs, LstAt K G M a xs ∧ ∀ p, Fr G M p → R (.ref p) G ((p, .lst xs.reverse) :: M)
  | _ => False
theorem je_revl {t : KE} {k : Nat} {p1 p2 p3 : Pos} (he : JE X W e t) : JE X W (.Subscript e (.Slice none none (some (.UnaryOp .USub (.Constant (.int 1) k p1) p2)) p3) pos) (kUn (kRevL X.K) t) :=
  pe_mono (pe_revL he) fun σ H Q ⟨G, M, R, E, hv, h, hR, hE⟩ => ⟨G, M, _, E, hv, h, fun x G1 M1 H1 hv1 h1 => by
    match x, h1 with
    | .ref a, ⟨xs, q1, q2⟩ => exact ⟨a, xs, rfl, hv1.lst q1, fun p hp => hR _ G1 _ _ (hv1.newM hp) (q2 p (hv1.fr hp))⟩, hE⟩
/-! ### in, not in: flat things in a list or a tuple -/
def kIn (neg : Bool) (K : PySem.W.Frag) : KR2 := fun x y G M R => match y with
  | .ref a => ∃ xs, SeqAt' K G M a xs ∧ flatV x = true ∧ xs.all flatV = true ∧ R (.bl (if neg then !inV x xs else inV x xs)) G M
  | _ => False
theorem kop_in : KOp X (compareOp .In) (kIn false X.K) := kop_of op_in_seq fun x y G M R H Q hv h hR => by
  match y, h with
  | .ref a, ⟨xs, h1, h2, h3, h4⟩ => exact ⟨a, xs, rfl, h1.elim (fun q => .inl (hv.lst q)) (fun q => .inr (hv.tup q)), h2, h3, hR _ G M H hv h4⟩
theorem kop_notin : KOp X (compareOp .NotIn) (kIn true X.K) := kop_of op_notIn_seq fun x y G M R H Q hv h hR => by
  match y, h with
  | .ref a, ⟨xs, h1, h2, h3, h4⟩ => exact ⟨a, xs, rfl, h1.elim (fun q => .inl (hv.lst q)) (fun q => .inr (hv.tup q)), h2, h3, hR _ G M H hv h4⟩
/-! ### list.index, list.insert, tuple(xs), bool(x), list(range) -/
def kIndex (K : PySem.W.Frag) : KM := fun x vs G M R => match x, vs with
  | .ref a, [y] => ∃ ys j z, LstAt K G M a ys ∧ flatV y = true ∧ ys.all flatV = true ∧ ys[j]? = some z ∧ eqV z y = true ∧ (∀ m z', m < j → ys[m]? = some z' → eqV z' y = false) ∧ R (.int (j : Nat)) G M
  | _, _ => False
end
end BT
namespace BT
open PySem PySem.Spec L2
open PyProof.Rows hiding St
theorem rg_mul {i c : Int} {n : Nat} (hc : 0 < c) (hc2 : c < 1000000) (hi : -1000000000 < i) (hi2 : i < 1000000000) (hn : n < 100000) : RgC i (i + c * n) c n := by
  have hm : c * n < 100000000000 := by
    have h1 : c * (n : Int) ≤ 1000000 * (n : Int) := Int.mul_le_mul_of_nonneg_right (by omega) (by omega)
    omega
  have hm0 : 0 ≤ c * n := Int.mul_nonneg (by omega) (by omega)
  have q := rg_up (i := i) (j := i + c * n) hc hc2 (by omega) (by omega) (by omega) (by omega)
  have e : (if i < i + c * n then ((i + c * n - i - 1) / c + 1).toNat else 0) = n := by
    cases n with
    | zero => rw [if_neg (by simp)]
    | succ k =>
      have hk : 0 < c * ((k + 1 : Nat) : Int) := Int.mul_pos hc (by omega)
      rw [if_pos (by omega)]
      have e1 : i + c * ((k + 1 : Nat) : Int) - i - 1 = (c - 1) + c * (k : Int) := by
        rw [show ((k + 1 : Nat) : Int) = (k : Int) + 1 by omega, Int.mul_add]; omega
      rw [e1, ((Int.ediv_emod_unique hc).mpr ⟨rfl, by omega, by omega⟩).1]
      omega
  rw [e] at q
  exact q
theorem fn_false {P : Program} {w : World} {K : PySem.W.Frag} {mg : Str → Option Value} {base : Heap} {CX : CXT} {k : Nat} {f : Addr} {fd : FuncData} {ps : List Str} {S : KSp} (h : ∀ vs G M R Z, ¬ S vs G M R Z) : FnOk P w K mg base CX k f fd ps (lift S) :=
  ⟨fun vs H Q E ⟨G, M, R, Z, _, q, _⟩ => (h vs G M R Z q).elim, fun A outer s H args us vs Q E _ _ _ _ ⟨G, M, R, Z, _, q, _⟩ => (h vs G M R Z q).elim⟩
theorem cx_none {P : Program} {w : World} {l : List Env} {H : Hp} {s : Shared} {e : Value} {s' : Shared} (h : L2.CX P w l H s (fun _ _ _ => False) e s') : False := by
  obtain ⟨_, _, _, _, _, _, _, _, _, _, _, _, z⟩ := h
  exact z.elim
/-- a law's promise -/
def S_law (K : PySem.W.Frag) : KSp := sp1 fun x G M R Z => ∃ (a : Addr) (ns : List Int), x = .ref a ∧ SqL K G a (ns.map V.int) ∧ ns.length ≤ 63 ∧ ∀ G' M', R (.bl true) G' M'
theorem law_start {K : PySem.W.Frag} {H : Hp} {a : Addr} {ns : List Int} (hl : ns.length ≤ 63) (hS : SqL K H a (ns.map V.int)) : lift (S_law K) [.ref a] H (fun v _ => v = .bl true) fun _ _ _ => False :=
  ⟨H, [], fun v _ _ => v = .bl true, fun _ _ _ _ => False, Hv.self H, ⟨a, ns, rfl, hS, hl, fun _ _ => rfl⟩, fun _ _ _ _ _ h => h, fun _ _ _ _ _ _ z => z⟩
end BT
namespace BT
open PySem PySem.Spec L2
open PyProof.Rows hiding St
/-! ### is of None and of truths -/
def kIs2 (neg : Bool) : KR2 := fun x y G M R => match x, y with
  | .bl a, .bl b => R (.bl (if neg then !decide (a = b) else decide (a = b))) G M
  | x, .non => R (.bl (if neg then !decide (x = .non) else decide (x = .non))) G M
  | _, _ => False
theorem kop_is2 {X : Cx} : KOp X (compareOp .Is) (kIs2 false) := fun pins s σ H x y v u Q G M R I rx ry hv h hR => by
  cases y <;> cases x <;> first
    | exact op_isBl pins s σ H _ _ v u Q I rx ry ⟨_, _, rfl, rfl, hR _ G M H hv h⟩
    | exact op_isN pins s σ H _ _ v u Q I rx ry ⟨rfl, hR _ G M H hv h⟩
    | exact h.elim
theorem kop_isnot2 {X : Cx} : KOp X (compareOp .IsNot) (kIs2 true) := fun pins s σ H x y v u Q G M R I rx ry hv h hR => by
  cases y <;> cases x <;> first
    | exact op_notBl pins s σ H _ _ v u Q I rx ry ⟨_, _, rfl, rfl, hR _ G M H hv h⟩
    | exact op_notN pins s σ H _ _ v u Q I rx ry ⟨rfl, hR _ G M H hv h⟩
    | exact h.elim
/-! ### types of values -/
inductive PT | int | bool | non | str | list | tuple | dict
  deriving DecidableEq
def PT.name : PT → String
  | .int => "int" | .bool => "bool" | .non => "NoneType" | .str => "str" | .list => "list" | .tuple => "tuple" | .dict => "dict"
def TyK (K : PySem.W.Frag) (G : Hp) (M : Mem) (x : V) (T : PT) : Prop := ∀ H, Hv G M H → TyX K H x (.type T.name)
section
variable {K : PySem.W.Frag} {G : Hp} {M : Mem} {a : Addr} {xs : List V} {n : Nat}
theorem ty_int {i : Int} : TyK K G M (.int i) .int := fun H hv => .base (.int i)
theorem ty_bl {i : Bool} : TyK K G M (.bl i) .bool := fun H hv => .base (.bl i)
theorem ty_non : TyK K G M .non .non := fun H hv => .base .non
theorem ty_str {i : Str} : TyK K G M (.str i) .str := fun H hv => .base (.str i)
theorem ty_lst (h : LstAt K G M a xs) : TyK K G M (.ref a) .list := fun H hv => by
  rcases hv.lst h with (z | ⟨o, z⟩) | ⟨o, its, m, z1, z2, _⟩
  · exact .base (.lst z)
  · exact .base (.frz z)
  · exact .kList z1 z2
theorem ty_tup (h : SqT K G a xs) : TyK K G M (.ref a) .tuple := fun H hv => by
  rcases hv.tup h with (z | ⟨o, z⟩) | ⟨o, its, m, z1, z2, _⟩
  · exact .base (.tup z)
  · exact .fTuple z
  · exact .kTuple z1 z2
theorem ty_dict {kvs : List (Key × V)} (h : At G M a (.dK kvs)) : TyK K G M (.ref a) .dict := fun H hv => .base (.dK (hv.at h))
/-- isinstance(x, T): both answers -/
def isaB (T U : PT) : Bool := T == U || (T == .bool && U == .int)
theorem kit_pt (T U : PT) : PySem.W.kitOne K (.type T.name) (.type U.name) = some (isaB T U) := by
  cases T <;> cases U <;> exact kit_ty (by decide +kernel)
theorem isi_pt {x : V} {T : PT} {R : KR} (U : PT) (h : TyK K G M x T) (q : R (.bl (isaB T U)) G M) : kIsi K [x, .ty U.name] G M R :=
  ⟨.type T.name, .type U.name, _, .ty U.name, h, kit_pt T U, q⟩
end
end BT
namespace BT
open PySem PySem.Spec L2
/-! ### steps by name -/
section
variable {D : Kd} {σ : St} {G : Hp} {M : Mem} {i : Nat} {te ta tb : KE}
theorem kset_of (h : te σ G M (fun v G M => D.nx (σ.set i (some v)) G M) (D.x σ)) : kSet i te D σ G M := h
theorem kret_of (h : te σ G M D.rt (D.x σ)) : kRet te D σ G M := h
theorem kexpr_of (h : te σ G M (fun _ G M => D.nx σ G M) (D.x σ)) : kExpr te D σ G M := h
theorem kbin_of {β : Type} {k : V → V → Hp → Mem → (β → Hp → Mem → Prop) → Prop} {R : β → Hp → Mem → Prop} {E : KX} (h : ta σ G M (fun x G M => tb σ G M (fun y G M => k x y G M R) E) E) : kBin k ta tb σ G M R E := h
theorem kcb_of {k : KC} {t : KA} {R : KR} {E : KX} (h : t σ G M (fun vs G M => k vs G M R) E) : kCB k t σ G M R E := h
theorem kcons_of {t : KE} {u : KA} {R : List V → Hp → Mem → Prop} {E : KX} (h : t σ G M (fun x G M => u σ G M (fun xs G M => R (x :: xs) G M) E) E) : kCons t u σ G M R E := h
end
end BT
set_option Elab.async false
set_option linter.all false
set_option maxRecDepth 100000
set_option maxHeartbeats 4000000
namespace BT
open PySem PySem.Spec L2
open PyProof.Rows hiding St
/-! ### own errors: raised, caught, held -/
/-- the address of a class, by its name -/
def cl (K : PySem.W.Frag) (x : Str) : Addr := match PySem.W.nsIn K mainGlobals x with
  | some (some (.ref a)) => a
  | _ => 0
theorem cl_of {K : PySem.W.Frag} {x : Str} {C : Addr} (a : PySem.W.nsIn K mainGlobals x = some (some (.ref C))) : cl K x = C := by
  unfold cl
  rw [a]
/-- a class that is known -/
structure XG (K : PySem.W.Frag) (mg : Str → Option Value) (x : Str) : Prop where
  g : mg x = some (.ref (cl K x))
  k : PySem.W.keepIn K (.ref (cl K x)) = true
/-- a class without own __init__ under ValueError, to be raised -/
structure XR (K : PySem.W.Frag) (x : Str) : Prop where
  n : PySem.W.excIn K (cl K x) [.type "ValueError", .type "Exception", .type "BaseException", .type "object"] "ValueError.__new__" = true
  b : PySem.W.subIn K (.ref (cl K x)) (.type "BaseException") = some true
  t : PySem.W.typeIn K (.ref (cl K x)) = some (.type "type")
theorem xg_mk {K : PySem.W.Frag} {mg : Str → Option Value} {h : Heap} {x : Str} {C : Addr} (X : K.In h) (G : h.Ns mainGlobals mg) (a : PySem.W.nsIn K mainGlobals x = some (some (.ref C))) (k : PySem.W.keepIn K (.ref C) = true) : XG K mg x := by
  have e := cl_of a
  exact ⟨by rw [e]; exact PySem.W.mg_of X G a, by rw [e]; exact k⟩
theorem xr_mk {K : PySem.W.Frag} {x : Str} {C : Addr} (a : PySem.W.nsIn K mainGlobals x = some (some (.ref C)))
    (q : PySem.W.excIn K C [.type "ValueError", .type "Exception", .type "BaseException", .type "object"] "ValueError.__new__" = true)
    (b : PySem.W.subIn K (.ref C) (.type "BaseException") = some true) (t : PySem.W.typeIn K (.ref C) = some (.type "type")) : XR K x := by
  have e := cl_of a
  exact ⟨by rw [e]; exact q, by rw [e]; exact b, by rw [e]; exact t⟩
theorem xe_mk {K : PySem.W.Frag} {x : Str} {C : Addr} (a : PySem.W.nsIn K mainGlobals x = some (some (.ref C))) (q : ExcC K C) : ExcC K (cl K x) := by
  rw [cl_of a]
  exact q
section
variable {X : Cx} {W : WX} {pos : Pos}
/-- raise C('m') -/
def kRaise (K : PySem.W.Frag) (x : Str) : KS := fun D σ G M => D.xc (.ref (cl K x)) none σ G M
theorem js_raise {x m : Str} {j : Nat} {p p2 pos2 : Pos} (g : XG X.K X.mg x) (r : XR X.K x) (tk : Takes X W) (hc : X.calm = true := by rfl) (hg : Gl X x := by rfl) (hdb : (x == ("__debug__" : Str)) = false := by decide) :
    JS X W (.Raise (some (.Call (.Name x p) [.Constant (.str m) j p2] [] pos2)) none pos) (kRaise X.K x) :=
  ps_mono (ps_raise hc tk (pmk_own PySem.F.excBase_ValueError r.n g.g g.k (raises_own r.b r.t) hg hdb)) fun D σ H ⟨G, M, d, hv, h, en⟩ => en.xc _ _ _ _ _ _ hv h

/-- a caught error that is held: its class and its dict -/
def ExT (cls : Value) (d : Option Addr) (a : Addr) : HO := .ext fun h => ∃ (oe : Obj) (vs : Array Value), h.get? a = some oe ∧ Zc cls d oe ∧ oe.data = .fields vs
theorem exT_ok {P : Program} {w : World} {H : Hp} {h : Heap} {a : Addr} {cls : Value} {d : Option Addr} {oe : Obj} {vs : Array Value} (e : h.get? a = some oe) (z : Zc cls d oe) (q : oe.data = .fields vs) : ObjOk P w H h a (ExT cls d a) :=
  ⟨⟨oe, vs, e, z, q⟩, ⟨oe, e⟩, fun _ _ ⟨o, v, q, r⟩ k => ⟨o, v, k o q, r⟩⟩
/-- an object that nobody tracked is tracked from here on -/
theorem inv_track {pins : List (Addr × Obj)} {σ : St} {H : Hp} {s : Shared} {a : Addr} {o : HO} (I : Inv X pins σ H s) (n : H a = none) (n0 : X.s_0.heap.get? a = none) (nl : a ≠ X.env.locals)
    (nc : ∀ y c, X.env.cells.lookup y = some c → c ≠ a) (np : ∀ p ∈ X.pn ++ pins, p.1 ≠ a) (new : ObjOk X.prog X.w (upd H a o) s.heap a o) : Inv X pins σ (upd H a o) s := by
  have ne : ∀ b u, H b = some u → b ≠ a := fun b u e z => by
    rw [z, n] at e
    cases e
  refine ⟨I.ok, I.os, I.bare, ⟨I.base.keep, I.base.slot, fun b u e m x => ?_, I.base.there, fun b xs e => ?_, fun b u v e => ?_, fun b ps e => ?_⟩, I.loc, I.cell, ?_, fun y c e => ?_, fun p hp => ?_, fun b u e => ?_, I.len⟩
  · rw [upd_ne (fun z => by rw [z, n0] at e; cases e)]
    exact I.base.free b u e m x
  · have q := I.base.tups b xs e
    rw [upd_ne (ne b _ q)]
    exact q
  · have q := I.base.frzs b u v e
    rw [upd_ne (ne b _ q)]
    exact q
  · obtain ⟨m, q⟩ := I.base.tbls b ps e
    exact ⟨m, by rw [upd_ne (ne b _ q)]; exact q⟩
  · rw [upd_ne (Ne.symm nl)]
    exact I.free
  · rw [upd_ne (nc y c e)]
    exact I.freeC y c e
  · obtain ⟨p1, p2, p3, p4, p5⟩ := I.pin p hp
    exact ⟨p1, by rw [upd_ne (np p hp)]; exact p2, p3, p4, p5⟩
  · by_cases hb : b = a
    · subst hb
      rw [upd_same] at e
      cases e
      exact new
    · rw [upd_ne hb] at e
      exact (I.hok b u e).stay (fun c v _ q => q) (fun c q => by rw [upd_ne (ne c _ q)]; exact q) fun c xs q => by rw [upd_ne (ne c _ q)]; exact q
end

/-- what 'except x as n: y = n' wishes of an error of the body -/
def wKeep (K : PySem.W.Frag) (c : Value) (i j : Nat) (Wout : WX) (D : Ends) : WX := fun cls d σ H => ∃ b, PySem.W.exmOne K cls c = some b ∧
  (b = true → ∀ a, H a = none → D.nx (((σ.set i (some (.ref a))).set j (some (.ref a))).set i none) (upd H a (ExT cls d a))) ∧ (b = false → Wout cls d σ H)
section
variable {X : Cx} {x n y : Str} {c : Value} {i j : Nat} {body : List Stmt} {np pos pos' q1 q2 q3 : Pos} {tb : WX → TS} {Wout : WX}
theorem ps_try_keep (hs : X.stack = X.env :: X.outer) (hf : X.env.frame = some X.env.locals) (hx : X.ex = []) (hN : X.N.Nodup) (hi : X.N[i]? = some n) (hj : X.N[j]? = some y) (hln : X.env.kindOf n = some .local) (hlj : Loc X.env.scope y) (hij : i ≠ j)
    (hfy : X.fn y = true ∨ X.env.scope.names.lookup y = some .local) (hdn : (n == ("__debug__" : Str)) = false) (hcn : (n == ("__classdict__" : Str)) = false)
    (hsw : swapsWith (.Name n q2) (some (.Name y q1)) q3.line X.env = pure false) (hc : Names X x c) (tk : Takes X Wout)
    (hb : ∀ (W : WX) (pn : List (Addr × Obj)) (xe : Value → Shared → Prop), Takes (X.tr pn xe) W → PassesOwn (model X.prog X.w) X.A X.env xe → PSs (X.tr pn xe) body (tb W)) :
    PS X (.Try body [.ExceptHandler (some (.Name x np)) (some n) [.Assign [.Name y q1] (.Name n q2) q3] pos'] [] [] pos) (fun D σ H => tb (wKeep X.K c i j Wout D) D σ H) := by
  refine ⟨fun pins s σ H D I h => ?_⟩
  have ok := I.ok
  have fr0 : X.A.frames = some (X.env :: X.outer) := by rw [ok.frames, hs]
  refine wpAny_Try_except ?_
  refine wpAny_mono ((hb (wKeep X.K c i j Wout D) (X.pn ++ pins) _ (fun u s' xx => ?_) PassesOwn.looking).run [] s σ H D (I.toTry _) h) (fun f s1 hsp => ?_) (fun e s1 he => he)
  · obtain ⟨a, B, sI, pins', σ', H', cls, d, rfl, J', nb, up, sky, na, os, ag, b, hb1, hyes, hno⟩ := xx
    have J : Inv X pins σ' H' sI := J'.ofTry ok
    have sky2 : Sky B (X.env :: X.outer) a (Zc cls d) X.env.locals s'.heap := by
      rw [← hs]
      exact sky
    show wpAny (model X.prog X.w) X.A (noteFrame (.ref a) X.env) _ _ _
    refine Sky.land Zc.steady fr0 hf sky2 fun h3 fl3 up3 => ?_
    have J3 : Inv X pins σ' H' { s' with heap := h3 } := J.landed nb fl3.1 (up.trans up3) os ag
    obtain ⟨oe3, vs3, he3, hz3, hd3⟩ := fl3.there
    have nfr : a ∉ frs (X.env :: X.outer) := fun hm => by
      obtain ⟨_, o', e', hnf⟩ := fl3.2.2.1.mem hm
      rw [he3] at e'
      cases e'
      exact hnf _ hd3
    have nL : a ≠ X.env.locals := fun z => nfr (List.mem_filterMap.mpr ⟨X.env, List.mem_cons_self, by rw [hf, z]⟩)
    have nF : a ∉ X.fs := fun hm => by
      obtain ⟨e, he, q⟩ := List.mem_filterMap.mp hm
      exact nfr (List.mem_filterMap.mpr ⟨e, List.mem_cons_of_mem _ he, q⟩)
    have nI : sI.heap.get? a = none := by
      cases e : sI.heap.get? a with
      | none => rfl
      | some o =>
        have z := nb a o e (by rw [hs]; exact nfr)
        rw [fl3.2.1] at z
        cases z
    have n0 : X.s_0.heap.get? a = none := by
      cases e : X.s_0.heap.get? a with
      | none => rfl
      | some o =>
        obtain ⟨o', z⟩ := J.base.there a o e (by rw [hx]; exact fun z => nomatch z)
        rw [nI] at z
        cases z
    have nc : ∀ w c, X.env.cells.lookup w = some c → c ≠ a := fun w c e z => by
      obtain ⟨v, o, ho, _⟩ := J.cell w c e
      rw [z, nI] at ho
      cases ho
    have npn : ∀ p ∈ X.pn ++ pins, p.1 ≠ a := fun p hp z => by
      obtain ⟨q, _⟩ := J.pin p hp
      rw [z, nI] at q
      cases q
    have S3 := J3.suite he3 hd3 na nL nF
    refine wpAny_handleBy_cons (codeAny_handlers_test ?_) (by intro q; cases q)
    have LT : PySem.W.Looks (model X.prog X.w) h3 (typeOf (.ref a)) cls := fun A Q E s k q => wpAny_typeOf_ref (k _ _ he3) (by rw [hz3.1]; exact q)
    have LM := PySem.W.exm_one (M := model X.prog X.w) (J3.kIn) LT hb1
    have look : ∀ {Q : Value → Shared → Prop} {E : Value → Shared → Prop}, Q c { s' with heap := h3 } → wpAny (model X.prog X.w) (X.A.mark (some (.ref a))) (eval (.Name x np) X.env) Q E { s' with heap := h3 } := fun {Q E} q => by
      obtain ⟨hg, hdbg, hm | ⟨hm, hv, hnn⟩⟩ := hc
      · exact ld_glob (X := X.suite a ((a, oe3) :: (X.pn ++ pins))) S3 hg hm q hdbg
      · exact ld_blt (X := X.suite a ((a, oe3) :: (X.pn ++ pins))) S3 hg hm hv q hnn hdbg
    refine look (LM.here ?_)
    cases b with
    | true =>
      refine codeAny_handlers_suite_as ?_
      refine HandSPX.lands_againZ fl3 fun h4 fl4 up4 => ?_
      have J4 : Inv X pins σ' H' { s' with heap := h4 } := J.landed nb fl4.1 ((up.trans up3).trans up4) os ag
      obtain ⟨oe4, vs4, he4, hz4, hd4⟩ := fl4.there
      have S4 := J4.suite he4 hd4 na nL nF
      refine store_ok (X := X.suite a ((a, oe4) :: (X.pn ++ pins))) (v := .ref a) S4 hN hi (.inl hln) rfl (fun s5 S5 => ?_) (.inr hln)
      have lenσ : σ'.length = X.N.length := J.len
      have hiσ : i < σ'.length := by
        rw [lenσ]
        exact (List.getElem?_eq_some_iff.mp hi).1
      have P1 : PSs (X.suite a ((a, oe4) :: (X.pn ++ pins))) [.Assign [.Name y q1] (.Name n q2) q3] (tSeq (tAsg (tVar i) (gName j)) tNext) :=
        pss_cons (ps_set hN hj hlj (pe_var hi (.inl hln) hdn hcn) hsw hfy) pss_nil
      refine wpAny_mono (P1.run [] s5 (σ'.set i (some (.ref a))) H' { nx := fun σ6 H6 => σ6 = (σ'.set i (some (.ref a))).set j (some (.ref a)) ∧ H6 = H', rt := fun _ _ => False, bk := fun _ _ => False, ct := fun _ _ => False } S5 ?_) (fun f s6 hsp => ?_) (fun _ _ z => False.elim z)
      · exact ⟨.ref a, by rw [List.getElem?_set_self hiσ], rfl, rfl⟩
      · cases f with
        | next =>
          obtain ⟨σ6, H6, S6, rfl, rfl⟩ := hsp
          refine gone_ok (X := X.suite a ((a, oe4) :: (X.pn ++ pins))) S6 hN hi hln fun s7 S7 => ?_
          obtain ⟨k1, k2, _⟩ := S7.pin (a, oe4) (List.mem_append.mpr (.inl List.mem_cons_self))
          exact ⟨_, _, inv_track (S7.unsuite ok) na n0 nL nc npn (exT_ok k1 hz4 hd4), hyes rfl a na⟩
        | brk => obtain ⟨_, _, _, z⟩ := hsp; exact z.elim
        | cont => obtain ⟨_, _, _, z⟩ := hsp; exact z.elim
        | ret u => obtain ⟨_, _, _, _, _, z⟩ := hsp; exact z.elim
    | false =>
      show wpAny _ X.A (handleBy (.ref a) X.env []) _ _ _
      refine wpAny_handleBy_nil ?_
      obtain ⟨k1, k2, k3, oe, vs, T, oT, ts', he, hz, hd, h1, hr⟩ := id fl3
      unfold PySem.passOn
      refine wpAny_bind (wpAny_field he hd h1 ?_)
      rw [if_neg (show ¬ ((Value.ref T == Value.none) = true) from by simp)]
      have fin : wpAny (model X.prog X.w) X.A (setFlight (.ref a) X.env.frame) (fun _ s4 => wpAny (model X.prog X.w) X.A (throw (.ref a) : Sem Flow) (SP X pins D) X.xe s4) X.xe { s' with heap := h3 } := by
        rw [hf]
        refine HandSPX.setFlight_upZ fl3 fun h4 hh4 up4 => wpAny_throw (tk _ _ ?_)
        exact ⟨a, B, sI, pins, σ', H', cls, d, rfl, J, nb, (up.trans up3).trans up4, .inr (.inr (by rw [hs]; exact hh4)), na, os, ag, hno rfl⟩
      first
        | exact wpAny_bind (wpAny_pure (wpAny_bind fin))
        | exact wpAny_bind fin
  · cases f with
    | next => obtain ⟨σ', H', J', q⟩ := hsp; exact wpAny_execs_nil ⟨σ', H', J'.ofTry ok, q⟩
    | brk => obtain ⟨σ', H', J', q⟩ := hsp; exact ⟨σ', H', J'.ofTry ok, q⟩
    | cont => obtain ⟨σ', H', J', q⟩ := hsp; exact ⟨σ', H', J'.ofTry ok, q⟩
    | ret u => obtain ⟨v, σ', H', J', r, q⟩ := hsp; exact ⟨v, σ', H', J'.ofTry ok, r, q⟩
end
/-! ### the readings -/
/-- an error of the class named x, held at a -/
def ErA (K : PySem.W.Frag) (x : Str) (d : Option Addr) (a : Addr) : HO := ExT (.ref (cl K x)) d a
/-- try: t, except C as n (slot i): y = n (slot j); the classes that the law knows, and whether they stand under C -/
def kTry (K : PySem.W.Frag) (tab : List (Str × Bool)) (i j : Nat) (t : KS) : KS := fun D σ G M => t { D with xc := fun c d σ' G' M' => ∃ p ∈ tab, c = .ref (cl K p.1) ∧
  (if p.2 = true then ∀ a, Fr G' M' a → D.nx (((σ'.set i (some (.ref a))).set j (some (.ref a))).set i none) (upd G' a (ErA K p.1 d a)) M' else D.xc c d σ' G' M') } σ G M
section
variable {X : Cx} {W : WX} {pos : Pos}
theorem js_try {K : PySem.W.Frag} {x n y : Str} {i j : Nat} {tab : List (Str × Bool)} {body : List Stmt} {t : KS} {np pos' q1 q2 q3 : Pos} (g : XG X.K X.mg x) (ht : ∀ p ∈ tab, PySem.W.exmOne X.K (.ref (cl X.K p.1)) (.ref (cl X.K x)) = some p.2) (hN : X.N.Nodup) (tk : Takes X W)
    (hb : ∀ (W : WX) (pn : List (Addr × Obj)) (xe : Value → Shared → Prop), Takes (X.tr pn xe) W → PassesOwn (model X.prog X.w) X.A X.env xe → JSs (X.tr pn xe) W body t)
    (hK : X.K = K := by rfl) (hs : X.stack = X.env :: X.outer := by rfl) (hf : X.env.frame = some X.env.locals := by rfl) (hx : X.ex = [] := by rfl) (hi : X.N[i]? = some n := by rfl) (hj : X.N[j]? = some y := by rfl)
    (hln : X.env.kindOf n = some .local := by rfl) (hlj : Loc X.env.scope y := by first | exact Or.inl rfl | exact Or.inr rfl) (hij : i ≠ j := by decide)
    (hfy : X.fn y = true ∨ X.env.scope.names.lookup y = some .local := by first | exact .inl rfl | exact .inr rfl) (hdn : (n == ("__debug__" : Str)) = false := by decide) (hcn : (n == ("__classdict__" : Str)) = false := by decide)
    (hsw : swapsWith (.Name n q2) (some (.Name y q1)) q3.line X.env = pure false := by rfl) (hg : Gl X x := by rfl) (hxd : (x == ("__debug__" : Str)) = false := by decide) :
    JS X W (.Try body [.ExceptHandler (some (.Name x np)) (some n) [.Assign [.Name y q1] (.Name n q2) q3] pos'] [] [] pos) (kTry K tab i j t) := by
  subst hK
  refine ps_mono (ps_try_keep (c := .ref (cl X.K x)) (tb := fun W => upS W t) hs hf hx hN hi hj hln hlj hij hfy hdn hcn hsw ⟨hg, hxd, .inl g.g⟩ tk hb) fun D σ H ⟨G, M, d, hv, h, en⟩ => ?_
  refine ⟨G, M, _, hv, h, ⟨en.nx, en.rt, en.bk, en.ct, fun c e σ' G' M' H' hv' q => ?_⟩⟩
  obtain ⟨p, hp, rfl, q⟩ := q
  refine ⟨p.2, ht p hp, fun hb a na => ?_, fun hb => ?_⟩
  · rw [if_pos hb] at q
    exact en.nx _ _ _ _ (hv'.newG na) (q a (hv'.fr na))
  · rw [if_neg (by rw [hb]; exact Bool.false_ne_true)] at q
    exact en.xc _ _ _ _ _ _ hv' q
/-- isinstance(v, C), where v is an error that is held, or None -/
def kIsX (K : PySem.W.Frag) (c : V) (tab : List (Str × Bool)) : KC := fun vs G M R => match vs with
  | [.non, c'] => c' = c ∧ R (.bl false) G M
  | [.ref a, c'] => c' = c ∧ ∃ p ∈ tab, At G M a (ErA K p.1 none a) ∧ R (.bl p.2) G M
  | _ => False
theorem kc_isX {tab : List (Str × Bool)} {c : V} {cv : Value} (hcv : ClsV c cv) (hn : PySem.W.kitOne X.K (.type "NoneType") cv = some false)
    (ht : ∀ p ∈ tab, ExcC X.K (cl X.K p.1) ∧ PySem.W.kitOne X.K (.ref (cl X.K p.1)) cv = some p.2) : KCall X (.builtin "isinstance") (kIsX X.K c tab) := by
  intro pins s σ H xs us Q I r h
  obtain ⟨G, M, R, hv, h, hR⟩ := h
  match xs, h with
  | [.non, c'], h2 =>
    obtain ⟨rfl, h3⟩ := h2
    exact (call_isi (X := X)) pins s σ H [.non, c'] _ Q I r ⟨_, _, .type "NoneType", _, false, rfl, hcv, .base .non, hn, hR _ _ _ _ hv h3⟩
  | [.ref a, c'], h2 =>
    obtain ⟨rfl, p, hp, ha, h3⟩ := h2
    cases r with
    | cons rx rr =>
      cases rr with
      | cons rt rr =>
        cases rr
        have ec := hcv.eq rt
        subst ec
        cases rx
        obtain ⟨C, e⟩ := ht p hp
        have hH : H a = some (ErA X.K p.1 none a) := hv.at ha
        obtain ⟨⟨oe, vs, hget, hz, hd⟩, _, _⟩ := I.hok a _ hH
        have J : PySem.W.InstAt s.heap a oe (cl X.K p.1) none := by
          obtain ⟨oc, od, oda, osl⟩ := oe
          obtain ⟨h1, h2⟩ := hz
          dsimp only at h1 h2 hd
          subst h1 h2 hd
          exact ⟨hget, rfl, rfl, trivial⟩
        exact PySem.W.kia_one (PySem.W.handS_kitx_exc C.hg C.hk C.hs C.hd C.ha C.hn C.ht C.hm) I.kIn J e (fun z => nomatch z) fun tk => ⟨.bl p.2, H, I.kept (t' := tk) fun _ _ z => z, rfl, hR _ _ _ _ hv h3⟩
/-- the name of an own class -/
theorem je_cls {K : PySem.W.Frag} {x : Str} {pos : Pos} (g : XG X.K X.mg x) (hK : X.K = K := by rfl) (hg : Gl X x := by rfl) (hd : (x == ("__debug__" : Str)) = false := by decide) : JE X W (.Name x pos) (kC (.ref (cl K x))) := by
  subst hK
  exact je_glob g.g rfl hg hd
end
theorem kop_shlW {X : Cx} : KOp X (binaryOp .LShift) (kI CShl fun i j => .int (i * 2 ^ j.toNat)) := kop_I op_shlW
theorem excX {R : KR} {Z : KX} {c : Value} {d : Option Addr} {σ : St} {G : Hp} {M : Mem} (h : Z c d G M) : (ends R Z).xc c d σ G M := ⟨G, M, Wk.refl, h⟩
theorem kit_ref {K : PySem.W.Frag} {t : Value} {C : Addr} {b : Bool} (hc : PySem.W.hasDictIn K C = true) (ht : PySem.W.typeIn K (.ref C) = some (.type "type")) (hs : PySem.W.subIn K (.ref C) (.ref C) = some true) (h : PySem.W.subIn K t (.ref C) = some b) :
    PySem.W.kitOne K t (.ref C) = some b := by
  unfold PySem.W.kitOne
  by_cases e : (t == .ref C) = true
  · rw [if_pos e]
    have e2 : t = .ref C := beq_iff_eq.mp e
    rw [e2, hs] at h
    exact h
  · rw [if_neg e]
    obtain ⟨cd, hcd, _⟩ := PySem.W.any_some hc
    have e1 : ((PySem.W.clsIn K C).isSome && PySem.W.typeIn K (.ref C) == some (.type "type")) = true := by rw [hcd, ht] <;> rfl
    show (if ((PySem.W.clsIn K C).isSome && PySem.W.typeIn K (.ref C) == some (.type "type")) = true then PySem.W.subIn K t (.ref C) else none) = some b
    rw [if_pos e1]
    exact h
theorem kit_tyV {K : PySem.W.Frag} {t : Value} {T : String} {b : Bool} (hm : PySem.W.kitMeta T = true) (hne : (t == .type T) = false) (h : PySem.W.subIn K t (.type T) = some b) : PySem.W.kitOne K t (.type T) = some b := by
  unfold PySem.W.kitOne
  rw [if_neg (by rw [hne]; exact Bool.false_ne_true)]
  show (if PySem.W.kitMeta T = true then PySem.W.subIn K t (.type T) else none) = some b
  rw [if_pos hm]
  exact h
end BT
set_option Elab.async false
set_option linter.all false
set_option maxRecDepth 100000
set_option maxHeartbeats 4000000
namespace BT
open PySem PySem.Spec L2
open PyProof.Rows hiding St
section
variable {X : Cx} {W : WX} {pos p : Pos} {a b : Expr}
/-! ### list(range(..)) -/
def rgL (i j : Int) (G : Hp) (M : Mem) (R : KR) : Prop := RgOk i j ∧ ∀ q, Fr G M q → R (.ref q) G ((q, .lst (rgV i j)) :: M)
def kListR1 (t : KE) : KE := fun σ G M R E => t σ G M (fun x G M => match x with
  | .int n => rgL 0 n G M R
  | _ => False) E
def kListR2 (t u : KE) : KE := fun σ G M R E => t σ G M (fun x G M => u σ G M (fun y G M => match x, y with
  | .int i, .int j => rgL i j G M R
  | _, _ => False) E) E
theorem je_listR1 {t : KE} {p2 pos2 : Pos} (hl : X.mg "list" = none) (hr : X.mg "range" = none) (ha : JE X W a t) (hc : X.calm = true := by rfl) (h1 : Gl X "list" := by rfl) (h2 : Gl X "range" := by rfl)
    (na : starEach [a] X.env = (false, eval a X.env) :: starEach [] X.env := by rfl) (nb : starEach [.Call (.Name "range" p2) [a] [] pos2] X.env = (false, eval (.Call (.Name "range" p2) [a] [] pos2) X.env) :: starEach [] X.env := by rfl) :
    JE X W (.Call (.Name "list" p) [.Call (.Name "range" p2) [a] [] pos2] [] pos) (kListR1 t) :=
  pe_mono (pe_listRg hc h1 hl (prg_1 h2 hr ha na) nb) fun σ H Q ⟨G, M, R, E, hv, h, hR, hE⟩ => ⟨G, M, _, E, hv, h, fun x G1 M1 H1 hv1 q => by
    match x, q with
    | .int n, ⟨q1, q2⟩ => exact ⟨n, rfl, q1, fun w hw => hR _ G1 _ _ (hv1.newM hw) (q2 w (hv1.fr hw))⟩, hE⟩
theorem je_listR2 {t u : KE} {p2 pos2 : Pos} (hl : X.mg "list" = none) (hr : X.mg "range" = none) (ha : JE X W a t) (hb : JE X W b u) (hc : X.calm = true := by rfl) (h1 : Gl X "list" := by rfl) (h2 : Gl X "range" := by rfl)
    (na : starEach [a, b] X.env = (false, eval a X.env) :: starEach [b] X.env := by rfl) (nb : starEach [b] X.env = (false, eval b X.env) :: starEach [] X.env := by rfl) (hp : (backTo pos2 (starEach [b] X.env)).any (·.1) = false := by rfl)
    (nc : starEach [.Call (.Name "range" p2) [a, b] [] pos2] X.env = (false, eval (.Call (.Name "range" p2) [a, b] [] pos2) X.env) :: starEach [] X.env := by rfl) :
    JE X W (.Call (.Name "list" p) [.Call (.Name "range" p2) [a, b] [] pos2] [] pos) (kListR2 t u) :=
  pe_mono (pe_listRg hc h1 hl (prg_2 h2 hr ha hb na nb hp) nc) fun σ H Q ⟨G, M, R, E, hv, h, hR, hE⟩ => ⟨G, M, _, E, hv, h, fun x G1 M1 H1 hv1 q => ⟨G1, M1, _, E, hv1, q, fun y G2 M2 H2 hv2 q => by
    match x, y, q with
    | .int i, .int j, ⟨q1, q2⟩ => exact ⟨i, j, rfl, rfl, q1, fun w hw => hR _ G2 _ _ (hv2.newM hw) (q2 w (hv2.fr hw))⟩, hE⟩, hE⟩
/-! ### an empty dict -/
def kDNew : KE := fun _ G M R _ => ∀ q, Fr G M q → R (.ref q) G ((q, .dK []) :: M)
theorem je_dnew : JE X W (.Dict [] [] pos) kDNew := pe_mono pe_dnewK fun σ H Q ⟨G, M, R, E, hv, h, hR, hE⟩ => fun w hw => hR _ G _ _ (hv.newM hw) (h w (hv.fr hw))
/-! ### constants of the module -/
theorem je_const {x : Str} {v : V} (h : ∃ u, X.mg x = some u ∧ RelV v u) (hg : Gl X x := by rfl) (hd : (x == ("__debug__" : Str)) = false := by decide) : JE X W (.Name x pos) (kC v) := by
  obtain ⟨u, hm, r⟩ := h
  exact je_glob hm r hg hd
/-- a tuple of texts that the module holds -/
def kConT (K : PySem.W.Frag) (x : Str) (xs : List V) : KE := fun _ G M R _ => (∀ H, SqT K H (cl K x) xs) → R (.ref (cl K x)) G M
structure XT (K : PySem.W.Frag) (mg : Str → Option Value) (x : Str) (xs : List V) : Prop where
  g : mg x = some (.ref (cl K x))
  s : ∀ H, SqT K H (cl K x) xs
theorem je_conT {K : PySem.W.Frag} {x : Str} {xs : List V} (h : XT X.K X.mg x xs) (hK : X.K = K := by rfl) (hg : Gl X x := by rfl) (hd : (x == ("__debug__" : Str)) = false := by decide) : JE X W (.Name x pos) (kConT K x xs) := by
  subst hK
  exact pe_mono (je_glob (W := W) (v := .ref (cl X.K x)) h.g rfl hg hd) fun σ H Q ⟨G, M, R, E, hv, q, hR, hE⟩ => ⟨G, M, R, E, hv, q h.s, hR, hE⟩
end
theorem vals_abs : ∀ {us : List Value} {xs : List V}, us.map absV = xs.map some → (∀ x, x ∈ xs → (∃ i, x = .int i) ∨ ∃ s, x = .str s) → Vals xs us
  | [], [], _, _ => .nil
  | [], _ :: _, h, _ => by cases h
  | _ :: _, [], h, _ => by cases h
  | u :: us, x :: xs, h, hx => by
    rw [List.map_cons, List.map_cons] at h
    injection h with h1 h2
    refine .cons ?_ (vals_abs h2 fun y hy => hx y (List.mem_cons_of_mem _ hy))
    rcases hx x List.mem_cons_self with ⟨i, rfl⟩ | ⟨s, rfl⟩
    · cases u <;> simp only [absV] at h1 <;> first | (cases h1; done) | (injection h1 with h1; first | (cases h1; exact ⟨_, rfl⟩) | cases h1)
    · cases u <;> simp only [absV] at h1 <;> first | (cases h1; done) | (injection h1 with h1; first | (cases h1; exact ⟨_, rfl⟩) | cases h1)
theorem xt_mk {K : PySem.W.Frag} {mg : Str → Option Value} {h : Heap} {x : Str} {C : Addr} {xs : List V} {od : Option Addr} {its : Array Value} {n : Nat} {sl : Array (Option Value)} (X : K.In h) (G : h.Ns mainGlobals mg) (a : PySem.W.nsIn K mainGlobals x = some (some (.ref C)))
    (l : K.lookup C = some ⟨.type "tuple", od, .seq its n, sl⟩) (e : its.toList.map absV = xs.map some) (hx : ∀ x, x ∈ xs → (∃ i, x = .int i) ∨ ∃ s, x = .str s) (hs : its.size ≤ 1000) : XT K mg x xs := by
  have ec := cl_of a
  refine ⟨by rw [ec]; exact PySem.W.mg_of X G a, fun H => ?_⟩
  rw [ec]
  exact .inr ⟨_, its, n, l, rfl, rfl, Nat.le_trans hs (by decide), vals_abs e hx⟩
/-! ### sum of a tuple -/
section
variable {prog : Program} {w : World} {A : Around} {E : Value → Shared → Prop} {s : Shared} {l : Addr} {its : List Value} {ns : List Int} {Q : Value → Shared → Prop}
theorem sum_tupT (hh : A.handled = none) (hl : s.heap.IsTuple l its.toArray) (hi : IntsAre its ns)
    (h : ∀ h' tk t', (∀ b o, s.heap.get? b = some o → h'.get? b = some o) → Q (.int ns.sum t') { s with heap := h', toks := tk }) : wpAny (model prog w) A (call (.builtin "sum") [.ref l]) Q E s := by
  obtain ⟨xs, e⟩ := hi.allInts.items
  have hn : numsOf (intItems xs).toList = ns := by rw [← e]; exact hi.numsOf
  rw [nums_intItems] at hn
  rw [e] at hl
  have hlt : l < s.heap.objs.size := by obtain ⟨_, e, _⟩ := hl; exact Heap.lt_size e
  refine call_sum_walkG (wpAny_pyIter_tuple hl ?_)
  refine ⟨_, _, _, _, _, _, numAt xs, rfl, Walks.tuple (A := A.in1) hh _ l (Nat.ne_of_lt hlt) (intItems xs), ⟨⟨_, Heap.get?_push_size _ rfl, rfl, rfl⟩, hl.push _⟩, fun b hb => ?_, (fun _ _ => intItems_at), fun h' tk t' hk => ?_⟩
  · show b < (s.heap.push _).objs.size
    rw [Heap.size_push]
    simp only [List.mem_cons, List.not_mem_nil, or_false] at hb
    rcases hb with z | z
    · rw [z]; exact Nat.lt_succ_self _
    · rw [z]; exact Nat.lt_succ_of_lt hlt
  · have := h h' tk t' fun b o eb => hk b o (fun hm => absurd (Heap.lt_size eb) ((List.mem_singleton.mp hm) ▸ Nat.lt_irrefl _)) (Heap.get?_push_of_some _ eb)
    have e2 : preSum (numAt xs) (intItems xs).size = ns.sum := by
      rw [preSum_eq, List.take_of_length_le (by simp [intItems]), hn]
    rw [e2]; exact this
end
section
variable {X : Cx}
def kSumS (K : PySem.W.Frag) : KC := fun vs G M R => match vs with
  | [.ref a] => ∃ ns : List Int, SeqAt' K G M a (ns.map V.int) ∧ R (.int ns.sum) G M
  | _ => False
theorem kc_sumS (hc : X.calm = true := by rfl) : KCall X (.builtin "sum") (kSumS X.K) := by
  intro pins s σ H vs us Q I r h
  obtain ⟨G, M, R, hv, h, hR⟩ := h
  match vs, h with
  | [.ref a], ⟨ns, h1, h2⟩ =>
    rcases h1 with h1 | h1
    · exact cr_sum hc pins s σ H [.ref a] us Q I r ⟨a, ns, rfl, hv.lst h1, hR _ _ _ _ hv h2⟩
    · obtain ⟨its, rv, ht, _⟩ := I.tuple (ex_t hv.exx h1)
      rw [Vals.ref1 r]
      exact sum_tupT (I.ok.hd hc) ht rv.ints fun h' tk t' hk => ⟨.int _, H, I.kept hk, ⟨_, rfl⟩, hR _ _ _ _ hv h2⟩
end
end BT
set_option Elab.async false
set_option linter.all false
set_option maxRecDepth 100000
set_option maxHeartbeats 4000000
namespace BT
open PySem PySem.Spec L2
open PyProof.Rows hiding St
/-! ### len(set(xs)) of ints -/
theorem dedup_len : ∀ (l acc : List Int), (l.foldl step_dedup acc).length ≤ acc.length + l.length
  | [], acc => Nat.le_refl _
  | x :: l, acc => by
    have h := dedup_len l (step_dedup acc x)
    rw [step_length] at h
    rw [List.foldl_cons, List.length_cons]
    split at h <;> omega
theorem dedup_eq : ∀ (l acc : List Int), (l.foldl step_dedup acc).length = acc.length + l.length ↔ (l.Nodup ∧ ∀ x, x ∈ l → x ∉ acc)
  | [], acc => by simp
  | x :: l, acc => by
    rw [List.foldl_cons, List.length_cons]
    by_cases hx : acc.any (· == x) = true
    · have hm : x ∈ acc := by simpa using hx
      have h := dedup_len l (step_dedup acc x)
      rw [step_length, if_pos hx] at h
      constructor
      · intro e; omega
      · intro e; exact absurd hm (e.2 x List.mem_cons_self)
    · have hm : x ∉ acc := by simpa using hx
      have e1 : step_dedup acc x = acc ++ [x] := by unfold step_dedup; rw [if_neg hx]
      have ih := dedup_eq l (acc ++ [x])
      rw [List.length_append, List.length_singleton] at ih
      rw [e1, show acc.length + (l.length + 1) = acc.length + 1 + l.length by omega, ih, List.nodup_cons]
      constructor
      · rintro ⟨a, b⟩
        refine ⟨⟨fun z => b x z (by simp), a⟩, fun y hy => ?_⟩
        rcases List.mem_cons.mp hy with rfl | hy
        · exact hm
        · exact fun z => b y hy (List.mem_append.mpr (.inl z))
      · rintro ⟨⟨a, b⟩, c⟩
        refine ⟨b, fun y hy z => ?_⟩
        rcases List.mem_append.mp z with z | z
        · exact c y (List.mem_cons_of_mem _ hy) z
        · have : y = x := by simpa using z
          subst this; exact a hy
theorem range_getD (ns : List Int) : (List.range ns.length).map (fun i => ns.getD i 0) = ns := by
  apply List.ext_getElem (by simp)
  intro i h1 h2
  simp [List.getD_eq_getElem?_getD, List.getElem?_eq_getElem h2]
section
variable {X : Cx} {W : WX}
def kLenSet (K : PySem.W.Frag) (t : KE) : KE := fun σ G M R E => t σ G M (fun x G M => match x with
  | .ref a => ∃ ns : List Int, LstAt K G M a (ns.map V.int) ∧ ns.length ≤ 4000 ∧ ∀ m : Nat, m ≤ ns.length → (m = ns.length ↔ ns.Nodup) → R (.int m) G M
  | _ => False) E
theorem je_lenSet {a : Expr} {ta : KE} {p p2 q pos : Pos} (hm : X.mg "len" = none) (hm2 : X.mg "set" = none) (ha : JE X W a ta) (hc : X.calm = true := by rfl) (hg : Gl X "len" := by rfl) (hg2 : Gl X "set" := by rfl)
    (na : starEach [a] X.env = (false, eval a X.env) :: starEach [] X.env := by rfl) : JE X W (.Call (.Name "len" p) [.Call (.Name "set" p2) [a] [] q] [] pos) (kLenSet X.K ta) := by
  refine ⟨fun pins s σ H Q I ⟨G, M, R, E, hv, h, hR, hE⟩ => ?_⟩
  refine Call_ (ld_blt I hg hm PySem.boot_len ?_)
  refine PyProof.Rows.callWith_builtin1 (PyProof.Rows.args_cons ?_ rfl) rfl rfl
  refine Call_ (ld_blt I hg2 hm2 PyProof.Rows.boot_set ?_)
  refine PyProof.Rows.callWith_type1 (PyProof.Rows.args_cons (thn (ha.run pins s σ H (fun x H1 => ∃ (l : Addr) (ns : List Int), x = V.ref l ∧ SqL X.K H1 l (ns.map V.int) ∧ ns.length ≤ 4000 ∧ ∀ m : Nat, m ≤ ns.length → (m = ns.length ↔ ns.Nodup) → Q (.int m) H1) I ?_) fun v s1 ⟨x, H1, I1, r1, q1⟩ => PyProof.Rows.args_nil ?_) na) na rfl
  · refine ⟨G, M, _, E, hv, h, fun x G1 M1 H1 hv1 q => ?_, hE⟩
    match x, q with
    | .ref a, ⟨ns, q1, q2, q3⟩ => exact ⟨a, ns, rfl, hv1.lst q1, q2, fun m e1 e2 => hR _ G1 M1 H1 hv1 (q3 m e1 e2)⟩
  obtain ⟨l, ns, rfl, hq, h1, q1⟩ := q1
  cases r1
  obtain ⟨its, r, pl, hz⟩ := I1.list hq
  have hl : its.toArray.size = ns.length := by rw [List.size_toArray, ← r.length, List.length_map]
  refine call_set_list (I1.ok.hd hc) pl.isList (ns := ns) (by simpa using r.ints) (by unfold scanBound; omega) fun h' tk hS hk => ?_
  rw [hl] at hS
  have em : firstMet (fun i => ns.getD i 0) ns.length = ns.foldl step_dedup [] := by
    unfold firstMet; rw [range_getD]
  rw [em] at hS
  have hle := dedup_len ns []
  have heq := dedup_eq ns []
  rw [List.length_nil, Nat.zero_add] at hle heq
  refine PyProof.Rows.args_nil ?_
  obtain ⟨o, es, ep, t, ho, hex, hd, _, _, _, hf, hn⟩ := hS
  have I2 : Inv X pins σ H1 { s1 with heap := h', toks := tk } := I1.kept fun b o e => hk b o (Heap.lt_size e) e
  refine call_len_set ho hex hd hf (by rw [hn] <;> omega) ⟨.int _, H1, I2.tok _, ⟨_, by rw [hn]⟩, q1 _ hle (heq.trans ⟨fun z => z.1, fun z => ⟨z, fun x _ => by simp⟩⟩)⟩
/-! ### reversed(range(..)) -/
def revR (i j : Int) (R : Src → Hp → Mem → Prop) (G : Hp) (M : Mem) : Prop := (-(2 ^ 62) ≤ i ∧ i < 2 ^ 62 ∧ -(2 ^ 62) ≤ j ∧ j < 2 ^ 62) ∧ R (srcC (i + (((j - i).toNat : Nat) : Int) - 1) (-1) (j - i).toNat) G M
def kiRv1 (t : KE) : KI := fun σ G M R E => t σ G M (fun x G M => match x with
  | .int n => revR 0 n R G M
  | _ => False) E
def kiRv2 (t u : KE) : KI := fun σ G M R E => t σ G M (fun x G M => u σ G M (fun y G M => match x, y with
  | .int i, .int j => revR i j R G M
  | _, _ => False) E) E
theorem ji_rv1 {a tg : Expr} {t : KE} {p p2 pos pos2 : Pos} (hv : X.mg "reversed" = none) (hr : X.mg "range" = none) (ha : JE X W a t) (h1 : Gl X "reversed" := by rfl) (h2 : Gl X "range" := by rfl)
    (na : starEach [a] X.env = (false, eval a X.env) :: starEach [] X.env := by rfl) (nb : starEach [.Call (.Name "range" p2) [a] [] pos2] X.env = (false, eval (.Call (.Name "range" p2) [a] [] pos2) X.env) :: starEach [] X.env := by rfl) :
    JI X W tg (.Call (.Name "reversed" p) [.Call (.Name "range" p2) [a] [] pos2] [] pos) (kiRv1 t) :=
  pi_mono (pi_revR h1 hv (prg_1 h2 hr ha na) nb) fun σ H Q ⟨G, M, R, E, hv, h, hR, hE⟩ => ⟨G, M, _, E, hv, h, fun x G1 M1 H1 hv1 q => by
    match x, q with
    | .int n, ⟨⟨q1, q2, q3, q4⟩, q5⟩ => exact ⟨n, rfl, q1, q2, q3, q4, hR _ G1 M1 H1 hv1 q5 _ goes_C⟩, hE⟩
theorem ji_rv2 {a b tg : Expr} {t u : KE} {p p2 pos pos2 : Pos} (hv : X.mg "reversed" = none) (hr : X.mg "range" = none) (ha : JE X W a t) (hb : JE X W b u) (h1 : Gl X "reversed" := by rfl) (h2 : Gl X "range" := by rfl)
    (na : starEach [a, b] X.env = (false, eval a X.env) :: starEach [b] X.env := by rfl) (nb : starEach [b] X.env = (false, eval b X.env) :: starEach [] X.env := by rfl) (hp : (backTo pos2 (starEach [b] X.env)).any (·.1) = false := by rfl)
    (nc : starEach [.Call (.Name "range" p2) [a, b] [] pos2] X.env = (false, eval (.Call (.Name "range" p2) [a, b] [] pos2) X.env) :: starEach [] X.env := by rfl) :
    JI X W tg (.Call (.Name "reversed" p) [.Call (.Name "range" p2) [a, b] [] pos2] [] pos) (kiRv2 t u) :=
  pi_mono (pi_revR h1 hv (prg_2 h2 hr ha hb na nb hp) nc) fun σ H Q ⟨G, M, R, E, hv, h, hR, hE⟩ => ⟨G, M, _, E, hv, h, fun x G1 M1 H1 hv1 q => ⟨G1, M1, _, E, hv1, q, fun y G2 M2 H2 hv2 q => by
    match x, y, q with
    | .int i, .int j, ⟨⟨q1, q2, q3, q4⟩, q5⟩ => exact ⟨i, j, rfl, rfl, q1, q2, q3, q4, hR _ G2 M2 H2 hv2 q5 _ goes_C⟩, hE⟩, hE⟩
/-! ### index, insert, pop, clear, tuple(), bool() -/
theorem km_index : KMt X "list.index" (kIndex X.K) := kmt_of mt_index fun x vs G M R H Q hv h hR => by
  match x, vs, h with
  | .ref a, [y], ⟨ys, j, z, h1, h2, h3, h4, h5, h6, h7⟩ => exact ⟨a, ys, y, j, z, rfl, rfl, hv.lst h1, h2, h3, h4, h5, h6, hR _ G M H hv h7⟩
def kInsert : KM := fun x vs G M R => match x, vs with
  | .ref a, [.int i, y] => ∃ n xs, M[n]? = some (a, .lst xs) ∧ xs.length < sizeLine ∧ 0 ≤ i ∧ i < 2 ^ 63 ∧ R .non G (M.set n (a, .lst (xs.take i.toNat ++ [y] ++ xs.drop i.toNat)))
  | _, _ => False
theorem km_insert : KMt X "list.insert" kInsert := kmt_of mt_insert fun x vs G M R H Q hv h hR => by
  match x, vs, h with
  | .ref a, [.int i, y], ⟨n, xs, h1, h2, h3, h4, h5⟩ => exact ⟨a, xs, i, y, rfl, rfl, hv.get h1, h2, h3, h4, hR _ G _ _ (hv.set h1) h5⟩
def kTuple (K : PySem.W.Frag) : KC := fun vs G M R => match vs with
  | [.ref a] => (∃ xs, LstAt K G M a xs ∧ ∀ p, Fr G M p → R (.ref p) (upd G p (.tup xs)) M) ∨ ∃ xs, SqT K G a xs ∧ R (.ref a) G M
  | _ => False
theorem kc_tuple : KCall X (.type "tuple") (kTuple X.K) := kcall_of call_tuple_of fun vs G M R H Q hv h hR => by
  match vs, h with
  | [.ref a], .inl ⟨xs, h1, h2⟩ => exact ⟨a, xs, rfl, .inl ⟨hv.lst h1, fun p hp => hR _ _ M _ (hv.newG hp) (h2 p (hv.fr hp))⟩⟩
  | [.ref a], .inr ⟨xs, h1, h2⟩ => exact ⟨a, xs, rfl, .inr ⟨hv.tup h1, hR _ G M H hv h2⟩⟩
def kBool : KC := fun vs G M R => match vs with
  | [.int i] => R (.bl (i != 0)) G M
  | [.bl k] => R (.bl k) G M
  | _ => False
theorem kc_bool : KCall X (.type "bool") kBool := kcall_of call_bool1 fun vs G M R H Q hv h hR => by
  match vs, h with
  | [.int i], h => exact .inl ⟨i, rfl, hR _ G M H hv h⟩
  | [.bl i], h => exact .inr ⟨i, rfl, hR _ G M H hv h⟩
def kPopAt : KM := fun x vs G M R => match x, vs with
  | .ref a, [.int i] => ∃ n xs k y, M[n]? = some (a, .lst xs) ∧ -(2 ^ 63) ≤ i ∧ i < 2 ^ 63 ∧ seqIndex? i xs.length = some k ∧ xs[k]? = some y ∧ R y G (M.set n (a, .lst (xs.eraseIdx k)))
  | _, _ => False
def kPop : KM := fun x vs G M R => match x, vs with
  | .ref a, [] => ∃ n xs y, M[n]? = some (a, .lst xs) ∧ xs[xs.length - 1]? = some y ∧ R y G (M.set n (a, .lst xs.dropLast))
  | _, _ => False
def kClear : KM := fun x vs G M R => match x, vs with
  | .ref a, [] => ∃ n xs, M[n]? = some (a, .lst xs) ∧ R .non G (M.set n (a, .lst []))
  | _, _ => False
theorem km_popAt : KMt X "list.pop" kPopAt := kmt_of mt_popAt fun x vs G M R H Q hv h hR => by
  match x, vs, h with
  | .ref a, [.int i], ⟨n, xs, k, y, h1, h2, h3, h4, h5, h6⟩ => exact ⟨a, xs, i, k, y, rfl, rfl, hv.get h1, h2, h3, h4, h5, hR _ G _ _ (hv.set h1) h6⟩
theorem km_pop : KMt X "list.pop" kPop := kmt_of mt_pop fun x vs G M R H Q hv h hR => by
  match x, vs, h with
  | .ref a, [], ⟨n, xs, y, h1, h2, h3⟩ => exact ⟨a, xs, y, rfl, rfl, hv.get h1, h2, hR _ G _ _ (hv.set h1) h3⟩
theorem km_clear : KMt X "list.clear" kClear := kmt_of mt_clear fun x vs G M R H Q hv h hR => by
  match x, vs, h with
  | .ref a, [], ⟨n, xs, h1, h3⟩ => exact ⟨a, xs, rfl, rfl, hv.get h1, hR _ G _ _ (hv.set h1) h3⟩
/-! ### {k: v, ..} -/
def kPairs : List (KE × KE) → St → Hp → Mem → (List (V × V) → Hp → Mem → Prop) → KX → Prop
  | [], _, G, M, R, _ => R [] G M
  | (tk, tv) :: r, σ, G, M, R, E => tk σ G M (fun x G M => tv σ G M (fun y G M => kPairs r σ G M (fun ps G M => R ((x, y) :: ps) G M) E) E) E
def kDisp (trs : List (KE × KE)) : KE := fun σ G M R E => ∀ p, Fr G M p → kPairs trs σ G ((p, .dK []) :: M) (fun ps G M => ∃ (n : Nat) (kvs : List (Key × V)), M[n]? = some (p, .dK []) ∧ ps = kvs.map (fun kv => (kV kv.1, kv.2)) ∧ kvs.length ≤ 15 ∧ R (.ref p) G (M.set n (p, .dK (mergeK [] kvs)))) E
def JPs (X : Cx) (W : WX) (pos : Pos) (keys : List (Option Expr)) (values : List Expr) (trs : List (KE × KE)) : Prop := PPs X pos keys values (trs.map fun p => (upG W p.1, upG W p.2))
theorem jps_nil {pos : Pos} : JPs X W pos [] [] [] := pps_nil
theorem jps_cons {pos : Pos} {k v : Expr} {ks : List (Option Expr)} {vs : List Expr} {tk tv : KE} {trs : List (KE × KE)} (hk : JE X W k tk) (hv : JE X W v tv) (hr : JPs X W pos ks vs trs) : JPs X W pos (some k :: ks) (v :: vs) ((tk, tv) :: trs) := pps_cons hk hv hr
theorem pairs_sim {σ : St} {E : KX} (hE : ∀ c d G' M' H', Hv G' M' H' → E c d G' M' → W c d σ H') : ∀ (trs : List (KE × KE)) (G : Hp) (M : Mem) (R : List (V × V) → Hp → Mem → Prop) (H : Hp) (Q : List (V × V) → Hp → Prop), Hv G M H → kPairs trs σ G M R E →
    (∀ v G' M' H', Hv G' M' H' → R v G' M' → Q v H') → tPairs (trs.map fun p => (upG W p.1, upG W p.2)) σ H Q
  | [], G, M, R, H, Q, hv, h, hR => hR _ G M H hv h
  | (tk, tv) :: r, G, M, R, H, Q, hv, h, hR => ⟨G, M, _, E, hv, h, fun x G1 M1 H1 hv1 q1 => ⟨G1, M1, _, E, hv1, q1, fun y G2 M2 H2 hv2 q2 => pairs_sim hE r G2 M2 _ H2 _ hv2 q2 fun v G' M' H' hv' q => hR _ G' M' H' hv' q, hE⟩, hE⟩
theorem je_disp {pos : Pos} {keys : List (Option Expr)} {values : List Expr} {trs : List (KE × KE)} (h : JPs X W pos keys values trs) (hall : keys.all (·.isSome) = true := by rfl) (hl : keys.length = values.length := by rfl) (h0 : keys ≠ [] := by exact fun z => nomatch z) (h15 : keys.length ≤ 15 := by decide) :
    JE X W (.Dict keys values pos) (kDisp trs) := pe_mono (pe_disp h hall hl h0 h15) fun σ H Q ⟨G, M, R, E, hv, h, hR, hE⟩ => fun p hp =>
  pairs_sim hE trs G _ _ _ _ (hv.newM hp) (h p (hv.fr hp)) fun ps G' M' H' hv' ⟨n, kvs, q1, q2, q3, q4⟩ => ⟨hv'.get q1, kvs, q2, q3, hR _ G' _ _ (hv'.set q1) q4⟩
end
end BT
namespace BT
open PySem PySem.Spec L2
/-- what is walked, behind which something may be forgotten -/
def kiW (t : KI) : KI := fun σ G M R E => t σ G M (fun src G M => ∃ G' M', Wk G M G' M' ∧ R src G' M') E
theorem ji_w {X : Cx} {W : WX} {tg it : Expr} {t : KI} (h : JI X W tg it t) : JI X W tg it (kiW t) := pi_mono h fun σ H Q ⟨G, M, R, E, hv, h, hR, hE⟩ =>
  ⟨G, M, _, E, hv, h, fun src G1 M1 H1 hv1 ⟨G2, M2, w, q⟩ J go => hR src G2 M2 H1 (w H1 hv1) q J go, hE⟩
end BT
set_option Elab.async false
set_option linter.all false
set_option maxRecDepth 100000
set_option maxHeartbeats 4000000
namespace BT
open PySem PySem.Spec L2
open PyProof.Rows hiding St
/-! ### objects: the program's classes by number, their attributes by place -/
def clsN : Nat → Str × List Str
  | 0 => ("Plain", ["words"])
  | 1 => ("Keeper", ["log"])
  | 2 => ("Shelf", ["keeper", "number", "things"])
  | 3 => ("Scan", ["cells", "limit", "draws", "keeper", "made", "shelf"])
  | 4 => ("Spare", ["cells", "limit", "draws", "keeper", "made", "side", "order", "shelf", "hand"])
  | 5 => ("Stairs", ["cells", "limit", "draws", "keeper", "made", "climb", "hand", "shelves", "orders"])
  | 6 => ("Tree", ["cells", "limit", "draws", "keeper", "made", "body", "table"])
  | 7 => ("Grove", ["cells", "limit", "draws", "keeper", "made", "highs", "bodies", "start", "table"])
  | 8 => ("Body", ["shelf", "high", "firsts", "hand"])
  | 9 => ("Climb", ["cells", "last", "full", "drawn", "home", "held"])
  | 10 => ("Runner", ["program", "slates", "place"])
  | _ => ("Desk", ["stores"])
theorem cls_all {P : Str × List Str → Prop} (h : ∀ k, k < 12 → P (clsN k)) : ∀ k, P (clsN k) := fun k => by
  by_cases e : k < 12
  · exact h k e
  · have : clsN k = clsN 11 := by
      unfold clsN
      split <;> first | omega | rfl
    rw [this]; exact h 11 (by decide)
theorem cls_nodup : ∀ k, (clsN k).2.Nodup := cls_all (P := fun x => x.2.Nodup) (by decide +kernel)
theorem cls_few : ∀ k, (clsN k).2.length < 20 := cls_all (P := fun x => x.2.length < 20) (by decide +kernel)
def Ob (K : PySem.W.Frag) (k : Nat) (dx : Addr) (vs : List V) : HO := .ins (cl K (clsN k).1) dx ((clsN k).2.zip vs)
def putV : Nat → V → List V → List V
  | 0, y, [] => [y]
  | 0, y, _ :: r => y :: r
  | n + 1, y, x :: r => x :: putV n y r
  | _ + 1, _, [] => []
theorem zip_lookup : ∀ (ns : List Str) (vs : List V) (i : Nat) (f : Str), ns.Nodup → ns[i]? = some f → (ns.zip vs).lookup f = vs[i]?
  | [], _, _, _, _, h => by simp at h
  | n :: ns, [], i, f, _, _ => by simp
  | n :: ns, v :: vs, 0, f, _, h => by
    have e : n = f := by simpa using h
    subst e
    simp [List.zip_cons_cons, List.lookup]
  | n :: ns, v :: vs, i + 1, f, hn, h => by
    rw [List.nodup_cons] at hn
    have h2 : ns[i]? = some f := by simpa using h
    have ne : (f == n) = false := by
      rw [beq_eq_false_iff_ne]
      intro z
      exact hn.1 (z ▸ List.mem_of_getElem? h2)
    rw [List.zip_cons_cons, List.lookup, ne]
    simp only []
    rw [zip_lookup ns vs i f hn.2 h2]; simp
theorem zip_none : ∀ (ns : List Str) (vs : List V) (f : Str), f ∉ ns → (ns.zip vs).lookup f = none
  | [], _, _, _ => by simp
  | n :: ns, [], f, _ => by simp
  | n :: ns, v :: vs, f, h => by
    have ne : (f == n) = false := by
      rw [beq_eq_false_iff_ne]
      intro z
      exact h (z ▸ List.mem_cons_self)
    rw [List.zip_cons_cons, List.lookup, ne]
    exact zip_none ns vs f fun z => h (List.mem_cons_of_mem _ z)
theorem zip_put : ∀ (ns : List Str) (vs : List V) (i : Nat) (f : Str) (y : V), ns.Nodup → ns[i]? = some f → i ≤ vs.length → putF f y (ns.zip vs) = ns.zip (putV i y vs)
  | [], _, _, _, _, _, h, _ => by simp at h
  | n :: ns, [], 0, f, y, _, h, _ => by
    have e : n = f := by simpa using h
    subst e
    cases ns <;> rfl
  | n :: ns, [], i + 1, f, y, _, _, h => by simp at h
  | n :: ns, v :: vs, 0, f, y, _, h, _ => by
    have e : n = f := by simpa using h
    subst e
    show putF n y ((n, v) :: ns.zip vs) = _
    unfold putF
    rw [if_pos rfl]; rfl
  | n :: ns, v :: vs, i + 1, f, y, hn, h, hi => by
    rw [List.nodup_cons] at hn
    have h2 : ns[i]? = some f := by simpa using h
    have ne : ¬ n = f := fun z => hn.1 (z ▸ List.mem_of_getElem? h2)
    show putF f y ((n, v) :: ns.zip vs) = _
    unfold putF
    rw [if_neg ne, zip_put ns vs i f y hn.2 h2 (by simpa using hi)]; rfl
/-- what of the text a class must have -/
structure CK (K : PySem.W.Frag) (k : Nat) : Prop where
  cls : Cls K (cl K (clsN k).1)
  na : ∀ f ∈ (clsN k).2, NoAttr K (cl K (clsN k).1) f
theorem lookup_mem {α β : Type} [BEq α] [LawfulBEq α] : ∀ {l : List (α × β)} {a : α} {b : β}, l.lookup a = some b → (a, b) ∈ l
  | [], _, _, h => by simp at h
  | (x, y) :: l, a, b, h => by
    rw [List.lookup] at h
    split at h
    · rename_i e
      have e := eq_of_beq e
      cases h; subst e; exact List.mem_cons_self
    · exact List.mem_cons_of_mem _ (lookup_mem h)
section
variable {X : Cx} {W : WX} {pos : Pos}
/-- e.f; tab: the classes that have it, and its place -/
def kFld (K : PySem.W.Frag) (tab : List (Nat × Nat)) (t : KE) : KE := fun σ G M R E => t σ G M (fun x G M => match x with
  | .ref a => ∃ (k : Nat) (dx : Addr) (vs : List V) (i : Nat) (v : V), At G M a (Ob K k dx vs) ∧ tab.lookup k = some i ∧ vs[i]? = some v ∧ R v G M
  | _ => False) E
theorem je_fld {e : Expr} {f : Str} {tab : List (Nat × Nat)} {t : KE} (he : JE X W e t) (ht : ∀ p ∈ tab, CK X.K p.1 ∧ (clsN p.1).2[p.2]? = some f) (hb : attributeBase e f X.env (eval e X.env) = eval e X.env := by rfl) : JE X W (.Attribute e f pos) (kFld X.K tab t) :=
  pe_mono (pe_fld he hb) fun σ H Q ⟨G, M, R, E, hv, h, hR, hE⟩ => ⟨G, M, _, E, hv, h, fun x G1 M1 H1 hv1 q => by
    match x, q with
    | .ref a, ⟨k, dx, vs, i, v, q1, q2, q3, q4⟩ =>
      obtain ⟨ck, hf⟩ := ht (k, i) (lookup_mem q2)
      exact ⟨a, _, dx, _, v, rfl, hv1.at q1, ck.cls, ck.na f (List.mem_of_getElem? hf), by rw [zip_lookup _ _ i f (cls_nodup k) hf]; exact q3, hR _ G1 M1 H1 hv1 q4⟩, hE⟩
/-- o.f = e -/
def kFSet (K : PySem.W.Frag) (tab : List (Nat × Nat)) (to tv : KE) : KS := fun D σ G M => tv σ G M (fun y G M => to σ G M (fun x G M => match x with
  | .ref a => ∃ (n k : Nat) (dx : Addr) (vs : List V) (i : Nat), M[n]? = some (a, Ob K k dx vs) ∧ tab.lookup k = some i ∧ i ≤ vs.length ∧ D.nx σ G (M.set n (a, Ob K k dx (putV i y vs)))
  | _ => False) (D.x σ)) (D.x σ)
theorem js_fset {o value : Expr} {f : Str} {tab : List (Nat × Nat)} {to tv : KE} {pos' : Pos} (ho : JE X W o to) (hv : JE X W value tv) (ht : ∀ p ∈ tab, CK X.K p.1 ∧ (clsN p.1).2[p.2]? = some f)
    (hs : swapsWith value (some (.Attribute o f pos')) pos.line X.env = pure false := by rfl) : JS X W (.Assign [.Attribute o f pos'] value pos) (kFSet X.K tab to tv) :=
  ps_mono (ps_fld ho hv hs) fun D σ H ⟨G, M, d, hv, h, en⟩ => ⟨G, M, _, _, hv, h, fun y G1 M1 H1 hv1 q => ⟨G1, M1, _, _, hv1, q, fun x G2 M2 H2 hv2 q2 => by
    match x, q2 with
    | .ref a, ⟨n, k, dx, vs, i, q3, q4, q5, q6⟩ =>
      obtain ⟨ck, hf⟩ := ht (k, i) (lookup_mem q4)
      refine ⟨a, _, dx, _, rfl, hv2.get q3, ck.cls, ck.na f (List.mem_of_getElem? hf), ?_, ?_⟩
      · have := cls_few k
        rw [List.length_zip]; omega
      · rw [zip_put _ _ i f y (cls_nodup k) hf q5]
        exact en.nx _ G2 _ _ (hv2.set q3) q6, fun c a G' M' H' hv' q => en.xc c a σ G' M' H' hv' q⟩, fun c a G' M' H' hv' q => en.xc c a σ G' M' H' hv' q⟩
/-- a method that keeps its promise, of the class k -/
structure MDef (P : Program) (w : World) (K : PySem.W.Frag) (mg : Str → Option Value) (base : Heap) (lev : Nat) (k : Nat) (m : Str) (S : KSp) : Prop where
  ex : ∃ f fd ps, FnOk P w K mg base (L2.CX P w) lev f fd ps (lift S) ∧ Meth K (cl K (clsN k).1) m f ∧ Binds K fd ps []
  ck : CK K k
  no : m ∉ (clsN k).2
theorem MDef.mono {P : Program} {w : World} {K : PySem.W.Frag} {mg : Str → Option Value} {base : Heap} {lev lev' k : Nat} {m : Str} {S : KSp} (D : MDef P w K mg base lev k m S) (h : lev ≤ lev') : MDef P w K mg base lev' k m S := by
  obtain ⟨⟨f, fd, ps, F, a, b⟩, c, d⟩ := D
  exact ⟨⟨f, fd, ps, F.mono h, a, b⟩, c, d⟩
def kMeth (K : PySem.W.Frag) (tab : List (Nat × KSp)) (to : KE) (t : KA) : KE := fun σ G M R E => to σ G M (fun x G M => match x with
  | .ref a => ∃ (k : Nat) (dx : Addr) (vs : List V) (S : KSp), At G M a (Ob K k dx vs) ∧ tab.lookup k = some S ∧ t σ G M (fun ws G M => S (.ref a :: ws) G M R E) E
  | _ => False) E
theorem je_meth {pl : Sem Bool} {o e : Expr} {es : List Expr} {m : Str} {apos : Pos} {tab : List (Nat × KSp)} {k : Nat} {to : KE} {t : KA} (D : ∀ p ∈ tab, MDef X.prog X.w X.K X.mg X.base k p.1 m p.2) (hr : Room k X.A) (tk : Takes X W) (ho : JE X W o to) (ha : JA X W (e :: es) t)
    (hst : starEach (e :: es) X.env = (false, eval e X.env) :: starEach es X.env := by rfl) (hpl : (backTo pos (starEach es X.env)).any (·.1) = false := by rfl)
    (ht : eval (.Call (.Attribute o m apos) (e :: es) [] pos) X.env = (do
      let ov ← eval o X.env
      standAt apos.atName
      let (f, first) ← holding [ov] (getMethod ov m pl)
      callWith pos f first (backTo pos (starEach (e :: es) X.env)) (backToKw pos (keywordEach [] X.env))) := by rfl) :
    JE X W (.Call (.Attribute o m apos) (e :: es) [] pos) (kMeth X.K tab to t) := by
  refine ⟨fun pins s σ H Q I ⟨G, M, R, E, hv, h, hR, hE⟩ => ?_⟩
  refine PySem.W.methodCall_KW (pl := pl) (thn (ho.run pins s σ H (fun x H1 => ∃ (a k : Nat) (dx : Addr) (vs : List V) (S : KSp), x = .ref a ∧ H1 a = some (Ob X.K k dx vs) ∧ tab.lookup k = some S ∧ upG W t σ H1 fun ws H2 => lift S (.ref a :: ws) H2 Q (WE W σ)) I ?_) fun u s1 ⟨x, H1, I1, rx, a, k, dx, vs, S, ex, ea, l, q⟩ => ?_) ht
  · refine ⟨G, M, _, E, hv, h, fun x G1 M1 H1 hv1 q => ?_, hE⟩
    match x, q with
    | .ref a, ⟨k, dx, vs, S, q1, q2, q3⟩ => exact ⟨a, k, dx, vs, S, rfl, hv1.at q1, q2, G1, M1, _, E, hv1, q3, fun ws G2 M2 H2 hv2 q4 => ⟨G2, M2, R, E, hv2, q4, hR, hE⟩, hE⟩
  subst ex
  obtain rfl : u = Value.ref a := rx
  obtain ⟨⟨f, fd, ps, F, mt, hb⟩, ck, no⟩ := D (k, S) (lookup_mem l)
  refine getmeth_ok I1 ea ck.cls mt (zip_none _ _ _ no) ?_
  refine PySem.W.callWith_K (first := [.ref a]) (h₀ := X.base) I.ok.mod.kin mt.kp (thn (ha.run pos pins s1 σ H1 _ I1 q) fun us s2 ⟨vs, H2, I2, r, q2⟩ => ⟨I2.kIn, ?_⟩) hst hpl
  exact run_fnS (us := .ref a :: us) (vs := .ref a :: vs) F hr hb (passAt tk σ) I2 (.cons rfl r) q2
theorem je_meth0 {pl : Sem Bool} {o : Expr} {m : Str} {apos : Pos} {tab : List (Nat × KSp)} {k : Nat} {to : KE} (D : ∀ p ∈ tab, MDef X.prog X.w X.K X.mg X.base k p.1 m p.2) (hr : Room k X.A) (tk : Takes X W) (ho : JE X W o to)
    (ht : eval (.Call (.Attribute o m apos) [] [] pos) X.env = (do
      let ov ← eval o X.env
      standAt apos.atName
      let (f, first) ← holding [ov] (getMethod ov m pl)
      callWith pos f first (backTo pos (starEach [] X.env)) (backToKw pos (keywordEach [] X.env))) := by rfl) :
    JE X W (.Call (.Attribute o m apos) [] [] pos) (kMeth X.K tab to kNil) := by
  refine ⟨fun pins s σ H Q I ⟨G, M, R, E, hv, h, hR, hE⟩ => ?_⟩
  refine PySem.W.methodCall_KW (pl := pl) (thn (ho.run pins s σ H (fun x H1 => ∃ (a k : Nat) (dx : Addr) (vs : List V) (S : KSp), x = .ref a ∧ H1 a = some (Ob X.K k dx vs) ∧ tab.lookup k = some S ∧ lift S [.ref a] H1 Q (WE W σ)) I ?_) fun u s1 ⟨x, H1, I1, rx, a, k, dx, vs, S, ex, ea, l, q⟩ => ?_) ht
  · refine ⟨G, M, _, E, hv, h, fun x G1 M1 H1 hv1 q => ?_, hE⟩
    match x, q with
    | .ref a, ⟨k, dx, vs, S, q1, q2, q3⟩ => exact ⟨a, k, dx, vs, S, rfl, hv1.at q1, q2, G1, M1, R, E, hv1, q3, hR, hE⟩
  subst ex
  obtain rfl : u = Value.ref a := rx
  obtain ⟨⟨f, fd, ps, F, mt, hb⟩, ck, no⟩ := D (k, S) (lookup_mem l)
  refine getmeth_ok I1 ea ck.cls mt (zip_none _ _ _ no) ?_
  exact PySem.W.callWith_K0 (first := [.ref a]) I1.kIn mt.kp (run_fnS (us := [.ref a]) (vs := [.ref a]) F hr hb (passAt tk σ) I1 (.cons rfl .nil) q)
/-! C(..) -/
theorem run_makeS {CX : CXT} {k : Nat} {C f : Addr} {fd : FuncData} {ps : List Str} {sp : Sp} {E : XK} {pins : List (Addr × Obj)} {σ : St} {H : Hp} {s : Shared} {Q : VK} {us : List Value} {vs : List V} (M : Mk X.K C f) (F : FnOk X.prog X.w X.K X.mg X.base CX k f fd ps sp) (hr : Room (k + 1) X.A) (hb : Binds X.K fd ps [])
    (hx : PassesAt CX X σ E) (I : Inv X pins σ H s) (r : Vals vs us)
    (h : ∀ x dx, H x = none → H dx = none → dx ≠ x → sp (.ref x :: vs) (upd (upd H dx (.own x)) x (.ins C dx [])) (fun v H2 => v = .non ∧ Q (.ref x) H2) E) :
    wpAny (model X.prog X.w) X.A (call (.ref C) us) (EP X pins σ Q) X.xe s := by
  have hq := h (s.heap.objs.size + 1) s.heap.objs.size (I.hok.fresh (Nat.le_succ _)) (I.hok.fresh (Nat.le_refl _)) (Nat.ne_of_lt (Nat.lt_succ_self _))
  have I2 := Inv.made (C := C) I
  have r2 : Vals (V.ref (s.heap.objs.size + 1) :: vs) (Value.ref (s.heap.objs.size + 1) :: us) := .cons rfl r
  have hl : (Value.ref (s.heap.objs.size + 1) :: us ++ []).length = ps.length := by
    have e := r2.length
    rw [F.len _ _ _ _ hq] at e
    rw [List.append_nil]
    exact e.symm
  have hb2 := hb _ (Value.ref (s.heap.objs.size + 1) :: us) I2.kIn hl
  rw [List.append_nil] at hb2
  refine wpAny_call (make_map (f := f) I.kIn M.makes M.init (beq_iff_eq.mp M.fn) (codeAny_mono (F.run _ X.stack _ _ ⟨Value.ref (s.heap.objs.size + 1) :: us, []⟩ (Value.ref (s.heap.objs.size + 1) :: us) _ _ E (hr.make C us [])
    (I2.env0.make C us []) hb2 r2 hq) fun r s' hq' => ?_))
  cases r with
  | error e => exact hx pins _ _ e s' I2 hq'
  | ok fl =>
    cases fl with
    | ret u =>
      obtain ⟨v, H', I3, rv, ev, q3⟩ := I2.after hq'
      subst ev
      exact ⟨rv, ⟨V.ref (s.heap.objs.size + 1), H', I3, rfl, q3⟩⟩
    | next => exact False.elim hq'
    | brk => exact False.elim hq'
    | cont => exact False.elim hq'
structure CDef (P : Program) (w : World) (K : PySem.W.Frag) (mg : Str → Option Value) (base : Heap) (lev : Nat) (k : Nat) (x : Str) (S : KSp) : Prop where
  ex : ∃ f fd ps, FnOk P w K mg base (L2.CX P w) lev f fd ps (lift S) ∧ Mk K (cl K (clsN k).1) f ∧ Binds K fd ps []
  g : mg x = some (.ref (cl K (clsN k).1))
def kMake (K : PySem.W.Frag) (k : Nat) (S : KSp) (t : KA) : KE := fun σ G M R E => t σ G M (fun vs G M => ∀ x dx, Fr G M x → S (.ref x :: vs) G ((x, Ob K k dx []) :: M) (fun v G M => v = .non ∧ R (.ref x) G M) E) E
theorem ob_nil {K : PySem.W.Frag} {k : Nat} {dx : Addr} : Ob K k dx [] = .ins (cl K (clsN k).1) dx [] := by unfold Ob; rw [List.zip_nil_right]
theorem make_sim {k : Nat} {S : KSp} {σ : St} {vs : List V} {G : Hp} {M : Mem} {R : KR} {E : KX} {H : Hp} {Q : VK} (hv : Hv G M H) (q : ∀ x dx, Fr G M x → S (.ref x :: vs) G ((x, Ob X.K k dx []) :: M) (fun v G M => v = .non ∧ R (.ref x) G M) E)
    (hR : ∀ v G' M' H', Hv G' M' H' → R v G' M' → Q v H') (hE : ∀ c d G' M' H', Hv G' M' H' → E c d G' M' → W c d σ H') (x dx : Addr) (hx : H x = none) (hd : H dx = none) (hne : dx ≠ x) :
    lift S (.ref x :: vs) (upd (upd H dx (.own x)) x (.ins (cl X.K (clsN k).1) dx [])) (fun v H2 => v = .non ∧ Q (.ref x) H2) (WE W σ) := by
  have h1 : Hv G M (upd H dx (.own x)) := hv.junk hd
  have h2 : (upd H dx (.own x)) x = none := by rw [upd_ne (Ne.symm hne)]; exact hx
  refine ⟨G, _, fun v G M => v = .non ∧ R (.ref x) G M, E, h1.newM (o := .ins (cl X.K (clsN k).1) dx []) h2, by rw [← ob_nil]; exact q x dx (hv.fr hx), fun v G' M' H' hv' q => ⟨q.1, hR _ G' M' H' hv' q.2⟩, fun c d G' M' H' hv' q => hE c d G' M' H' hv' q⟩
theorem je_make {k lev cid : Nat} {x : Str} {p : Pos} {e : Expr} {es : List Expr} {S : KSp} {t : KA} (D : CDef X.prog X.w X.K X.mg X.base lev cid x S) (hk : PySem.W.keepIn X.K (.ref (cl X.K (clsN cid).1)) = true) (hr : Room k X.A) (tk : Takes X W) (ha : JA X W (e :: es) t) (hl : lev + 1 ≤ k := by decide) (hg : Gl X x := by rfl)
    (hdb : (x == ("__debug__" : Str)) = false := by decide) (he : starEach (e :: es) X.env = (false, eval e X.env) :: starEach es X.env := by rfl) (hpl : (backTo pos (starEach es X.env)).any (·.1) = false := by rfl) :
    JE X W (.Call (.Name x p) (e :: es) [] pos) (kMake X.K cid S t) := by
  obtain ⟨⟨f, fd, ps, F, mk, hb⟩, hm⟩ := D
  obtain ⟨k', rfl⟩ : ∃ k', k = k' + 1 := ⟨k - 1, by omega⟩
  refine ⟨fun pins s σ H Q I ⟨G, M, R, E, hv, h, hR, hE⟩ => ?_⟩
  refine wpAny_Call_Name_kw (ld_glob I hg hm ?_ hdb)
  refine PySem.W.callWith_K (h₀ := X.base) I.ok.mod.kin hk (thn (ha.run pos pins s σ H (fun vs H1 => ∀ x dx, H1 x = none → H1 dx = none → dx ≠ x → lift S (.ref x :: vs) (upd (upd H1 dx (.own x)) x (.ins (cl X.K (clsN cid).1) dx [])) (fun v H2 => v = .non ∧ Q (.ref x) H2) (WE W σ)) I ?_) fun us s1 ⟨vs, H1, I1, r, q⟩ => ⟨I1.kIn, ?_⟩) he hpl
  · exact ⟨G, M, _, E, hv, h, fun vs G1 M1 H1 hv1 q x dx hx hd hne => make_sim hv1 q hR hE x dx hx hd hne, hE⟩
  · exact run_makeS mk (F.mono (by omega)) hr hb (passAt tk σ) I1 r q
theorem je_make0 {k lev cid : Nat} {x : Str} {p : Pos} {S : KSp} (D : CDef X.prog X.w X.K X.mg X.base lev cid x S) (hk : PySem.W.keepIn X.K (.ref (cl X.K (clsN cid).1)) = true) (hr : Room k X.A) (tk : Takes X W) (hl : lev + 1 ≤ k := by decide) (hg : Gl X x := by rfl)
    (hdb : (x == ("__debug__" : Str)) = false := by decide) : JE X W (.Call (.Name x p) [] [] pos) (kMake X.K cid S kNil) := by
  obtain ⟨⟨f, fd, ps, F, mk, hb⟩, hm⟩ := D
  obtain ⟨k', rfl⟩ : ∃ k', k = k' + 1 := ⟨k - 1, by omega⟩
  refine ⟨fun pins s σ H Q I ⟨G, M, R, E, hv, h, hR, hE⟩ => ?_⟩
  refine wpAny_Call_Name_kw (ld_glob I hg hm ?_ hdb)
  refine PySem.W.callWith_K0 I.kIn hk (run_makeS (us := []) (vs := []) mk (F.mono (by omega)) hr hb (passAt tk σ) I .nil fun x dx hx hd hne => make_sim hv h hR hE x dx hx hd hne)
/-! C.m(self, ..), m a def of the class C -/
structure FDef (P : Program) (w : World) (K : PySem.W.Frag) (mg : Str → Option Value) (base : Heap) (lev : Nat) (x m : Str) (S : KSp) : Prop where
  ex : ∃ f fd ps, FnOk P w K mg base (L2.CX P w) lev f fd ps (lift S) ∧ PySem.W.findCls K (.ref (cl K x)) (.type "type") m = some (.val (.ref f)) ∧ Binds K fd ps [] ∧ PySem.W.keepIn K (.ref f) = true
  g : mg x = some (.ref (cl K x))
  rd : PySem.W.readsIn K (cl K x) (.type "type") = true
  ga : PySem.W.specialIn K (.ref (cl K x)) "__getattribute__" = some (some (.builtin "type.__getattribute__"))
theorem je_clsCall {pl : Sem Bool} {k lev : Nat} {x m : Str} {p apos : Pos} {e : Expr} {es : List Expr} {S : KSp} {t : KA} (D : FDef X.prog X.w X.K X.mg X.base lev x m S) (hr : Room k X.A) (tk : Takes X W) (ha : JA X W (e :: es) t) (hl : lev ≤ k := by decide) (hg : Gl X x := by rfl)
    (hdb : (x == ("__debug__" : Str)) = false := by decide) (hst : starEach (e :: es) X.env = (false, eval e X.env) :: starEach es X.env := by rfl) (hpl : (backTo pos (starEach es X.env)).any (·.1) = false := by rfl)
    (ht : eval (.Call (.Attribute (.Name x p) m apos) (e :: es) [] pos) X.env = (do
      let ov ← eval (.Name x p) X.env
      standAt apos.atName
      let (f, first) ← holding [ov] (getMethod ov m pl)
      callWith pos f first (backTo pos (starEach (e :: es) X.env)) (backToKw pos (keywordEach [] X.env))) := by rfl) :
    JE X W (.Call (.Attribute (.Name x p) m apos) (e :: es) [] pos) (kCall S t) := by
  obtain ⟨⟨f, fd, ps, F, hf, hb, hkp⟩, hm, rd, ga⟩ := D
  refine ⟨fun pins s σ H Q I ⟨G, M, R, E, hv, h, hR, hE⟩ => ?_⟩
  refine PySem.W.methodCall_KW (pl := pl) (ld_glob I hg hm ?_ hdb) ht
  refine PySem.W.method_cls I.kIn ga (PySem.W.cls_value I.kIn rd hf rfl ?_)
  refine PySem.W.callWith_K (first := []) (h₀ := X.base) I.ok.mod.kin hkp (thn (ha.run pos pins _ σ H (fun vs H1 => lift S vs H1 Q (WE W σ)) (I.tok _) ?_) fun us s2 ⟨vs, H2, I2, r, q2⟩ => ⟨I2.kIn, ?_⟩) hst hpl
  · exact ⟨G, M, _, E, hv, h, fun vs G1 M1 H1 hv1 q => ⟨G1, M1, R, E, hv1, q, hR, hE⟩, hE⟩
  · exact run_fnS (us := us) (vs := vs) (F.mono hl) hr hb (passAt tk σ) I2 r q2
end
end BT
namespace BT
open PySem PySem.Spec L2
open PyProof.Rows hiding St
section
variable {P : Program} {w : World} {K : PySem.W.Frag} {mg : Str → Option Value} {base : Heap} {k lev : Nat} {C f : Addr} {fd : FuncData} {ps : List Str} {S : KSp} {x m : Str}
theorem ck_mk (a : PySem.W.nsIn K mainGlobals (clsN k).1 = some (some (.ref C))) (h1 : PySem.W.plainGet K C Str.empty = true) (h2 : PySem.W.hasDictIn K C = true) (h3 : PySem.W.plainOver K C = true)
    (h4 : PySem.W.findIn K (.ref C) "__setattr__" = some (some (.builtin "object.__setattr__"))) (h5 : ∀ f ∈ (clsN k).2, PySem.W.findIn K (.ref C) f = some none) : CK K k := by
  have e := cl_of a
  exact ⟨by rw [e]; exact ⟨h1, h2, h3, h4⟩, by rw [e]; exact h5⟩
theorem keep_mk (a : PySem.W.nsIn K mainGlobals (clsN k).1 = some (some (.ref C))) (h : PySem.W.keepIn K (.ref C) = true) : PySem.W.keepIn K (.ref (cl K (clsN k).1)) = true := by
  rw [cl_of a]; exact h
theorem cd_mk (hx : (clsN k).1 = x) (a : PySem.W.nsIn K mainGlobals (clsN k).1 = some (some (.ref C))) (g : mg x = some (.ref C)) (F : FnOk P w K mg base (L2.CX P w) lev f fd ps (lift S)) (h1 : PySem.W.makesIn K C = true) (h2 : PySem.W.findIn K (.ref C) "__init__" = some (some (.ref f)))
    (h3 : PySem.W.isFn K (.ref f) = true) (h4 : PySem.W.keepIn K (.ref C) = true) (b : Binds K fd ps []) : CDef P w K mg base lev k x S := by
  have e := cl_of a
  exact ⟨⟨f, fd, ps, F, by rw [e]; exact ⟨h1, h2, h3, h4⟩, b⟩, by rw [e]; exact g⟩
theorem md_mk (a : PySem.W.nsIn K mainGlobals (clsN k).1 = some (some (.ref C))) (F : FnOk P w K mg base (L2.CX P w) lev f fd ps (lift S)) (h1 : PySem.W.findIn K (.ref C) m = some (some (.ref f))) (h2 : PySem.W.isFn K (.ref f) = true) (h3 : PySem.W.keepIn K (.ref f) = true) (b : Binds K fd ps [])
    (ck : CK K k) (no : m ∉ (clsN k).2) : MDef P w K mg base lev k m S := by
  have e := cl_of a
  exact ⟨⟨f, fd, ps, F, by rw [e]; exact ⟨h1, h2, h3⟩, b⟩, ck, no⟩
theorem fd_mk (a : PySem.W.nsIn K mainGlobals x = some (some (.ref C))) (g : mg x = some (.ref C)) (F : FnOk P w K mg base (L2.CX P w) lev f fd ps (lift S)) (h1 : PySem.W.findCls K (.ref C) (.type "type") m = some (.val (.ref f))) (b : Binds K fd ps []) (h2 : PySem.W.keepIn K (.ref f) = true)
    (h3 : PySem.W.readsIn K C (.type "type") = true) (h4 : PySem.W.specialIn K (.ref C) "__getattribute__" = some (some (.builtin "type.__getattribute__"))) : FDef P w K mg base lev x m S := by
  have e := cl_of a
  exact ⟨⟨f, fd, ps, F, by rw [e]; exact h1, b, h2⟩, by rw [e]; exact g, by rw [e]; exact h3, by rw [e]; exact h4⟩
end
end BT
set_option Elab.async false
set_option linter.all false
set_option maxRecDepth 100000
set_option maxHeartbeats 4000000
namespace BT
open PySem PySem.Spec L2
open PyProof.Rows hiding St
/-! ### dicts whose keys are ints and texts -/
section
variable {X : Cx} {W : WX} {pos : Pos} {o i e f : Expr}
def kDIn (neg : Bool) (ty td : KE) : KE := fun σ G M R E => ty σ G M (fun y G M => td σ G M (fun x G M => match x with
  | .ref a => ∃ (kvs : List (Key × V)) (k : Key), At G M a (.dK kvs) ∧ y = kV k ∧ R (.bl (if neg then !(valV kvs k).isSome else (valV kvs k).isSome)) G M
  | _ => False) E) E
theorem din_sim {ty td : KE} {σ : St} {H : Hp} {Q : VK} (h : upG W (kDIn false ty td) σ H Q) : tDIn (upG W ty) (upG W td) σ H Q := by
  obtain ⟨G, M, R, E, hv, h, hR, hE⟩ := h
  exact ⟨G, M, _, E, hv, h, fun y G1 M1 H1 hv1 q1 => ⟨G1, M1, _, E, hv1, q1, fun x G2 M2 H2 hv2 q2 => by
    match x, q2 with
    | .ref a, ⟨kvs, k, q3, q4, q5⟩ => subst q4; exact ⟨a, _, rfl, DGet.k (hv2.at q3), hR _ G2 M2 H2 hv2 q5⟩, hE⟩, hE⟩
theorem dnotin_sim {ty td : KE} {σ : St} {H : Hp} {Q : VK} (h : upG W (kDIn true ty td) σ H Q) : tDNotIn (upG W ty) (upG W td) σ H Q := by
  obtain ⟨G, M, R, E, hv, h, hR, hE⟩ := h
  exact ⟨G, M, _, E, hv, h, fun y G1 M1 H1 hv1 q1 => ⟨G1, M1, _, E, hv1, q1, fun x G2 M2 H2 hv2 q2 => by
    match x, q2 with
    | .ref a, ⟨kvs, k, q3, q4, q5⟩ => subst q4; exact ⟨a, _, rfl, DGet.k (hv2.at q3), hR _ G2 M2 H2 hv2 q5⟩, hE⟩, hE⟩
theorem je_din {ty td : KE} (hu : X.A.units + 64 < cLine) (hi : JE X W i ty) (ho : JE X W o td) (hm : behindInMarks .In o = false := by first | rfl | with_unfolding_all rfl) : JE X W (.Compare i [.In] [o] pos) (kDIn false ty td) := pe_mono (pe_cmp (pc_din (by omega) hi ho) hm) fun _ _ _ h => din_sim h
theorem jt_din {ty td : KE} (hu : X.A.units + 64 < cLine) (hi : JE X W i ty) (ho : JE X W o td) (hm : behindInMarks .In o = false := by first | rfl | with_unfolding_all rfl) : JT X W (.Compare i [.In] [o] pos) (kT (kDIn false ty td)) := pt_mono (pt_cmp (pc_din (by omega) hi ho) hm) fun _ _ _ h => din_sim (t_sim h)
theorem je_dnotin {ty td : KE} (hu : X.A.units + 64 < cLine) (hi : JE X W i ty) (ho : JE X W o td) (hm : behindInMarks .NotIn o = false := by first | rfl | with_unfolding_all rfl) : JE X W (.Compare i [.NotIn] [o] pos) (kDIn true ty td) := pe_mono (pe_cmp (pc_dnotin (by omega) hi ho) hm) fun _ _ _ h => dnotin_sim h
theorem jt_dnotin {ty td : KE} (hu : X.A.units + 64 < cLine) (hi : JE X W i ty) (ho : JE X W o td) (hm : behindInMarks .NotIn o = false := by first | rfl | with_unfolding_all rfl) : JT X W (.Compare i [.NotIn] [o] pos) (kT (kDIn true ty td)) := pt_mono (pt_cmp (pc_dnotin (by omega) hi ho) hm) fun _ _ _ h => dnotin_sim (t_sim h)
/-- d[k] -/
def kDGet : KR2 := fun x y G M R => match x with
  | .ref a => ∃ (kvs : List (Key × V)) (k : Key) (v : V), At G M a (.dK kvs) ∧ y = kV k ∧ valV kvs k = some v ∧ R v G M
  | _ => False
theorem je_dget {ta tb : KE} (hu : X.A.units + 64 < cLine) (ha : JE X W o ta) (hb : JE X W i tb) (hs : NoSl i := by exact fun _ _ => rfl) : JE X W (.Subscript o i pos) (kBin kDGet ta tb) :=
  pe_mono (pe_dget (by omega) ha hb hs) fun σ H Q ⟨G, M, R, E, hv, h, hR, hE⟩ => ⟨G, M, _, E, hv, h, fun x G1 M1 H1 hv1 q1 => ⟨G1, M1, _, E, hv1, q1, fun y G2 M2 H2 hv2 q2 => by
    match x, q2 with
    | .ref a, ⟨kvs, k, v, q3, q4, q5, q6⟩ =>
      subst q4
      refine ⟨a, v, rfl, ?_, hR _ G2 M2 H2 hv2 q6⟩
      rw [← q5]; exact DGet.k (hv2.at q3), hE⟩, hE⟩
/-- d[k] = v -/
def kDSet (td ty tv : KE) : KS := fun D σ G M => tv σ G M (fun v G M => td σ G M (fun x G M => ty σ G M (fun y G M => match x with
  | .ref a => ∃ (n : Nat) (kvs : List (Key × V)) (k : Key), M[n]? = some (a, .dK kvs) ∧ y = kV k ∧ kvs.length < sizeLine ∧ D.nx σ G (M.set n (a, .dK (putK kvs k v)))
  | _ => False) (D.x σ)) (D.x σ)) (D.x σ)
theorem js_dset {td ty tv : KE} {value : Expr} {pos' : Pos} (hu : X.A.units + 64 < cLine) (ho : JE X W o td) (hi : JE X W i ty) (hv : JE X W value tv) (hs : swapsWith value (some (.Subscript o i pos')) pos.line X.env = pure false := by rfl) :
    JS X W (.Assign [.Subscript o i pos'] value pos) (kDSet td ty tv) := ps_mono (ps_dput (by omega) ho hi hv hs) fun D σ H ⟨G, M, d, hv, h, en⟩ =>
  ⟨G, M, _, _, hv, h, fun v G1 M1 H1 hv1 q => ⟨G1, M1, _, _, hv1, q, fun x G2 M2 H2 hv2 q2 => ⟨G2, M2, _, _, hv2, q2, fun y G3 M3 H3 hv3 q3 => by
    match x, q3 with
    | .ref a, ⟨n, kvs, k, q4, q5, q6, q7⟩ => subst q5; exact ⟨a, _, rfl, DPut.k (hv3.get q4) q6, en.nx _ G3 _ _ (hv3.set q4) q7⟩, fun c a G' M' H' hv' q => en.xc c a σ G' M' H' hv' q⟩, fun c a G' M' H' hv' q => en.xc c a σ G' M' H' hv' q⟩, fun c a G' M' H' hv' q => en.xc c a σ G' M' H' hv' q⟩
/-- d.get(k, x), d.get(k) -/
def kDGet2 (td ty tx : KE) : KE := fun σ G M R E => td σ G M (fun x G M => match x with
  | .ref a => (∃ kvs, At G M a (.dK kvs)) ∧ ty σ G M (fun y G M => tx σ G M (fun z G M => ∃ (kvs : List (Key × V)) (k : Key), At G M a (.dK kvs) ∧ y = kV k ∧ R ((valV kvs k).getD z) G M) E) E
  | _ => False) E
theorem je_dget2 {td ty tx : KE} {apos cpos : Pos} (hu : X.A.units + 64 < cLine) (ho : JE X W o td) (he : JE X W e ty) (hf : JE X W f tx) (m : M2 X o "get" apos e f cpos := by exact ⟨rfl, rfl, rfl, rfl⟩) : JE X W (.Call (.Attribute o "get" apos) [e, f] [] cpos) (kDGet2 td ty tx) :=
  pe_mono (pe_dget2 (by omega) ho he hf m) fun σ H Q ⟨G, M, R, E, hv, h, hR, hE⟩ => ⟨G, M, _, E, hv, h, fun x G1 M1 H1 hv1 q1 => by
    match x, q1 with
    | .ref a, ⟨⟨kvs, q2⟩, q3⟩ => exact ⟨a, rfl, .inl ⟨kvs, .inl (hv1.at q2)⟩, G1, M1, _, E, hv1, q3, fun y G2 M2 H2 hv2 q4 => ⟨G2, M2, _, E, hv2, q4, fun z G3 M3 H3 hv3 q5 => by
        obtain ⟨kvs, k, q6, q7, q8⟩ := q5
        subst q7
        exact ⟨_, DGet.k (hv3.at q6), hR _ G3 M3 H3 hv3 q8⟩, hE⟩, hE⟩, hE⟩
def kDGet1 (td ty : KE) : KE := fun σ G M R E => td σ G M (fun x G M => match x with
  | .ref a => (∃ kvs, At G M a (.dK kvs)) ∧ ty σ G M (fun y G M => ∃ (kvs : List (Key × V)) (k : Key), At G M a (.dK kvs) ∧ y = kV k ∧ R ((valV kvs k).getD .non) G M) E
  | _ => False) E
theorem je_dget1 {td ty : KE} {apos cpos : Pos} (hu : X.A.units + 64 < cLine) (ho : JE X W o td) (he : JE X W e ty) (m : M1 X o "get" apos e cpos := by exact ⟨rfl, rfl, rfl, rfl⟩) : JE X W (.Call (.Attribute o "get" apos) [e] [] cpos) (kDGet1 td ty) :=
  pe_mono (pe_dget1 (by omega) ho he m) fun σ H Q ⟨G, M, R, E, hv, h, hR, hE⟩ => ⟨G, M, _, E, hv, h, fun x G1 M1 H1 hv1 q1 => by
    match x, q1 with
    | .ref a, ⟨⟨kvs, q2⟩, q3⟩ => exact ⟨a, rfl, .inl ⟨kvs, .inl (hv1.at q2)⟩, G1, M1, _, E, hv1, q3, fun y G2 M2 H2 hv2 q5 => by
        obtain ⟨kvs, k, q6, q7, q8⟩ := q5
        subst q7
        exact ⟨_, DGet.k (hv2.at q6), hR _ G2 M2 H2 hv2 q8⟩, hE⟩, hE⟩
/-- d.pop(k, x), d.pop(k) -/
def kDPop2 (td ty tx : KE) : KE := fun σ G M R E => td σ G M (fun x G M => match x with
  | .ref a => (∃ kvs, At G M a (.dK kvs)) ∧ ty σ G M (fun y G M => tx σ G M (fun z G M => ∃ (n : Nat) (kvs : List (Key × V)) (k : Key), M[n]? = some (a, .dK kvs) ∧ y = kV k ∧ (∀ v, valV kvs k = some v → R v G (M.set n (a, .dK (dropK kvs k)))) ∧ (valV kvs k = none → R z G M)) E) E
  | _ => False) E
theorem je_dpop2 {td ty tx : KE} {apos cpos : Pos} (ho : JE X W o td) (he : JE X W e ty) (hf : JE X W f tx) (m : M2 X o "pop" apos e f cpos := by exact ⟨rfl, rfl, rfl, rfl⟩) : JE X W (.Call (.Attribute o "pop" apos) [e, f] [] cpos) (kDPop2 td ty tx) :=
  pe_mono (pe_dpop2 ho he hf m) fun σ H Q ⟨G, M, R, E, hv, h, hR, hE⟩ => ⟨G, M, _, E, hv, h, fun x G1 M1 H1 hv1 q1 => by
    match x, q1 with
    | .ref a, ⟨⟨kvs, q2⟩, q3⟩ => exact ⟨a, rfl, .inl ⟨kvs, .inl (hv1.at q2)⟩, G1, M1, _, E, hv1, q3, fun y G2 M2 H2 hv2 q4 => ⟨G2, M2, _, E, hv2, q4, fun z G3 M3 H3 hv3 q5 => by
        obtain ⟨n, kvs, k, q6, q7, q8, q9⟩ := q5
        exact ⟨kvs, k, hv3.get q6, q7, fun v hv => hR _ G3 _ _ (hv3.set q6) (q8 v hv), fun hv => hR _ G3 M3 H3 hv3 (q9 hv)⟩, hE⟩, hE⟩, hE⟩
def kDPop1 (td ty : KE) : KE := fun σ G M R E => td σ G M (fun x G M => match x with
  | .ref a => (∃ kvs, At G M a (.dK kvs)) ∧ ty σ G M (fun y G M => ∃ (n : Nat) (kvs : List (Key × V)) (k : Key) (v : V), M[n]? = some (a, .dK kvs) ∧ y = kV k ∧ valV kvs k = some v ∧ R v G (M.set n (a, .dK (dropK kvs k)))) E
  | _ => False) E
theorem je_dpop1 {td ty : KE} {apos cpos : Pos} (ho : JE X W o td) (he : JE X W e ty) (m : M1 X o "pop" apos e cpos := by exact ⟨rfl, rfl, rfl, rfl⟩) : JE X W (.Call (.Attribute o "pop" apos) [e] [] cpos) (kDPop1 td ty) :=
  pe_mono (pe_dpop1 ho he m) fun σ H Q ⟨G, M, R, E, hv, h, hR, hE⟩ => ⟨G, M, _, E, hv, h, fun x G1 M1 H1 hv1 q1 => by
    match x, q1 with
    | .ref a, ⟨⟨kvs, q2⟩, q3⟩ => exact ⟨a, rfl, .inl ⟨kvs, .inl (hv1.at q2)⟩, G1, M1, _, E, hv1, q3, fun y G2 M2 H2 hv2 q5 => by
        obtain ⟨n, kvs, k, v, q6, q7, q8, q9⟩ := q5
        exact ⟨kvs, k, v, hv2.get q6, q7, q8, hR _ G2 _ _ (hv2.set q6) q9⟩, hE⟩, hE⟩
/-- d.setdefault(k, x) -/
def kDSetd (td ty tx : KE) : KE := fun σ G M R E => td σ G M (fun x G M => match x with
  | .ref a => (∃ kvs, At G M a (.dK kvs)) ∧ ty σ G M (fun y G M => tx σ G M (fun z G M => ∃ (n : Nat) (kvs : List (Key × V)) (k : Key), M[n]? = some (a, .dK kvs) ∧ y = kV k ∧ kvs.length < sizeLine ∧ (∀ v, valV kvs k = some v → R v G M) ∧ (valV kvs k = none → R z G (M.set n (a, .dK (putK kvs k z))))) E) E
  | _ => False) E
theorem je_dsetd {td ty tx : KE} {apos cpos : Pos} (ho : JE X W o td) (he : JE X W e ty) (hf : JE X W f tx) (m : M2 X o "setdefault" apos e f cpos := by exact ⟨rfl, rfl, rfl, rfl⟩) : JE X W (.Call (.Attribute o "setdefault" apos) [e, f] [] cpos) (kDSetd td ty tx) :=
  pe_mono (pe_dsetd ho he hf m) fun σ H Q ⟨G, M, R, E, hv, h, hR, hE⟩ => ⟨G, M, _, E, hv, h, fun x G1 M1 H1 hv1 q1 => by
    match x, q1 with
    | .ref a, ⟨⟨kvs, q2⟩, q3⟩ => exact ⟨a, rfl, .inl ⟨kvs, .inl (hv1.at q2)⟩, G1, M1, _, E, hv1, q3, fun y G2 M2 H2 hv2 q4 => ⟨G2, M2, _, E, hv2, q4, fun z G3 M3 H3 hv3 q5 => by
        obtain ⟨n, kvs, k, q6, q7, q8, q9, q10⟩ := q5
        exact ⟨kvs, k, hv3.get q6, q7, q8, fun v hv => hR _ G3 M3 H3 hv3 (q9 v hv), fun hv => hR _ G3 _ _ (hv3.set q6) (q10 hv)⟩, hE⟩, hE⟩, hE⟩
/-- sorted(d), list(d), len(d) -/
def kSortedD : KC := fun vs G M R => match vs with
  | [.ref a] => ∃ (kvs : List (Key × V)) (ks : List Int), At G M a (.dK kvs) ∧ kvs.map (·.1) = ks.map Sum.inl ∧ ks.length < 64 ∧ ∀ (ys : List Int) (p : Addr), ys.Perm ks → ys.Pairwise (· ≤ ·) → Fr G M p → R (.ref p) G ((p, .lst (ys.map V.int)) :: M)
  | _ => False
theorem kc_sortedD (hc : X.calm = true := by rfl) : KCall X (.builtin "sorted") kSortedD := kcall_of (call_sortedDI hc) fun vs G M R H Q hv h hR => by
  match vs, h with
  | [.ref a], ⟨kvs, ks, h1, h2, h3, h4⟩ => exact ⟨a, kvs, ks, rfl, .inl (hv.at h1), h2, h3, fun ys p q1 q2 q3 => hR _ G _ _ (hv.newM q3) (h4 ys p q1 q2 (hv.fr q3))⟩
def kListD : KC := fun vs G M R => match vs with
  | [.ref a] => ∃ kvs : List (Key × V), At G M a (.dK kvs) ∧ ∀ p, Fr G M p → R (.ref p) G ((p, .lst (kvs.map fun kv => kV kv.1)) :: M)
  | _ => False
theorem kc_listD (hc : X.calm = true := by rfl) : KCall X (.type "list") kListD := kcall_of (call_listD hc) fun vs G M R H Q hv h hR => by
  match vs, h with
  | [.ref a], ⟨kvs, h1, h2⟩ => exact ⟨a, kvs, rfl, .inl (hv.at h1), fun p q3 => hR _ G _ _ (hv.newM q3) (h2 p (hv.fr q3))⟩
def kLenD : KC := fun vs G M R => match vs with
  | [.ref a] => ∃ kvs : List (Key × V), At G M a (.dK kvs) ∧ R (.int kvs.length) G M
  | _ => False
theorem kc_lenD : KCall X (.builtin "len") kLenD := kcall_of call_lenD fun vs G M R H Q hv h hR => by
  match vs, h with
  | [.ref a], ⟨kvs, h1, h2⟩ => exact ⟨a, kvs, rfl, hv.at h1, hR _ G M H hv h2⟩
/-- x, y = a, b, two local names -/
def kPar (i j : Nat) (t : KA) : KS := fun D σ G M => t σ G M (fun vs G M => match vs with
  | [v, w] => D.nx ((σ.set i (some v)).set j (some w)) G M
  | _ => False) (D.x σ)
theorem js_par {i j : Nat} {x y : Str} {a b : Expr} {ta : KA} {px py pt : Pos} {kt k2 pt2} (hN : X.N.Nodup) (ha : JA X W [a, b] ta) (hc : X.calm = true := by rfl) (hi : X.N[i]? = some x := by rfl) (hj : X.N[j]? = some y := by rfl) (hij : i ≠ j := by decide)
    (hx : X.env.scope.names.lookup x = some .local := by rfl) (hy : X.env.scope.names.lookup y = some .local := by rfl)
    (hw : swappedStores [.Tuple [.Name x px, .Name y py] kt pt] (.Tuple [a, b] k2 pt2) X.env = pure (some [x, y]) := by rfl)
    (hs : swapsWithSole [.Tuple [.Name x px, .Name y py] kt pt] (.Tuple [a, b] k2 pt2) pos.line X.env = pure false := by rfl) :
    JS X W (.Assign [.Tuple [.Name x px, .Name y py] kt pt] (.Tuple [a, b] k2 pt2) pos) (kPar i j ta) :=
  ps_mono (ps_par hc hN hi hj hij hx hy ha hw hs) fun D σ H ⟨G, M, d, hv, h, en⟩ => ⟨G, M, _, _, hv, h, fun vs G1 M1 H1 hv1 q => by
    match vs, q with
    | [v, w], q => exact ⟨v, w, rfl, en.nx _ G1 M1 H1 hv1 q⟩, fun c a G' M' H' hv' q => en.xc c a σ G' M' H' hv' q⟩
end
end BT
set_option Elab.async false
set_option linter.all false
set_option maxRecDepth 100000
set_option maxHeartbeats 4000000
namespace BT
open PySem PySem.Spec L2
open PyProof.Rows hiding St
/-! ### slices and sums of tuples, unpacked lists -/
section
variable {X : Cx} {W : WX} {pos : Pos} {o i e f : Expr}
/-- a tuple's slice; the whole of it is the tuple itself -/
def cutT (K : PySem.W.Frag) (x : V) (lo hi : Option Int) (G : Hp) (M : Mem) (R : KR) : Prop := match x with
  | .ref a => ∃ xs, SqT K G a xs ∧ (HT.sIx xs.length 0 lo = 0 ∧ HT.sIx xs.length xs.length hi = xs.length → R (.ref a) G M) ∧ (¬ (HT.sIx xs.length 0 lo = 0 ∧ HT.sIx xs.length xs.length hi = xs.length) → ∀ p, Fr G M p → R (.ref p) (upd G p (.tup (cutV xs lo hi))) M)
  | _ => False
def kSlT (K : PySem.W.Frag) (t : KE) (tl th : KO) : KE := fun σ G M R E => t σ G M (fun x G M => tl σ G M (fun l G M => th σ G M (fun u G M => cutT K x l u G M R) E) E) E
theorem je_slT {t : KE} {lo hi : Option Expr} {tl th : KO} {p2 : Pos} (he : JE X W e t) (hl : JO X W lo tl) (hu : JO X W hi th) : JE X W (.Subscript e (.Slice lo hi none p2) pos) (kSlT X.K t tl th) :=
  pe_mono (pe_slice sl_tupA he hl hu) fun σ H Q ⟨G, M, R, E, hv, h, hR, hE⟩ => ⟨G, M, _, E, hv, h, fun x G1 M1 H1 hv1 h1 => ⟨G1, M1, _, E, hv1, h1, fun l G2 M2 H2 hv2 h2 => ⟨G2, M2, _, E, hv2, h2, fun u G3 M3 H3 hv3 h3 => by
    match x, h3 with
    | .ref a, ⟨xs, q1, q2, q3⟩ => exact ⟨_, xs, rfl, hv3.tup q1, fun z => hR _ G3 M3 H3 hv3 (q2 z), fun z p hp => hR _ _ _ _ (hv3.newG hp) (q3 z p (hv3.fr hp))⟩, hE⟩, hE⟩, hE⟩
/-- (a, b, ..) = a list of that length -/
def kgUnl (K : PySem.W.Frag) (n : Nat) (g : KGs) : KG := ⟨fun v σ G M R => match v with
    | .ref a => ∃ xs, LstAt K G M a xs ∧ onLen n g xs σ G M R
    | _ => False, fun _ _ _ _ _ => False⟩
theorem jg_unl {K : PySem.W.Frag} {ts : List Expr} {g : KGs} {gs : TGs} {n k : Nat} (hc : X.calm = true) (h : JGs X ts g gs) (hK : X.K = K := by rfl) (hn : (assignEach ts X.env).length = n := by rfl) (hst : (assignEach ts X.env).findIdx? (·.1) = none := by rfl) :
    JG X (.Tuple ts k pos) (kgUnl K n g) (gUnl K n gs) := by
  subst hK
  exact ⟨pg_unl hc h.pgs hn hst, fun v σ G M R H Q hv q hR => by
    match v, q with
    | .ref a, ⟨xs, q1, q2⟩ =>
      obtain ⟨e, q3⟩ := onLen_of q2
      exact ⟨a, xs, rfl, hv.lst q1, e, h.sim xs σ G M R H Q hv q3 hR⟩,
   fun T vs σ G M R H Q hv hT q hR => q.elim⟩
/-- the sum of two tuples -/
def kCat (K : PySem.W.Frag) : KR2 := fun x y G M R => match x, y with
  | .ref a, .ref b => ∃ xs ys, SqT K G a xs ∧ SqT K G b ys ∧ xs.length + ys.length ≤ sizeLine ∧ (xs = [] → R (.ref b) G M) ∧ (xs ≠ [] → ys = [] → R (.ref a) G M) ∧ (xs ≠ [] → ys ≠ [] → ∀ p, Fr G M p → R (.ref p) (upd G p (.tup (xs ++ ys))) M)
  | _, _ => False
theorem kop_cat : KOp X (binaryOp .Add) (kCat X.K) := kop_of op_catA fun x y G M R H Q hv h hR => by
  match x, y, h with
  | .ref a, .ref b, ⟨xs, ys, h1, h2, h3, h4, h5, h6⟩ => exact ⟨a, b, xs, ys, rfl, rfl, hv.tup h1, hv.tup h2, h3, fun z => hR _ G M H hv (h4 z), fun z w => hR _ G M H hv (h5 z w), fun z w p hp => hR _ _ _ _ (hv.newG hp) (h6 z w p (hv.fr hp))⟩
end
end BT
set_option Elab.async false
set_option linter.all false
set_option maxRecDepth 100000
set_option maxHeartbeats 4000000
namespace BT
open PySem PySem.Spec L2
open PyProof.Rows hiding St
/-! ### isinstance(err, (C, D, ..)); except C without a name -/
def orTab (a b : List (Str × Bool)) : List (Str × Bool) := a.zipWith (fun p q => (p.1, p.2 || q.2)) b
theorem orTab_mem : ∀ {a b : List (Str × Bool)}, a.map (·.1) = b.map (·.1) → ∀ p, p ∈ orTab a b → ∃ x y, (p.1, x) ∈ a ∧ (p.1, y) ∈ b ∧ p.2 = (x || y)
  | [], _, _, p, h => by simp [orTab] at h
  | _ :: _, [], _, p, h => by simp [orTab] at h
  | u :: a, v :: b, e, p, h => by
    have e1 : u.1 = v.1 := by simpa using (List.cons.inj e).1
    rcases List.mem_cons.mp (show p ∈ (u.1, u.2 || v.2) :: orTab a b from h) with rfl | h
    · exact ⟨u.2, v.2, List.mem_cons_self, by rw [e1]; exact List.mem_cons_self, rfl⟩
    · obtain ⟨x, y, h1, h2, h3⟩ := orTab_mem (List.cons.inj e).2 p h
      exact ⟨x, y, List.mem_cons_of_mem _ h1, List.mem_cons_of_mem _ h2, h3⟩
structure IsT (K : PySem.W.Frag) (cs : List V) (us : List Value) (tab : List (Str × Bool)) : Prop where
  p : Paired ClsV cs us
  n : PySem.W.kitAny K (.type "NoneType") us = some false
  t : ∀ p ∈ tab, ExcC K (cl K p.1) ∧ PySem.W.kitAny K (.ref (cl K p.1)) us = some p.2
theorem IsT.cons {K : PySem.W.Frag} {c : V} {u : Value} {cs : List V} {us : List Value} {tab tab1 : List (Str × Bool)} (hc : ClsV c u) (hn : PySem.W.kitOne K (.type "NoneType") u = some false)
    (ht : ∀ p ∈ tab1, ExcC K (cl K p.1) ∧ PySem.W.kitOne K (.ref (cl K p.1)) u = some p.2) (h : IsT K cs us tab) (e : tab1.map (·.1) = tab.map (·.1) := by rfl) : IsT K (c :: cs) (u :: us) (orTab tab1 tab) :=
  ⟨.cons hc h.p, kitAny_cons hn (fun _ => h.n) (fun z => nomatch z), fun p hp => by
    obtain ⟨x, y, h1, h2, h3⟩ := orTab_mem e p hp
    obtain ⟨q1, q2⟩ := ht _ h1
    refine ⟨q1, kitAny_cons q2 (fun z => ?_) (fun z => ?_)⟩
    · rw [h3, show x = false from z]
      exact (h.t _ h2).2
    · rw [h3, show x = true from z]; rfl⟩
theorem IsT.one {K : PySem.W.Frag} {c : V} {u : Value} {tab1 : List (Str × Bool)} (hc : ClsV c u) (hn : PySem.W.kitOne K (.type "NoneType") u = some false)
    (ht : ∀ p ∈ tab1, ExcC K (cl K p.1) ∧ PySem.W.kitOne K (.ref (cl K p.1)) u = some p.2) : IsT K [c] [u] tab1 :=
  ⟨.cons hc .nil, kitAny_cons hn (fun _ => rfl) (fun z => nomatch z), fun p hp => by
    obtain ⟨q1, q2⟩ := ht p hp
    exact ⟨q1, kitAny_cons q2 (fun z => by rw [z]; rfl) (fun z => z)⟩⟩
section
variable {X : Cx} {W : WX} {pos : Pos}
def kIsXT (K : PySem.W.Frag) (cs : List V) (tab : List (Str × Bool)) : KC := fun vs G M R => match vs with
  | [.non, .ref t] => G t = some (.tup cs) ∧ R (.bl false) G M
  | [.ref a, .ref t] => G t = some (.tup cs) ∧ ∃ p ∈ tab, At G M a (ErA K p.1 none a) ∧ R (.bl p.2) G M
  | _ => False
theorem kc_isXT {tab : List (Str × Bool)} {cs : List V} {us : List Value} (T : IsT X.K cs us tab) : KCall X (.builtin "isinstance") (kIsXT X.K cs tab) := by
  intro pins s σ H xs ws Q I r h
  obtain ⟨G, M, R, hv, h, hR⟩ := h
  match xs, h with
  | [.non, .ref t], h2 =>
    obtain ⟨ht, h3⟩ := h2
    exact (call_isiT (X := X)) pins s σ H [.non, .ref t] _ Q I r ⟨_, t, cs, .type "NoneType", us, false, rfl, hv.ex _ _ ht, T.p, .base .non, T.n, hR _ _ _ _ hv h3⟩
  | [.ref a, .ref t], h2 =>
    obtain ⟨ht, p, hp, ha, h3⟩ := h2
    obtain ⟨C, e⟩ := T.t p hp
    obtain ⟨u1, u2, rfl, r1, r2⟩ := vals2 r
    cases (show u2 = Value.ref t from r2)
    cases (show u1 = Value.ref a from r1)
    have hH : H a = some (ErA X.K p.1 none a) := hv.at ha
    obtain ⟨⟨oe, vs, hget, hz, hd⟩, _, _⟩ := I.hok a _ hH
    have J : PySem.W.InstAt s.heap a oe (cl X.K p.1) none := by
      obtain ⟨oc, od, oda, osl⟩ := oe
      obtain ⟨h1, h2⟩ := hz
      dsimp only at h1 h2 hd
      subst h1 h2 hd
      exact ⟨hget, rfl, rfl, trivial⟩
    obtain ⟨_, its, rv, o, h1, h2, n, h3'⟩ := (show ObjOk X.prog X.w H s.heap t (.tup cs) from I.hok t _ (hv.ex _ _ ht))
    have e3 := ClsV.all T.p rv
    subst e3
    obtain ⟨oc, od, dt, sl⟩ := o
    simp only at h2 h3'
    subst h2 h3'
    exact PySem.W.kia_tup (PySem.W.handS_kitx_exc C.hg C.hk C.hs C.hd C.ha C.hn C.ht C.hm) I.kIn J h1 e (fun z => nomatch z) fun tk => ⟨.bl p.2, H, I.kept (t' := tk) fun _ _ z => z, rfl, hR _ _ _ _ hv h3⟩
/-- try: t, except C: u -/
def kTryO (K : PySem.W.Frag) (tab : List (Str × Bool)) (t u : KS) : KS := fun D σ G M => t { D with xc := fun c d σ' G' M' => ∃ p ∈ tab, c = .ref (cl K p.1) ∧
  (if p.2 = true then u { D with xc := fun _ _ _ _ _ => False } σ' G' M' else D.xc c d σ' G' M') } σ G M
theorem js_tryO {K : PySem.W.Frag} {x : Str} {tab : List (Str × Bool)} {body suite : List Stmt} {b0 : Stmt} {t u : KS} {np pos' : Pos} (g : XG X.K X.mg x) (ht : ∀ p ∈ tab, PySem.W.exmOne X.K (.ref (cl X.K p.1)) (.ref (cl X.K x)) = some p.2) (tk : Takes X W)
    (hb : ∀ (W : WX) (pn : List (Addr × Obj)) (xe : Value → Shared → Prop), Takes (X.tr pn xe) W → PassesOwn (model X.prog X.w) X.A X.env xe → JSs (X.tr pn xe) W body t)
    (hsu : ∀ (a : Addr) (oe : Obj) (pn : List (Addr × Obj)), JSs (X.suite a ((a, oe) :: pn)) W0 (b0 :: suite) u)
    (hK : X.K = K := by rfl) (hs : X.stack = X.env :: X.outer := by rfl) (hf : X.env.frame = some X.env.locals := by rfl) (hg : Gl X x := by rfl) (hxd : (x == ("__debug__" : Str)) = false := by decide) :
    JS X W (.Try body [.ExceptHandler (some (.Name x np)) none (b0 :: suite) pos'] [] [] pos) (kTryO K tab t u) := by
  subst hK
  refine ps_mono (ps_try_only (c := .ref (cl X.K x)) (tb := fun W => upS W t) (ts := fun _ _ _ => upS W0 u) hs hf ⟨hg, hxd, .inl g.g⟩ tk hb (fun a oe cls d pn _ _ => hsu a oe pn)) fun D σ H ⟨G, M, d, hv, h, en⟩ => ?_
  refine ⟨G, M, _, hv, h, ⟨en.nx, en.rt, en.bk, en.ct, fun c e σ' G' M' H' hv' q => ?_⟩⟩
  obtain ⟨p, hp, rfl, q⟩ := q
  refine ⟨p.2, ht p hp, fun hb a na => ?_, fun hb => ?_⟩
  · rw [if_pos hb] at q
    exact ⟨G', M', _, hv', q, ⟨en.nx, en.rt, en.bk, en.ct, fun _ _ _ _ _ _ _ z => z.elim⟩⟩
  · rw [if_neg (by rw [hb]; exact Bool.false_ne_true)] at q
    exact en.xc _ _ _ _ _ _ hv' q
end
end BT
namespace PySem.SeqAt
open AutoSeq1 (wpAny_loadPart')
open MeetsSeq
theorem bt_str_eq_declines (b : Str) (u : Tok) (l : Addr) (c : Value) (es : _) (ep : _) (dd : Option Addr) (sl : Array (Option Value)) :
    Meets (Builtin.«str.__eq__» ⟨[.str b u, .ref l], []⟩) (fun _ R s => s.heap.get? l = some ⟨c, dd, .dict es ep, sl⟩ ∧ R (.ok (.ret .notImplemented)) s) :=
  .of_wp fun prog w A R s h => by obtain ⟨hp, g, d, tk, os⟩ := s; obtain ⟨hl, h⟩ := h; wp_walk using wpAny_loadPart' hl, wpAny_load hl; exact ⟨_, rfl, h⟩
theorem bt_dict_eq_declines (l : Addr) (es : _) (ep : _) (dd : Option Addr) (sl : Array (Option Value)) (b : Str) (u : Tok) :
    Meets (Builtin.«dict.__eq__» ⟨[.ref l, .str b u], []⟩) (fun _ R s => s.heap.get? l = some ⟨.type "dict", dd, .dict es ep, sl⟩ ∧ R (.ok (.ret .notImplemented)) s) :=
  .of_wp fun prog w A R s h => by obtain ⟨hp, g, d, tk, os⟩ := s; obtain ⟨hl, h⟩ := h; have f1 := F.sub_str_dict; wp_walk using wpAny_loadPart' hl, wpAny_load hl; exact ⟨_, rfl, h⟩
theorem bt_dict_str {A : Around} {s : Shared} {l : Addr} {o : Obj} {es : _} {ep : _} (b : Str) (u : Tok) (ho : s.heap.get? l = some o) (hx : o.ExactDict) (hd : o.data = .dict es ep) (hu : A.units < cLine) : RcAt A s (.ref l) (.str b u) false := fun prog w E Q h => by
  obtain ⟨cls, dd, data, sl⟩ := o
  obtain ⟨hc, h2, h3⟩ := hx
  simp only at hc hd
  subst hc hd
  exact rc_eq_decline_or (k := false) ⟨_, ho, rfl⟩ (typeIs_str s b u) (by decide) F.sub_str_dict F.slot_dict_eq F.slot_str_eq_refl
    (fun _ hq => call_meets F.slot_dict_eq ⟨_, ho, rfl⟩ F.entry_dict_eq (F.args_dict_eq_2 _ _) (bt_dict_eq_declines l es ep dd sl b u) ⟨ho, hq⟩)
    (fun _ hq => call_meets F.slot_str_eq_refl (typeIs_str s b u) F.entry_str_eq (F.args_str_eq_2 _ _) (bt_str_eq_declines b u l (.type "dict") es ep dd sl) ⟨ho, hq⟩)
    (fun _ hq => wpAny_of_eq (rfl : isSame (.ref l) (.str b u) = pure false) hq) (.inr hu) h
end PySem.SeqAt
namespace BT
open PySem PySem.Spec L2
open PyProof.Rows hiding St
/-- == of what may be a dict, and a text -/
def kEqD (K : PySem.W.Frag) : KR2 := fun x y G M R => kEqv false K x y G M R ∨ ∃ (a : Addr) (s : Str) (kvs : List (Key × V)), x = .ref a ∧ y = .str s ∧ At G M a (.dK kvs) ∧ R (.bl false) G M
theorem kop_eqD {X : Cx} (hu : X.A.units + 64 < cLine) : KOp X (compareOp .Eq) (kEqD X.K) := fun pins s σ H x y v u Q G M R I rx ry hv h hR => by
  rcases h with h | ⟨a, t, kvs, rfl, rfl, ha, h⟩
  · exact kop_eq hu pins s σ H x y v u Q G M R I rx ry hv h hR
  · cases (show v = Value.ref a from rx)
    obtain ⟨tk, e⟩ := (show ∃ t', u = Value.str t t' from ry)
    subst e
    obtain ⟨_, _, vs, _, o, es, ep, h1, h2, h3, _⟩ := (show ObjOk X.prog X.w H s.heap a (.dK kvs) from I.hok a _ (hv.at ha))
    exact SeqAt.bt_dict_str t tk h1 h2 h3 (by omega) _ _ _ _ ⟨.bl false, H, I, rfl, hR _ G M H hv h⟩
end BT
set_option Elab.async false
set_option linter.all false
set_option maxRecDepth 100000
set_option maxHeartbeats 4000000
namespace BT
open PySem PySem.Spec L2
open PyProof.Rows hiding St
/-! ### written data: what a display of constants lays -/
inductive XD where
  | non
  | bl (b : Bool)
  | int (i : Int)
  | str (s : Str)
  | list (l : List XD)
  | tup (l : List XD)
  | dict
mutual
inductive Rp (K : PySem.W.Frag) (G : Hp) (Mx : Mem) : V → XD → Prop where
  | non : Rp K G Mx .non .non
  | bl (b : Bool) : Rp K G Mx (.bl b) (.bl b)
  | int (i : Int) : Rp K G Mx (.int i) (.int i)
  | str (s : Str) : Rp K G Mx (.str s) (.str s)
  | list {a : Addr} {vs : List V} {ds : List XD} : ((a, HO.lst vs) ∈ Mx ∨ G a = some (.lst vs)) → RpA K G Mx vs ds → Rp K G Mx (.ref a) (.list ds)
  | tup {a : Addr} {vs : List V} {ds : List XD} : SqT K G a vs → RpA K G Mx vs ds → Rp K G Mx (.ref a) (.tup ds)
  | dict {a : Addr} : ((a, HO.dK []) ∈ Mx ∨ G a = some (.dK [])) → Rp K G Mx (.ref a) .dict
inductive RpA (K : PySem.W.Frag) (G : Hp) (Mx : Mem) : List V → List XD → Prop where
  | nil : RpA K G Mx [] []
  | cons {v : V} {d : XD} {vs : List V} {ds : List XD} : Rp K G Mx v d → RpA K G Mx vs ds → RpA K G Mx (v :: vs) (d :: ds)
end
section
variable {K : PySem.W.Frag} {G G' : Hp} {Mx My M : Mem}
mutual
theorem Rp.mono (f : ∀ a o, ((a, o) ∈ Mx ∨ G a = some o) → ((a, o) ∈ My ∨ G' a = some o)) (e : Ex G G') : ∀ {v : V} {d : XD}, Rp K G Mx v d → Rp K G' My v d
  | _, _, .non => .non
  | _, _, .bl b => .bl b
  | _, _, .int b => .int b
  | _, _, .str b => .str b
  | _, _, .list h hs => .list (f _ _ h) (RpA.mono f e hs)
  | _, _, .tup h hs => .tup (ex_t e h) (RpA.mono f e hs)
  | _, _, .dict h => .dict (f _ _ h)
theorem RpA.mono (f : ∀ a o, ((a, o) ∈ Mx ∨ G a = some o) → ((a, o) ∈ My ∨ G' a = some o)) (e : Ex G G') : ∀ {vs : List V} {ds : List XD}, RpA K G Mx vs ds → RpA K G' My vs ds
  | _, _, .nil => .nil
  | _, _, .cons h hs => .cons (Rp.mono f e h) (RpA.mono f e hs)
end
theorem Rp.up {v : V} {d : XD} (e : Ex G G') (s : ∀ x, x ∈ Mx → x ∈ My) (h : Rp K G Mx v d) : Rp K G' My v d := h.mono (fun a o q => q.elim (fun z => .inl (s _ z)) (fun z => .inr (e _ _ z))) e
theorem RpA.up {v : List V} {d : List XD} (e : Ex G G') (s : ∀ x, x ∈ Mx → x ∈ My) (h : RpA K G Mx v d) : RpA K G' My v d := h.mono (fun a o q => q.elim (fun z => .inl (s _ z)) (fun z => .inr (e _ _ z))) e
theorem Rp.ex {v : V} {d : XD} (e : Ex G G') (h : Rp K G Mx v d) : Rp K G' Mx v d := h.up e fun _ z => z
theorem RpA.ex {v : List V} {d : List XD} (e : Ex G G') (h : RpA K G Mx v d) : RpA K G' Mx v d := h.up e fun _ z => z
theorem RpA.len : ∀ {vs : List V} {ds : List XD}, RpA K G Mx vs ds → vs.length = ds.length
  | _, _, .nil => rfl
  | _, _, .cons _ hs => by rw [List.length_cons, List.length_cons, hs.len]
theorem RpA.app : ∀ {vs ws : List V} {ds es : List XD}, RpA K G Mx vs ds → RpA K G Mx ws es → RpA K G Mx (vs ++ ws) (ds ++ es)
  | _, _, _, _, .nil, h => h
  | _, _, _, _, .cons a b, h => .cons a (b.app h)
theorem RpA.get : ∀ {vs : List V} {ds : List XD} {i : Nat}, RpA K G Mx vs ds → i < vs.length → ∃ v d, vs[i]? = some v ∧ ds[i]? = some d ∧ Rp K G Mx v d
  | _, _, _, .nil, h => by simp at h
  | _, _, 0, .cons a _, _ => ⟨_, _, rfl, rfl, a⟩
  | _, _, i + 1, .cons _ b, h => by
    obtain ⟨v, d, h1, h2, h3⟩ := RpA.get (i := i) b (by simpa using h)
    exact ⟨v, d, by simpa using h1, by simpa using h2, h3⟩
/-- cells of its own -/
def NewC (G : Hp) (Mx : Mem) : Prop := (∀ x, x ∈ Mx → G x.1 = none) ∧ (Mx.map (·.1)).Nodup
theorem NewC.nil : NewC G [] := ⟨fun _ z => (nomatch z), List.nodup_nil⟩
def frzA (G : Hp) (Mx : Mem) : Hp := Mx.foldr (fun x g => upd g x.1 x.2) G
theorem frzA_wk : ∀ (Mx : Mem) (G : Hp) (M : Mem), Wk G (Mx ++ M) (frzA G Mx) M
  | [], G, M => Wk.refl
  | x :: Mx, G, M => by
    refine Wk.trans (Wk.perm (M' := Mx ++ x :: M) ?_) ((frzA_wk Mx G (x :: M)).trans Wk.frz0)
    exact List.perm_middle
theorem frzA_ne : ∀ {Mx : Mem} {G : Hp} {a : Addr}, (∀ x, x ∈ Mx → x.1 ≠ a) → frzA G Mx a = G a
  | [], _, _, _ => rfl
  | x :: Mx, G, a, h => by
    show upd (frzA G Mx) x.1 x.2 a = _
    rw [upd_ne (Ne.symm (h x List.mem_cons_self))]
    exact frzA_ne fun y hy => h y (List.mem_cons_of_mem _ hy)
theorem frzA_ex (h : NewC G Mx) : Ex G (frzA G Mx) := fun a o e => by
  rw [frzA_ne]
  · exact e
  · intro x hx z
    rw [← z, h.1 x hx] at e
    cases e
theorem frzA_at : ∀ {Mx : Mem} {G : Hp}, (Mx.map (·.1)).Nodup → ∀ x, x ∈ Mx → frzA G Mx x.1 = some x.2
  | [], _, _, _, h => nomatch h
  | y :: Mx, G, hn, x, h => by
    rw [List.map_cons, List.nodup_cons] at hn
    show upd (frzA G Mx) y.1 y.2 x.1 = _
    rcases List.mem_cons.mp h with rfl | h
    · exact upd_same
    · rw [upd_ne (fun z => hn.1 (by rw [← z]; exact List.mem_map.mpr ⟨x, h, rfl⟩))]
      exact frzA_at hn.2 x h
theorem Rp.frz {v : V} {d : XD} (n : NewC G Mx) (h : Rp K G Mx v d) : Rp K (frzA G Mx) [] v d := h.mono (fun a o q => q.elim (fun z => .inr (frzA_at n.2 (a, o) z)) (fun z => .inr (frzA_ex n _ _ z))) (frzA_ex n)
theorem RpA.frz {v : List V} {d : List XD} (n : NewC G Mx) (h : RpA K G Mx v d) : RpA K (frzA G Mx) [] v d := h.mono (fun a o q => q.elim (fun z => .inr (frzA_at n.2 (a, o) z)) (fun z => .inr (frzA_ex n _ _ z))) (frzA_ex n)
theorem frzA_fr {p : Addr} (h : Fr G (Mx ++ M) p) : Fr (frzA G Mx) M p := ⟨by rw [frzA_ne (fun x hx => h.2 x (List.mem_append.mpr (.inl hx)))]; exact h.1, fun x hx => h.2 x (List.mem_append.mpr (.inr hx))⟩
/-- a cell more, a tuple more -/
theorem NewC.cell {p : Addr} {o : HO} (h : NewC G Mx) (f : Fr G (Mx ++ M) p) : NewC G ((p, o) :: Mx) := by
  refine ⟨fun x hx => ?_, ?_⟩
  · rcases List.mem_cons.mp hx with rfl | hx
    · exact f.1
    · exact h.1 x hx
  · rw [List.map_cons, List.nodup_cons]
    refine ⟨fun z => ?_, h.2⟩
    obtain ⟨y, hy, e⟩ := List.mem_map.mp z
    exact f.2 y (List.mem_append.mpr (.inl hy)) e
theorem NewC.tup {p : Addr} {o : HO} (h : NewC G Mx) (f : Fr G (Mx ++ M) p) : NewC (upd G p o) Mx :=
  ⟨fun x hx => by rw [upd_ne (f.2 x (List.mem_append.mpr (.inl hx)))]; exact h.1 x hx, h.2⟩
/-- an expression that lays written data -/
def LitOk (K : PySem.W.Frag) (te : KE) (σ : St) (G : Hp) (d : XD) : Prop := ∀ (G0 : Hp) (My M : Mem) (R : KR) (E : KX), Ex G G0 → NewC G0 My → (∀ v G' Mx, Ex G0 G' → NewC G' (Mx ++ My) → Rp K G' Mx v d → R v G' (Mx ++ (My ++ M))) → te σ G0 (My ++ M) R E
def LitsOk (K : PySem.W.Frag) (ta : KA) (σ : St) (G : Hp) (ds : List XD) : Prop := ∀ (G0 : Hp) (My M : Mem) (R : List V → Hp → Mem → Prop) (E : KX), Ex G G0 → NewC G0 My → (∀ vs G' Mx, Ex G0 G' → NewC G' (Mx ++ My) → RpA K G' Mx vs ds → R vs G' (Mx ++ (My ++ M))) → ta σ G0 (My ++ M) R E
end
section
variable {K : PySem.W.Frag} {σ : St} {G : Hp} {te ta tb : KE} {tas : KA} {ds es : List XD} {d : XD}
theorem lit_pure {v : V} (h : ∀ G0 M R E, Ex G G0 → R v G0 M → te σ G0 M R E) (r : Rp K G [] v d) : LitOk K te σ G d := fun G0 My M R E e n q => h G0 _ R E e (q v G0 [] Ex.refl n (r.ex e))
theorem lit_int {i : Int} : LitOk K (kC (.int i)) σ G (.int i) := lit_pure (fun _ _ _ _ _ q => q) (.int i)
theorem lit_bl {i : Bool} : LitOk K (kC (.bl i)) σ G (.bl i) := lit_pure (fun _ _ _ _ _ q => q) (.bl i)
theorem lit_str {i : Str} : LitOk K (kC (.str i)) σ G (.str i) := lit_pure (fun _ _ _ _ _ q => q) (.str i)
theorem lit_non : LitOk K (kC .non) σ G .non := lit_pure (fun _ _ _ _ _ q => q) .non
theorem lit_neg {i : Int} : LitOk K (kUn kNeg (kC (.int i))) σ G (.int (-i)) := lit_pure (fun _ _ _ _ _ q => q) (.int _)
theorem lit_var {i : Nat} {v : V} (h : σ[i]? = some (some v)) (r : Rp K G [] v d) : LitOk K (kVar i) σ G d := lit_pure (v := v) (fun _ _ _ _ _ q => by unfold kVar; rw [h]; exact q) r
theorem lit_dict : LitOk K kDNew σ G .dict := fun G0 My M R E e n q p fp => q _ G0 [(p, .dK [])] Ex.refl (n.cell fp) (.dict (.inl List.mem_cons_self))
theorem lits_nil : LitsOk K kNil σ G [] := fun G0 My M R E e n q => q [] G0 [] Ex.refl n .nil
theorem lits_cons (h : LitOk K te σ G d) (hs : LitsOk K tas σ G ds) : LitsOk K (kCons te tas) σ G (d :: ds) := fun G0 My M R E e n q =>
  h G0 My M _ E e n fun v G1 Mx e1 n1 r1 => by
    rw [← List.append_assoc]
    refine hs G1 (Mx ++ My) M _ E (e.trans e1) n1 fun vs G2 Mz e2 n2 r2 => ?_
    have := q (v :: vs) G2 (Mz ++ Mx) (e1.trans e2) (by rw [List.append_assoc]; exact n2) (.cons (r1.up e2 fun x hx => List.mem_append.mpr (.inr hx)) (r2.up Ex.refl fun x hx => List.mem_append.mpr (.inl hx)))
    simpa [List.append_assoc] using this
theorem lit_tup (h : LitsOk K tas σ G ds) (hl : ds.length ≤ 1000) : LitOk K (kTup tas) σ G (.tup ds) := fun G0 My M R E e n q =>
  h G0 My M _ E e n fun vs G1 Mx e1 n1 r1 => ⟨Nat.le_trans (by rw [r1.len]; exact hl) (by decide), fun p fp => by
    rw [← List.append_assoc] at fp
    exact q _ _ Mx (e1.trans (Ex.new fp)) (n1.tup fp) (.tup sqt_new (r1.ex (Ex.new fp)))⟩
theorem lit_lst (h : LitsOk K tas σ G ds) (hl : ds.length ≤ 1000) : LitOk K (kLst tas) σ G (.list ds) := fun G0 My M R E e n q =>
  h G0 My M _ E e n fun vs G1 Mx e1 n1 r1 => ⟨Nat.le_trans (by rw [r1.len]; exact hl) (by decide), fun p fp => by
    rw [← List.append_assoc] at fp
    exact q _ _ ((p, .lst vs) :: Mx) e1 (n1.cell fp) (.list (.inl List.mem_cons_self) (r1.up Ex.refl fun x hx => List.mem_cons_of_mem _ hx))⟩
theorem lit_add (h1 : LitOk K ta σ G (.list ds)) (h2 : LitOk K tb σ G (.list es)) (hl : (ds ++ es).length ≤ 1000) : LitOk K (kBin kAdd ta tb) σ G (.list (ds ++ es)) := fun G0 My M R E e n q =>
  h1 G0 My M _ E e n fun v G1 Mx e1 n1 r1 => by
    rw [← List.append_assoc]
    refine h2 G1 (Mx ++ My) M _ E (e.trans e1) n1 fun u G2 Mz e2 n2 r2 => ?_
    cases r1 with
    | @list a xs _ a1 s1 =>
      cases r2 with
      | @list b ys _ a2 s2 =>
        have l1 := s1.len
        have l2 := s2.len
        refine ⟨xs, ys, ?_, ?_, Nat.le_trans (m := 1000) (by rw [List.length_append] at hl; omega) (by decide), fun p fp => ?_⟩
        · rcases a1 with z | z
          · exact .inl (by simp [z])
          · exact .inr (e2 _ _ z)
        · rcases a2 with z | z
          · exact .inl (by simp [z])
          · exact .inr z
        · have fp' : Fr G2 ((Mz ++ (Mx ++ My)) ++ M) p := by simpa [List.append_assoc] using fp
          have := q (.ref p) G2 ((p, .lst (xs ++ ys)) :: (Mz ++ Mx)) (e1.trans e2) (by
            have := n2.cell (o := .lst (xs ++ ys)) fp'
            simpa [List.append_assoc] using this) (.list (.inl List.mem_cons_self) ((s1.up e2 fun x hx => by simp [hx]).app (s2.up Ex.refl fun x hx => by simp [hx])))
          simpa [List.append_assoc] using this
theorem lit_pow {i j : Int} (h : CPow i j) : LitOk K (kBin (kI CPow fun i j => .int (i ^ j.toNat)) (kC (.int i)) (kC (.int j))) σ G (.int (i ^ j.toNat)) := lit_pure (v := .int (i ^ j.toNat)) (fun _ _ _ _ _ q => ⟨h, q⟩) (.int _)
/-- one of written things is picked by a draw -/
theorem lit_pick {M : Mem} {R : KR} {E : KX} {i n : Nat} {p : Addr} {c s L : Int} (h : LitOk K te σ G (.list ds)) (hv : σ[i]? = some (some (.ref p))) (hn : M[n]? = some (p, pool c s)) (hs : PoolOk s) (hL : L = ds.length) (h0 : 0 < ds.length) (h1 : ds.length ≤ 1000)
    (q : ∀ v d G' Mx c' s', Ex G G' → NewC G' Mx → d ∈ ds → Rp K G' Mx v d → PoolOk s' → R v G' (Mx ++ M.set n (p, pool c' s'))) : kBin (kIx K) te (kCall (S_law_take K) (kCons (kVar i) (kCons (kC (.int L)) kNil))) σ G M R E := by
  refine h G [] M _ E Ex.refl NewC.nil fun v G1 Mx e1 n1 r1 => ?_
  rw [List.append_nil] at n1
  cases r1 with
  | @list a vs _ ha hs1 =>
    have hl := hs1.len
    rw [List.nil_append]
    simp only [kCall, kCons, kVar, hv]
    have hn2 : (Mx ++ M)[Mx.length + n]? = some (p, pool c s) := by rw [List.getElem?_append_right (by omega), Nat.add_sub_cancel_left]; exact hn
    refine ⟨p, L, Mx.length + n, c, s, rfl, rfl, hn2, hs, by omega, by omega, fun r c' s' r0 r1 hs' => ?_⟩
    obtain ⟨j, rfl⟩ := Int.eq_ofNat_of_zero_le r0
    obtain ⟨y, d, hy, hd, ry⟩ := hs1.get (i := j) (by omega)
    have hne : (a, HO.lst vs) ∈ Mx → (a, HO.lst vs) ∈ (Mx ++ M).set (Mx.length + n) (p, pool c' s') := fun z => by
      rw [List.set_append_right _ _ (by omega)]; exact List.mem_append.mpr (.inl z)
    refine ⟨vs, y, ?_, atI_nat hy, ?_⟩
    · rcases ha with z | z
      · exact .inl (.inl (hne z))
      · exact .inl (.inr (sql_of z))
    · have := q y d G1 Mx c' s' e1 n1 (List.mem_of_getElem? hd) ry hs'
      rw [List.set_append_right _ _ (by omega), Nat.add_sub_cancel_left]; exact this
end
/-! what is known of written things -/
def XD.ty : XD → PT
  | .non => .non | .bl _ => .bool | .int _ => .int | .str _ => .str | .list _ => .list | .tup _ => .tuple | .dict => .dict
theorem rp_ty {K : PySem.W.Frag} {G : Hp} {v : V} {d : XD} (h : Rp K G [] v d) (M : Mem) : TyK K G M v d.ty := by
  cases h with
  | non => exact ty_non
  | bl b => exact ty_bl
  | int i => exact ty_int
  | str s => exact ty_str
  | list h _ =>
    rcases h with z | z
    · cases z
    · exact ty_lst (.inr (sql_of z))
  | tup h _ => exact ty_tup h
  | dict h =>
    rcases h with z | z
    · cases z
    · exact ty_dict (.inr z)
mutual
def XD.toD : XD → Option PyData
  | .non => some .none
  | .bl b => some (.bool b)
  | .int i => some (.int i)
  | .str s => some (.str s)
  | .list l => (XD.toDs l).map .list
  | .tup l => (XD.toDs l).map .tuple
  | .dict => none
def XD.toDs : List XD → Option (List PyData)
  | [] => some []
  | x :: l => match x.toD, XD.toDs l with
    | some d, some ds => some (d :: ds)
    | _, _ => none
end
mutual
theorem rp_dp {K : PySem.W.Frag} {G : Hp} : ∀ {v : V} {d : XD} {e : PyData}, Rp K G [] v d → d.toD = some e → Dp K G v e
  | _, _, _, .non, h => by cases h; exact .non
  | _, _, _, .bl b, h => by cases h; exact .bl b
  | _, _, _, .int b, h => by cases h; exact .int b
  | _, _, _, .str b, h => by cases h; exact .str b
  | _, _, e, .list (ds := ds) ha hs, h => by
    have h : (XD.toDs ds).map PyData.list = some e := h
    obtain ⟨es, h1, rfl⟩ := Option.map_eq_some_iff.mp h
    rcases ha with z | z
    · cases z
    · exact .lst (sql_of z) (rpa_dp hs h1)
  | _, _, e, .tup (ds := ds) ha hs, h => by
    have h : (XD.toDs ds).map PyData.tuple = some e := h
    obtain ⟨es, h1, rfl⟩ := Option.map_eq_some_iff.mp h
    exact .tup ha (rpa_dp hs h1)
  | _, _, _, .dict _, h => by cases h
theorem rpa_dp {K : PySem.W.Frag} {G : Hp} : ∀ {vs : List V} {ds : List XD} {es : List PyData}, RpA K G [] vs ds → XD.toDs ds = some es → DpAll K G vs es
  | _, _, _, .nil, h => by cases h; exact .nil
  | _, _, es, .cons (d := d) (ds := ds) a b, h => by
    have h : (match d.toD, XD.toDs ds with | some d, some ds => some (d :: ds) | _, _ => none) = some es := h
    split at h
    · rename_i d' ds' e1 e2
      cases h
      exact .cons (rp_dp a e1) (rpa_dp b e2)
    · cases h
end
end BT
namespace BT
open PySem PySem.Spec L2
theorem LitOk.use {K : PySem.W.Frag} {te : KE} {σ : St} {G : Hp} {d : XD} {M : Mem} {R : KR} {E : KX} (h : LitOk K te σ G d) (q : ∀ v G' Mx, Ex G G' → NewC G' Mx → Rp K G' Mx v d → R v G' (Mx ++ M)) : te σ G M R E :=
  h G [] M R E Ex.refl NewC.nil fun v G' Mx e n r => by rw [List.append_nil] at n; exact q v G' Mx e n r
theorem Wk.dropP {G : Hp} (Mx : Mem) {M : Mem} : Wk G (Mx ++ M) G M := fun H hv => ⟨hv.ex, fun x hx => hv.mu x (List.mem_append.mpr (.inr hx)), hv.nd.sublist ((List.sublist_append_right Mx M).map _), fun x hx => hv.dj x (List.mem_append.mpr (.inr hx))⟩
end BT
set_option Elab.async false
set_option linter.all false
set_option maxRecDepth 100000
set_option maxHeartbeats 4000000
namespace BT
open PySem PySem.Spec L2
open PyProof.Rows hiding St
/-! ### dicts that are walked: locked while it goes on -/
def unl (G : Hp) (d : Addr) : Hp := fun a => if a = d then none else G a
theorem unl_upd {G : Hp} {d : Addr} {o : HO} (h : G d = none) : unl (upd G d o) d = G := by
  funext a
  unfold unl
  by_cases e : a = d
  · rw [if_pos e, e, h]
  · rw [if_neg e, upd_ne e]
theorem hv_lock {G : Hp} {M1 M2 : Mem} {H : Hp} {d : Addr} {u o : HO} (h : Hv G (M1 ++ (d, u) :: M2) H) : Hv (upd G d o) (M1 ++ M2) (upd H d o) := by
  have hg : G d = none := h.dj (d, u) (by simp)
  have h2 := Wk.drop (G := G) M1 (x := (d, u)) (M2 := M2) H h
  have nd : ∀ x, x ∈ M1 ++ M2 → x.1 ≠ d := fun x hx z => by
    have nd := h.nd
    rw [List.map_append, List.map_cons, List.nodup_append] at nd
    obtain ⟨n1, n2, n3⟩ := nd
    rcases List.mem_append.mp hx with q | q
    · exact n3 x.1 (List.mem_map.mpr ⟨x, q, rfl⟩) d (by simp) z
    · rw [List.nodup_cons] at n2
      exact n2.1 (by rw [← z]; exact List.mem_map.mpr ⟨x, q, rfl⟩)
  refine ⟨fun b v e => ?_, fun x hx => ?_, h2.nd, fun x hx => ?_⟩
  · by_cases hb : b = d
    · subst hb; rw [upd_same] at e ⊢; exact e
    · rw [upd_ne hb] at e ⊢; exact h.ex b v e
  · rw [upd_ne (nd x hx)]; exact h2.mu x hx
  · rw [upd_ne (nd x hx)]; exact h2.dj x hx
theorem hv_unlock {G : Hp} {M : Mem} {H : Hp} {d : Addr} {u o : HO} (h : Hv G M H) (hd : G d = some o) : Hv (unl G d) ((d, u) :: M) (upd H d u) := by
  have nd : ∀ x, x ∈ M → x.1 ≠ d := fun x hx z => by
    have := h.dj x hx
    rw [z, hd] at this; cases this
  refine ⟨fun b v e => ?_, fun x hx => ?_, ?_, fun x hx => ?_⟩
  · unfold unl at e
    by_cases hb : b = d
    · rw [if_pos hb] at e; cases e
    · rw [if_neg hb] at e; rw [upd_ne hb]; exact h.ex b v e
  · rcases List.mem_cons.mp hx with rfl | hx
    · exact upd_same
    · rw [upd_ne (nd x hx)]; exact h.mu x hx
  · rw [List.map_cons, List.nodup_cons]
    refine ⟨fun z => ?_, h.nd⟩
    obtain ⟨x, hx, e⟩ := List.mem_map.mp z
    exact nd x hx e
  · unfold unl
    rcases List.mem_cons.mp hx with rfl | hx
    · rw [if_pos rfl]
    · rw [if_neg (nd x hx)]; exact h.dj x hx
/-- a statement with a dict locked -/
def kLock (t : KS) : KS := fun D σ G M => ∃ (M1 M2 : Mem) (d : Addr) (kvs : List (Key × V)), M = M1 ++ (d, .dK kvs) :: M2 ∧ ∀ od : Obj, G d = none →
  t { nx := fun σ' G' M' => G' d = some (.frz od (.dK kvs)) ∧ D.nx σ' (unl G' d) ((d, .dK kvs) :: M'), rt := fun v G' M' => G' d = some (.frz od (.dK kvs)) ∧ D.rt v (unl G' d) ((d, .dK kvs) :: M'), bk := fun _ _ _ => False, ct := fun _ _ _ => False, xc := fun _ _ _ _ _ => False } σ (upd G d (.frz od (.dK kvs))) (M1 ++ M2)
section
variable {X : Cx} {W : WX} {pos : Pos} {o i e f tg : Expr}
theorem js_lock {s : Stmt} {t : KS} (h : JS X W s t) : JS X W s (kLock t) :=
  ps_mono (ps_lock h) fun D σ H ⟨G, M, d, hv, ⟨M1, M2, dd, kvs, e, q⟩, en⟩ => by
    subst e
    exact ⟨dd, .dK kvs, hv.mu (dd, .dK kvs) (by simp), trivial, fun od => ⟨upd G dd (.frz od (.dK kvs)), M1 ++ M2, _, hv_lock hv, q od (hv.dj (dd, .dK kvs) (by simp)), ⟨fun σ' G' M' H' hv' ⟨e1, e2⟩ => ⟨hv'.ex _ _ e1, en.nx σ' _ _ _ (hv_unlock hv' e1) e2⟩, fun v G' M' H' hv' ⟨e1, e2⟩ => ⟨hv'.ex _ _ e1, en.rt v _ _ _ (hv_unlock hv' e1) e2⟩, fun _ _ _ _ _ z => z.elim, fun _ _ _ _ _ z => z.elim, fun _ _ _ _ _ _ _ z => z.elim⟩⟩⟩
/-- an expression with a dict locked -/
def kLockE (t : KE) : KE := fun σ G M R E => ∃ (M1 M2 : Mem) (d : Addr) (kvs : List (Key × V)), M = M1 ++ (d, .dK kvs) :: M2 ∧ ∀ od : Obj, G d = none →
  t σ (upd G d (.frz od (.dK kvs))) (M1 ++ M2) (fun v G' M' => G' d = some (.frz od (.dK kvs)) ∧ R v (unl G' d) ((d, .dK kvs) :: M')) (fun _ _ _ _ => False)
theorem je_lock {t : KE} (h : JE X W e t) : JE X W e (kLockE t) :=
  pe_mono (pe_lock h) fun σ H Q ⟨G, M, R, E, hv, ⟨M1, M2, dd, kvs, e, q⟩, hR, hE⟩ => by
    subst e
    exact ⟨dd, .dK kvs, hv.mu (dd, .dK kvs) (by simp), trivial, fun od => ⟨upd G dd (.frz od (.dK kvs)), M1 ++ M2, _, _, hv_lock hv, q od (hv.dj (dd, .dK kvs) (by simp)), fun v G' M' H' hv' ⟨e1, e2⟩ => ⟨hv'.ex _ _ e1, hR v _ _ _ (hv_unlock hv' e1) e2⟩, fun _ _ _ _ _ _ z => z.elim⟩⟩
/-! what is walked -/
def srcK (d : Addr) (o : Obj) (kvs : List (Key × V)) : Src := ⟨kvs.length, fun i => .inl (match kvs[i]? with | some p => kV p.1 | none => .non), fun G M => G d = some (.frz o (.dK kvs))⟩
def srcVs (d : Addr) (o : Obj) (kvs : List (Key × V)) : Src := ⟨kvs.length, fun i => .inl (match kvs[i]? with | some p => p.2 | none => .non), fun G M => G d = some (.frz o (.dK kvs))⟩
def srcI (d : Addr) (o : Obj) (kvs : List (Key × V)) : Src := ⟨kvs.length, fun i => .inr (match kvs[i]? with | some p => [kV p.1, p.2] | none => []), fun G M => G d = some (.frz o (.dK kvs))⟩
theorem goes_K {d : Addr} {o : Obj} {kvs : List (Key × V)} : Goes (srcK d o kvs) (Itk d o kvs) where
  go := fun i G M H hv ok hi => ⟨hv.ex _ _ ok, hi⟩
  stop := fun i G M H hv ok hi => ⟨hv.ex _ _ ok, hi⟩
  yld := fun i G M H x H' hv ok hi y => by
    obtain ⟨e1, k, v, e2, e3⟩ := y
    show x = (match kvs[i]? with | some p => kV p.1 | none => .non) ∧ H' = H
    rw [e2]; exact ⟨e3, e1⟩
theorem goes_Vs {d : Addr} {o : Obj} {kvs : List (Key × V)} : Goes (srcVs d o kvs) (Itd d o kvs) where
  go := fun i G M H hv ok hi => ⟨hv.ex _ _ ok, hi⟩
  stop := fun i G M H hv ok hi => ⟨hv.ex _ _ ok, hi⟩
  yld := fun i G M H x H' hv ok hi y => by
    obtain ⟨e1, k, e2⟩ := y
    show x = (match kvs[i]? with | some p => p.2 | none => .non) ∧ H' = H
    rw [e2]; exact ⟨rfl, e1⟩
theorem goes_I {d : Addr} {o : Obj} {kvs : List (Key × V)} : Goes (srcI d o kvs) (Iti d o kvs) where
  go := fun i G M H hv ok hi => ⟨hv.ex _ _ ok, hi⟩
  stop := fun i G M H hv ok hi => ⟨hv.ex _ _ ok, hi⟩
  yld := fun i G M H x H' hv ok hi y => by
    obtain ⟨T, k, v, e1, e2, e3, e4⟩ := y
    show ∃ T, x = .ref T ∧ H T = none ∧ H' = upd H T (.tup (match kvs[i]? with | some p => [kV p.1, p.2] | none => []))
    rw [e1]; exact ⟨T, e2, e3, e4⟩
def kiKeys (t : KE) : KI := fun σ G M R E => t σ G M (fun x G M => match x with
  | .ref d => ∃ o kvs, G d = some (.frz o (.dK kvs)) ∧ R (srcK d o kvs) G M
  | _ => False) E
def kiVals (t : KE) : KI := fun σ G M R E => t σ G M (fun x G M => match x with
  | .ref d => ∃ o kvs, G d = some (.frz o (.dK kvs)) ∧ R (srcVs d o kvs) G M
  | _ => False) E
def kiItems (t : KE) : KI := fun σ G M R E => t σ G M (fun x G M => match x with
  | .ref d => ∃ o kvs, G d = some (.frz o (.dK kvs)) ∧ R (srcI d o kvs) G M
  | _ => False) E
theorem ji_keys {t : KE} (h : JE X W e t) : JI X W tg e (kiKeys t) :=
  pi_mono (pi_keys h) fun σ H Q ⟨G, M, R, E, hv, h, hR, hE⟩ => ⟨G, M, _, E, hv, h, fun x G1 M1 H1 hv1 q => by
    match x, q with
    | .ref d, ⟨o, kvs, q1, q2⟩ => exact ⟨d, o, rfl, .inl ⟨kvs, hv1.ex _ _ q1, hR _ G1 M1 H1 hv1 q2 _ goes_K⟩⟩, hE⟩
theorem ji_vals {t : KE} {apos cpos : Pos} (h : JE X W e t) (hbase : attributeBase e "values" X.env (eval e X.env) = eval e X.env := by rfl) (hline : (apos.endLine == cpos.line) = true := by rfl) : JI X W tg (.Call (.Attribute e "values" apos) [] [] cpos) (kiVals t) :=
  pi_mono (pi_values h hbase hline) fun σ H Q ⟨G, M, R, E, hv, h, hR, hE⟩ => ⟨G, M, _, E, hv, h, fun x G1 M1 H1 hv1 q => by
    match x, q with
    | .ref d, ⟨o, kvs, q1, q2⟩ => exact ⟨d, o, kvs, rfl, hv1.ex _ _ q1, hR _ G1 M1 H1 hv1 q2 _ goes_Vs⟩, hE⟩
theorem ji_items {t : KE} {apos cpos tpos : Pos} {elts : List Expr} {kk : Nat} (h : JE X W e t) (hbase : attributeBase e "items" X.env (eval e X.env) = eval e X.env := by rfl) (hline : (apos.endLine == cpos.line) = true := by rfl) : JI X W (.Tuple elts kk tpos) (.Call (.Attribute e "items" apos) [] [] cpos) (kiItems t) :=
  pi_mono (pi_items h hbase hline) fun σ H Q ⟨G, M, R, E, hv, h, hR, hE⟩ => ⟨G, M, _, E, hv, h, fun x G1 M1 H1 hv1 q => by
    match x, q with
    | .ref d, ⟨o, kvs, q1, q2⟩ => exact ⟨d, o, kvs, rfl, hv1.ex _ _ q1, hR _ G1 M1 H1 hv1 q2 _ goes_I⟩, hE⟩
theorem ex_lock {G : Hp} {d : Addr} {o : HO} (h : G d = none) : Ex G (upd G d o) := fun a u e => by
  rw [upd_ne (fun z => by rw [z, h] at e; cases e)]; exact e
/-- d[k], also while d is walked -/
def kDGetF : KR2 := fun x y G M R => match x with
  | .ref a => ∃ (kvs : List (Key × V)) (k : Key) (v : V), (At G M a (.dK kvs) ∨ ∃ od, G a = some (.frz od (.dK kvs))) ∧ y = kV k ∧ valV kvs k = some v ∧ R v G M
  | _ => False
theorem je_dgetF {ta tb : KE} (hu : X.A.units + 64 < cLine) (ha : JE X W o ta) (hb : JE X W i tb) (hs : NoSl i := by exact fun _ _ => rfl) : JE X W (.Subscript o i pos) (kBin kDGetF ta tb) :=
  pe_mono (pe_dget (by omega) ha hb hs) fun σ H Q ⟨G, M, R, E, hv, h, hR, hE⟩ => ⟨G, M, _, E, hv, h, fun x G1 M1 H1 hv1 q1 => ⟨G1, M1, _, E, hv1, q1, fun y G2 M2 H2 hv2 q2 => by
    match x, q2 with
    | .ref a, ⟨kvs, k, v, q3, q4, q5, q6⟩ =>
      subst q4
      refine ⟨a, v, rfl, ?_, hR _ G2 M2 H2 hv2 q6⟩
      rw [← q5]
      rcases q3 with q3 | ⟨od, q3⟩
      · exact DGet.k (hv2.at q3)
      · exact .inl ⟨kvs, k, .inr ⟨od, hv2.ex _ _ q3⟩, rfl, rfl⟩, hE⟩, hE⟩
/-- list(d.items()) -/
def kItems (t : KE) : KE := fun σ G M R E => t σ G M (fun x G M => match x with
  | .ref d => ∃ kvs, At G M d (.dK kvs) ∧ ∀ (G' : Hp) (p : Addr) (ts : List Addr), Ex G G' → Fr G' M p → ts.length = kvs.length → (∀ (i : Nat) (q : Key × V), kvs[i]? = some q → ∃ T, ts[i]? = some T ∧ G' T = some (.tup [kV q.1, q.2])) → R (.ref p) G' ((p, .lst (ts.map V.ref)) :: M)
  | _ => False) E
theorem paired_get2 {α β : Type} {F : α → β → Prop} : ∀ {xs : List α} {ys : List β}, Paired F xs ys → ∀ {i : Nat} {y : β}, ys[i]? = some y → ∃ x, xs[i]? = some x ∧ F x y
  | _, _, .nil, _, _, h => by simp at h
  | _, _, .cons r t, 0, y, h => by
    have e := Option.some.inj h
    subst e
    exact ⟨_, rfl, r⟩
  | _, _, .cons r t, i + 1, y, h => by
    obtain ⟨x, h1, h2⟩ := paired_get2 t (i := i) (y := y) (by simpa using h)
    exact ⟨x, by simpa using h1, h2⟩
theorem je_items {t : KE} {p apos cpos pos : Pos} (hm : X.mg "list" = none) (he : JE X W e t) (hc : X.calm = true := by rfl) (hg : Gl X "list" := by rfl) (hv : bootBuiltins "list" = some (.type "list") := by decide +kernel) (hbase : attributeBase e "items" X.env (eval e X.env) = eval e X.env := by rfl) (hline : (apos.endLine == cpos.line) = true := by rfl)
    (hs : starEach [.Call (.Attribute e "items" apos) [] [] cpos] X.env = (false, eval (.Call (.Attribute e "items" apos) [] [] cpos) X.env) :: starEach [] X.env := by rfl) :
    JE X W (.Call (.Name "list" p) [.Call (.Attribute e "items" apos) [] [] cpos] [] pos) (kItems t) :=
  pe_mono (LiI.pe_listItems hc he hg hm hv hbase hline hs) fun σ H Q ⟨G, M, R, E, hv, h, hR, hE⟩ => ⟨G, M, _, E, hv, h, fun x G1 M1 H1 hv1 q => by
    match x, q with
    | .ref d, ⟨kvs, q1, q2⟩ =>
      refine ⟨d, kvs, rfl, hv1.at q1, fun H' p ts ex hp hts hpt hpl pr => ?_⟩
      obtain ⟨G', hG'⟩ : ∃ G' : Hp, G' = fun a => if a ∈ ts then H' a else G1 a := ⟨_, rfl⟩
      have eG : Ex G1 G' := fun a u e => by
        rw [hG']
        show (if a ∈ ts then H' a else G1 a) = some u
        rw [if_neg (fun z => by have := hts a z; rw [hv1.ex a u e] at this; cases this)]; exact e
      have gp : G1 p = none := by
        cases e : G1 p with
        | none => rfl
        | some u => rw [hv1.ex p u e] at hp; cases hp
      have mp : ∀ x, x ∈ M1 → x.1 ≠ p := fun x hx z => by have := hv1.mu x hx; rw [z, hp] at this; cases this
      have mt : ∀ x, x ∈ M1 → x.1 ∉ ts := fun x hx z => by have := hv1.mu x hx; rw [hts _ z] at this; cases this
      have fp : Fr G' M1 p := ⟨by rw [hG']; show (if p ∈ ts then _ else _) = none; rw [if_neg hpt]; exact gp, mp⟩
      have hv2 : Hv G' ((p, .lst (ts.map V.ref)) :: M1) H' := by
        refine ⟨fun a u e => ?_, fun x hx => ?_, ?_, fun x hx => ?_⟩
        · rw [hG'] at e
          have e : (if a ∈ ts then H' a else G1 a) = some u := e
          split at e
          · exact e
          · exact ex a u (hv1.ex a u e)
        · rcases List.mem_cons.mp hx with rfl | hx
          · exact hpl
          · exact ex _ _ (hv1.mu x hx)
        · rw [List.map_cons, List.nodup_cons]
          refine ⟨fun z => ?_, hv1.nd⟩
          obtain ⟨x, hx, e⟩ := List.mem_map.mp z
          exact mp x hx e
        · rw [hG']
          rcases List.mem_cons.mp hx with rfl | hx
          · show (if p ∈ ts then _ else _) = none
            rw [if_neg hpt]; exact gp
          · show (if x.1 ∈ ts then _ else _) = none
            rw [if_neg (mt x hx)]; exact hv1.dj x hx
      refine hR _ G' _ H' hv2 (q2 G' p ts eG fp (Paired.length pr) fun i kv hkv => ?_)
      obtain ⟨T, h1, h2⟩ := paired_get2 pr hkv
      refine ⟨T, h1, ?_⟩
      rw [hG']
      show (if T ∈ ts then H' T else _) = _
      rw [if_pos (List.mem_of_getElem? h1)]; exact h2, hE⟩
end
end BT
set_option Elab.async false
set_option linter.all false
set_option maxRecDepth 100000
set_option maxHeartbeats 4000000
namespace BT
open PySem PySem.Spec L2
open PyProof.Rows hiding St
/-! ### a statement at which some heap is known to be as told -/
def kH (t : KS) : KS := fun D σ G M => (∃ H, Hv G M H) → ∃ G' M', Wk G M G' M' ∧ t D σ G' M'
theorem js_h {X : Cx} {W : WX} {s : Stmt} {t : KS} (h : JS X W s t) : JS X W s (kH t) := ps_mono h fun D σ H ⟨G, M, d, hv, q, en⟩ => by
  obtain ⟨G', M', wk, q⟩ := q ⟨H, hv⟩
  exact ⟨G', M', d, wk H hv, q, en⟩
/-- a cell may be frozen -/
theorem Hv.fz {G : Hp} {M : Mem} {p : Addr} {o : HO} (h : ∃ H, Hv G ((p, o) :: M) H) : Ex G (upd G p o) := by
  obtain ⟨H, hv⟩ := h
  exact Ex.new' (hv.dj (p, o) List.mem_cons_self)
theorem Hv.no {G : Hp} {M : Mem} {x : Addr × HO} (h : ∃ H, Hv G M H) (hx : x ∈ M) : G x.1 = none := by
  obtain ⟨H, hv⟩ := h
  exact hv.dj x hx
theorem Hv.ne {G : Hp} {M : Mem} {x y : Addr × HO} {i j : Nat} (h : ∃ H, Hv G M H) (hx : M[i]? = some x) (hy : M[j]? = some y) (n : i ≠ j) : x.1 ≠ y.1 := fun e => by
  obtain ⟨H, hv⟩ := h
  exact n (nodup_at M j y.1 y.2 x i hv.nd hy hx e)
end BT
namespace BT
open PySem PySem.Spec L2
theorem Hv.newc {G : Hp} {Mx M : Mem} (h : ∃ H, Hv G (Mx ++ M) H) : NewC G Mx := by
  obtain ⟨H, hv⟩ := h
  exact ⟨fun x hx => hv.dj x (List.mem_append.mpr (.inl hx)), hv.nd.sublist ((List.sublist_append_left Mx M).map _)⟩
end BT
set_option Elab.async false
set_option linter.all false
set_option maxRecDepth 100000
set_option maxHeartbeats 4000000
namespace BT
open PySem PySem.Spec L2
open PyProof.Rows hiding St
/-! ### defs that are called where no guard stands; repr -/
structure GFn (P : Program) (w : World) (K : PySem.W.Frag) (mg : Str → Option Value) (base : Heap) (k : Nat) (f : Addr) (fd : FuncData) (ps : List Str) (sp : Sp) : Prop where
  len : ∀ vs H Q E, sp vs H Q E → vs.length = ps.length
  go : ∀ {A : Around} {outer : List Env} {s : Shared} {H : Hp} {args : Args} {us : List Value} {vs : List V} {Q : VK} {E : XK}, A.guards = some [] → Room k A → Env0 P w K mg base A outer s H → BindsTo s fd args (ps.zip us) → Vals vs us → sp vs H Q E →
    codeAny (model P w) A (.call (.ref f) args) (CR (L2.CX P w) outer P w H s Q E) s
section
variable {P : Program} {w : World} {K : PySem.W.Frag} {mg : Str → Option Value} {base : Heap} {k : Nat} {f : Addr} {fd : FuncData} {ps : List Str} {sp : Sp}
theorem GFn.mono {j : Nat} (F : GFn P w K mg base j f fd ps sp) (h : j ≤ k) : GFn P w K mg base k f fd ps sp := ⟨F.len, fun g r => F.go g (r.mono h)⟩
theorem FnOk.guarded (F : FnOk P w K mg base (L2.CX P w) k f fd ps sp) : GFn P w K mg base k f fd ps sp := ⟨F.len, fun _ r e b v q => F.run _ _ _ _ _ _ _ _ _ r e b v q⟩
theorem gfn_mk {x qual : Str} {st : Stmt} {N : List Str} (F : Fun K x qual st f fd) (sc : FnScope N ps (defScope st)) (len : ∀ vs H Q E, sp vs H Q E → vs.length = ps.length)
    (hbd : ∀ (cdv : Value) (A : Around) (outer : List Env) (s : Shared) (H : Hp) (vs : List V) (Q : VK) (E : XK), A.guards = some [] → Room k (A.deeper (envOfC qual (defScope st) s.heap.objs.size f cdv)) → sp vs H Q E →
      ∃ t, PSs (cxOf (L2.CX P w) P w K mg base N qual (defScope st) f cdv A outer s H E) (defBody st) t ∧ t { nx := fun _ H' => Q .non H', rt := Q } (start N vs) H) : GFn P w K mg base (k + 1) f fd ps sp := by
  obtain ⟨o1, o2, o3, o4, o5, o6, cdv, o8, o9, rfl, lk, hcd⟩ := F.ex
  refine ⟨len, fun {A outer s H args us vs Q E} gd rm en bd rv hsp => ?_⟩
  have hln := len _ _ _ _ hsp
  have inK : K.In s.heap := en.mod.kin.keeps fun a u z => (en.bs a u z).1
  have nolim : s.heap.NoLimit := en.mod.nolimit.keeps fun a u z => (en.bs a u z).1
  have kinds : ∀ z ∈ ps.zip us, (defScope st).names.lookup z.1 = some .local ∨ ((defScope st).names.lookup z.1 = some .cell ∧ ((cellsFrom (s.heap.objs.size + 1) (defScope st).names []).lookup z.1).isSome = true) := fun z hz => by
    obtain ⟨n, u⟩ := z
    rcases sc.par n (List.of_mem_zip hz).1 with h | h
    · exact .inl h
    · exact .inr ⟨h, PySem.W.cellsFrom_some _ _ _ (.inl h)⟩
  refine codeAny_call_function rm.depth (inK _ _ lk) rfl sc.co sc.gen rfl (PySem.W.codeRec_of inK hcd) (bd _ _ _ _ ?_)
  refine wpAny_newFunctionEnv_cells sc.kind kinds fun env hen s1 x => ?_
  subst hen
  refine ⟨nolim.keeps x.toInCall.keep, codeAny_func ?_⟩
  obtain ⟨t, ht, hq⟩ := hbd cdv A outer s H vs Q E gd (rm.deeper _) hsp
  have I := inv_start (CX := L2.CX P w) (E := E) sc rm.hd en hln rv x
  have fin : ∀ {σ' : St} {H' : Hp} {v : V} {u : Value} {s' : Shared}, Inv (cxOf (L2.CX P w) P w K mg base N qual (defScope st) f cdv A outer s H E) [] σ' H' s' → RelV v u → Q v H' → CE outer P w H s Q u s' := fun J r2 q => ⟨_, _, J.os, J.bare, J.base, J.hok, r2, q⟩
  refine wpAny_mono (ht.run [] s1 (start N vs) H _ I hq) (fun fl s' hs => ?_) fun e s' hs => hs
  match fl, hs with
  | .ret u, ⟨v, σ', H', J, r2, q⟩ => exact fin J r2 q
  | .next, ⟨σ', H', J, q⟩ => exact fin (v := V.non) (u := Value.none) J rfl q
  | .brk, ⟨_, _, _, z⟩ => exact z.elim
  | .cont, ⟨_, _, _, z⟩ => exact z.elim
/-- a def with its promise, of this kind -/
theorem gfn_ok {x qual : Str} {st : Stmt} {N : List Str} {S : KSp} (F : Fun K x qual st f fd) (sc : FnScope N ps (defScope st)) (len : ∀ vs G M R X, S vs G M R X → vs.length = ps.length)
    (hbody : ∀ (cdv : Value) (A : Around) (outer : List Env) (s : Shared) (H : Hp) (E : XK), A.guards = some [] → Room k (A.deeper (envOfC qual (defScope st) s.heap.objs.size f cdv)) →
      ∃ t, JSs (cxOf (L2.CX P w) P w K mg base N qual (defScope st) f cdv A outer s H E) (fun c d _ H => E c d H) (defBody st) t ∧
        ∀ vs G M R Z, S vs G M R Z → t { nx := fun _ G M => wkR R .non G M, rt := wkR R, xc := fun c d _ G M => wkX Z c d G M } (start N vs) G M) : GFn P w K mg base (k + 1) f fd ps (lift S) := by
  refine gfn_mk F sc (fun vs H Q E ⟨G, M, R, Z, _, h, _⟩ => len vs G M R Z h) fun cdv A outer s H vs Q E hg hr ⟨G, M, R, Z, hv, h, hR, hZ⟩ => ?_
  obtain ⟨t, j, q⟩ := hbody cdv A outer s H E hg hr
  exact ⟨_, j, G, M, _, hv, q vs G M R Z h, ⟨fun σ G M H hv h => (h H hv).elim fun G' h => h.elim fun M' h => hR _ G' M' H h.1 h.2, fun v G M H hv h => (h H hv).elim fun G' h => h.elim fun M' h => hR _ G' M' H h.1 h.2, fun _ _ _ _ _ z => z.elim, fun _ _ _ _ _ z => z.elim, fun c a σ G M H hv ⟨G', M', w, q⟩ => hZ c a G' M' H (w H hv) q⟩⟩
structure DefG (P : Program) (w : World) (K : PySem.W.Frag) (mg : Str → Option Value) (base : Heap) (lev : Nat) (x : Str) (ps : List Str) (S : KSp) : Prop where
  ex : ∃ f fd, GFn P w K mg base lev f fd ps (lift S) ∧ mg x = some (.ref f) ∧ PySem.W.keepIn K (.ref f) = true ∧ Binds K fd ps []
end
section
variable {X : Cx} {W : WX} {pos p : Pos} {e : Expr} {es : List Expr} {x : Str} {k lev : Nat} {ps : List Str} {S : KSp} {t : KA}
theorem je_callG (D : DefG X.prog X.w X.K X.mg X.base lev x ps S) (hg0 : X.A.guards = some []) (hr : Room k X.A) (tk : Takes X W) (ha : JA X W (e :: es) t) (hl : lev ≤ k := by decide) (hg : Gl X x := by rfl)
    (hdb : (x == ("__debug__" : Str)) = false := by decide) (he : starEach (e :: es) X.env = (false, eval e X.env) :: starEach es X.env := by rfl) (hpl : (backTo pos (starEach es X.env)).any (·.1) = false := by rfl) :
    JE X W (.Call (.Name x p) (e :: es) [] pos) (kCall S t) := by
  obtain ⟨f, fd, F, hm, hk, hb⟩ := D.ex
  have F := F.mono hl
  refine ⟨fun pins s σ H Q I ⟨G, M, R, E, hv, h, hR, hE⟩ => ?_⟩
  refine wpAny_Call_Name_kw (ld_glob I hg hm ?_ hdb)
  refine PySem.W.callWith_K (h₀ := X.base) I.ok.mod.kin hk (thn (ha.run pos pins s σ H (fun vs H1 => lift S vs H1 Q (WE W σ)) I ?_) fun us s1 ⟨vs, H1, I1, r, q⟩ => ⟨I1.kIn, ?_⟩) he hpl
  · exact ⟨G, M, _, E, hv, h, fun vs G1 M1 H1 hv1 q => ⟨G1, M1, R, E, hv1, q, hR, hE⟩, hE⟩
  have hl : us.length = ps.length := by rw [← r.length]; exact F.len _ _ _ _ q
  have b := hb s1 us I1.kIn (by rw [List.append_nil]; exact hl)
  rw [List.append_nil] at b
  refine wpAny_call (codeAny_mono (F.go (args := ⟨us, []⟩) hg0 hr I1.env0 b r q) fun r s' hq => ?_)
  match r, hq with
  | .error e, hq => exact passAt tk σ pins H1 s1 e s' I1 hq
  | .ok (.ret u), hq => exact I1.after hq
  | .ok .next, hq => exact False.elim hq
  | .ok .brk, hq => exact False.elim hq
  | .ok .cont, hq => exact False.elim hq
/-- repr of data -/
def kRepr (K : PySem.W.Frag) : KC := fun vs G M R => match vs with
  | [x] => ∃ (d : PyData), DatAt K G M x d ∧ d.showable = true ∧ d.hasDict = false ∧ d.depth ≤ 30 ∧ d.shown.length ≤ sizeLine ∧ R (.str d.shown) G M
  | _ => False
theorem kc_repr (hg : X.A.guards = some []) (hu : X.A.units + 64 < cLine) : KCall X (.builtin "repr") (kRepr X.K) := by
  intro pins s σ H vs us Q I r h
  obtain ⟨G, M, R, hv, h, hR⟩ := h
  match vs, h with
  | [x], ⟨d, h1, h2, h3, h4, h5, h6⟩ =>
    have hd := hv.dat h1
    cases r with
    | @cons _ u _ _ rx rr =>
      cases rr
      have fin : ∀ (h' : Heap) (t : Tok) (tk : Tok), (∀ b o, s.heap.get? b = some o → h'.get? b = some o) → EP X pins σ Q (.str d.shown t) { s with heap := h', toks := tk } := fun h' t tk hk => ⟨.str d.shown, H, I.kept hk, ⟨t, rfl⟩, hR _ _ _ _ hv h6⟩
      cases hd with
      | non =>
        obtain rfl : u = Value.none := rx
        exact PySem.P.repr_of_none (fin _ _ _ fun _ _ z => z)
      | bl b =>
        obtain rfl : u = Value.bool b := rx
        exact PySem.P.repr_of_bool (fin _ _ _ fun _ _ z => z)
      | int i =>
        obtain ⟨t, rfl⟩ := (show ∃ t, u = Value.int i t from rx)
        exact PySem.P.repr_of_int (of_decide_eq_true (by simpa [PyData.showable] using h2)) (fin _ _ _ fun _ _ z => z)
      | str z =>
        obtain ⟨t, rfl⟩ := (show ∃ t, u = Value.str z t from rx)
        exact PySem.P.repr_of_str (fin _ _ _ fun _ _ z => z) h5
      | @lst a xs ds h7 h8 =>
        obtain rfl : u = Value.ref a := rx
        obtain ⟨as, rd⟩ := Dp.reads I (.list ds) (.ref a) (.ref a) (.lst h7 h8) rfl
        exact repr_of_reads' rd h2 (fun z => by rw [h3] at z; cases z) hg (by omega) (fun _ _ z => z) (fun h' u tk hk => fin _ _ _ hk) h5
      | @tup a xs ds h7 h8 =>
        obtain rfl : u = Value.ref a := rx
        obtain ⟨as, rd⟩ := Dp.reads I (.tuple ds) (.ref a) (.ref a) (.tup h7 h8) rfl
        exact repr_of_reads' rd h2 (fun z => by rw [h3] at z; cases z) hg (by omega) (fun _ _ z => z) (fun h' u tk hk => fin _ _ _ hk) h5
end
end BT
namespace BT
open PySem PySem.Spec L2
open PyProof.Rows hiding St
/-- the law's own call, where nothing but the script is known of the heap -/
theorem call_known {P : Program} {w : World} {K : PySem.W.Frag} {mg mb : Str → Option Value} {k : Nat} {fa a : Addr} {fd : FuncData} {x : Str} {sp : Sp} {s : Shared} {us : List Value} {ns : List Int} (inK : K.In s.heap) (gl : s.heap.Ns mainGlobals mg) (bi : s.heap.Ns builtinsNs mb) (boot : ∀ x : Str, x ≠ "__name__" → mb x = bootBuiltins x)
    (nolim : s.heap.NoLimit) (gens : s.gens = #[]) (hobj : s.heap.get? a = some { cls := .type "list", data := .seq us.toArray }) (rm : Room k callerA) (F : ∀ base : Heap, K.In base → base.Ns mainGlobals mg → GFn P w K mg base k fa fd [x] sp) (bd : ∀ (s : Shared) (u : Value), BindsTo s fd ⟨[u], []⟩ [(x, u)])
    (H : Hp) (only : L2.Only H) (hs : sp [.ref a] H (fun v _ => v = .bl true) fun _ _ _ => False) (hok : HOk P w H s.heap) (one : ∀ b, H b ≠ none → b = a) (own : H a ≠ none → K.lookup a = none) :
    codeAny (model P w) callerA (.call (.ref fa) ⟨[.ref a], []⟩) (fun r s' => r = .ok (.ret (.bool true)) ∧ OldK s.heap s'.heap ∧ s'.os = s.os ∧ AllBare s'.gens) s := by
  have seen : ∀ {b : Addr} {o : Obj}, s.heap.get? b = some o → H b = none → (hidT s.heap H).get? b = some o := fun e z => hidT_get e z
  have nodict : ∀ {b : Addr} {o : Obj} {es : Array DictEntry} {ep : Nat}, s.heap.get? b = some o → o.data = .dict es ep → H b = none := fun {b o es ep} e dd => by
    apply Classical.byContradiction
    intro z
    have ba := one b z
    subst ba
    rw [hobj] at e
    cases e
    exact absurd (show Data.seq us.toArray _ = Data.dict es ep from dd) (by intro y; cases y)
  have ns2 : ∀ {b : Addr} {m : Str → Option Value}, s.heap.Ns b m → (hidT s.heap H).Ns b m := fun ⟨o, es, ep, e, dd, r⟩ => ⟨o, es, ep, seen e (nodict e dd), dd, r⟩
  have inB : K.In (hidT s.heap H) := fun b o e => seen (inK b o e) (by
    apply Classical.byContradiction
    intro z
    have ba := one b z
    subst ba
    rw [own z] at e
    cases e)
  obtain ⟨mc, l1, l2⟩ := nolim
  have md : Mod K mg (hidT s.heap H) := ⟨inB, ns2 gl, ⟨mb, ns2 bi, boot⟩, ⟨mc, ns2 l1, l2⟩⟩
  have en : Env0 P w K mg (hidT s.heap H) callerA [] s H := ⟨rfl, md, fun b o e => of_hidT e, Nat.le_of_eq (hidT_size _ _), trivial, (fun b z => nomatch z), hok, .of_eq gens⟩
  refine codeAny_mono ((F _ inB (ns2 gl)).go (args := ⟨[.ref a], []⟩) (us := [.ref a]) (vs := [.ref a]) rfl rm en (bd s (.ref a)) (.cons rfl .nil) hs) fun r s' h => ?_
  match r, h with
  | .error e, h => exact (cx_none h).elim
  | .ok .next, h => exact False.elim h
  | .ok .brk, h => exact False.elim h
  | .ok .cont, h => exact False.elim h
  | .ok (.ret u), ⟨v, H', h1, h2, un, h3, h4, h5⟩ =>
    have e5 : v = .bl true := h5
    subst e5
    obtain rfl : u = Value.bool true := h4
    refine ⟨rfl, OldK.of_keep fun b o e => ?_, h1, h2⟩
    by_cases z : H b = none
    · exact un.keep b o e z (fun y => nomatch y) (by simp)
    · rcases only b with y | ⟨ob, xs, y⟩
      · exact (z y).elim
      · obtain ⟨e1, _⟩ := hok b _ y
        obtain ⟨e2, _⟩ := h3 b _ (un.frzs b ob _ y)
        rw [e] at e1
        cases e1
        exact e2
theorem law_callG {P : Program} {w : World} {K : PySem.W.Frag} {mg mb : Str → Option Value} {k : Nat} {fa a : Addr} {fd : FuncData} {x : Str} {sp : Sp} {s : Shared} {us : List Value} {ns : List Int} (inK : K.In s.heap) (gl : s.heap.Ns mainGlobals mg) (bi : s.heap.Ns builtinsNs mb) (boot : ∀ x : Str, x ≠ "__name__" → mb x = bootBuiltins x)
    (nolim : s.heap.NoLimit) (gens : s.gens = #[]) (hobj : s.heap.get? a = some { cls := .type "list", data := .seq us.toArray }) (hi : IntsAre us ns) (hl : ns.length ≤ sizeLine) (rm : Room k callerA) (F : ∀ base : Heap, K.In base → base.Ns mainGlobals mg → GFn P w K mg base k fa fd [x] sp)
    (bd : ∀ (s : Shared) (u : Value), BindsTo s fd ⟨[u], []⟩ [(x, u)]) (hs : ∀ H : Hp, L2.Only H → SqL K H a (ns.map V.int) → sp [.ref a] H (fun v _ => v = .bl true) fun _ _ _ => False) :
    codeAny (model P w) callerA (.call (.ref fa) ⟨[.ref a], []⟩) (fun r s' => r = .ok (.ret (.bool true)) ∧ OldK s.heap s'.heap ∧ s'.os = s.os ∧ AllBare s'.gens) s := by
  have rv := L2.vals_ints hi
  by_cases own : K.lookup a = none
  · obtain ⟨H, hH⟩ : ∃ H : Hp, H = fun b => if b = a then some (.frz { cls := .type "list", data := .seq us.toArray } (.lst (ns.map V.int))) else none := ⟨_, rfl⟩
    have at_ : ∀ b, (b = a ∧ H b = some (.frz { cls := .type "list", data := .seq us.toArray } (.lst (ns.map V.int)))) ∨ (b ≠ a ∧ H b = none) := fun b => by
      rw [hH]
      by_cases z : b = a
      · exact .inl ⟨z, if_pos z⟩
      · exact .inr ⟨z, if_neg z⟩
    have atA : H a = some (.frz { cls := .type "list", data := .seq us.toArray } (.lst (ns.map V.int))) := by
      rcases at_ a with h | h
      · exact h.2
      · exact (h.1 rfl).elim
    have only : L2.Only H := fun b => (at_ b).elim (fun h => .inr ⟨_, _, h.2⟩) fun h => .inl h.2
    refine call_known (ns := ns) inK gl bi boot nolim gens hobj rm F bd H only (hs H only (.inl (.inr ⟨_, atA⟩))) (fun b u z => ?_) (fun b z => ?_) fun _ => own
    · rcases at_ b with h | h
      · rw [h.2] at z
        cases z
        rw [h.1]
        exact ⟨hobj, by rw [List.length_map]; exact hl, us, _, rv, hobj⟩
      · rw [h.2] at z
        cases z
    · rcases at_ b with h | h
      · exact h.1
      · exact (z h.2).elim
  · obtain ⟨o, ho⟩ : ∃ o, K.lookup a = some o := by
      cases e : K.lookup a with
      | none => exact (own e).elim
      | some o => exact ⟨o, rfl⟩
    have e := inK a o ho
    rw [hobj] at e
    cases e
    refine call_known (ns := ns) inK gl bi boot nolim gens hobj rm F bd (fun _ => none) (fun _ => .inl rfl) (hs _ (fun _ => .inl rfl) (.inr ⟨_, us.toArray, _, ho, rfl, rfl, rfl, ?_, by simpa using rv⟩)) (fun b u z => nomatch (show (none : Option HO) = some u from z)) (fun b z => (z rfl).elim) fun z => (z rfl).elim
    rw [List.size_toArray, hi.length]
    exact hl
theorem walk_ofG {l : PySem.W.OpenLaw} {n k : Nat} {q : Program} {loose : List Str} {XP : (Str → Option Value) → Heap → Prop} {YP : World → Heap → Prop} {d : DefRec} {K : Params → PySem.W.Frag} {sp : World → Sp} {x : Str} (hn : l.most = some n) (hn2 : n ≤ sizeLine) (hdf : d.params.defaults = []) (rm : Room k callerA)
    (hY : ∀ (w : World) (h : Heap), YP w h → (K w.params).In h) (F : ∀ (w : World) (mg : Str → Option Value) (fa : Addr) (h : Heap), (K w.params).In h → h.Ns mainGlobals mg → mg d.name = some (.ref fa) → ∃ fd : FuncData, (∀ (s : Shared) (u : Value), BindsTo s fd ⟨[u], []⟩ [(x, u)]) ∧ ∀ base : Heap, (K w.params).In base → base.Ns mainGlobals mg → GFn l.prog w (K w.params) mg base k fa fd [x] (sp w))
    (hsp : ∀ (w : World) (H : Hp) (a : Addr) (ns : List Int), ns.length ≤ n → L2.Only H → SqL (K w.params) H a (ns.map V.int) → sp w [.ref a] H (fun v _ => v = .bl true) fun _ _ _ => False) : PySem.W.WalkO q loose XP YP l.row.toRowW d [] (fun f vs => PySem.call f vs) := by
  refine Att.attach_call hn hdf fun w s₀ s₁ mg mb fa o pm cd doc a vs ns G Y ho hd hcd hmg hobj hints hlen hg => ?_
  obtain ⟨fd, hb, hF⟩ := F w mg fa _ (hY w _ Y) G.T.g hmg
  exact law_callG (hY w _ Y) G.T.g G.T.b G.T.builtins G.T.nolimit hg hobj hints (Nat.le_trans hlen hn2) rm hF hb fun H hO hS => hsp w H a ns hlen hO hS
end BT
namespace BT
open PySem PySem.Spec L2
/-! ### data that may be shown -/
structure Sho (p w : Nat) (d : PyData) : Prop where
  s : d.showable = true
  n : d.hasDict = false
  l : d.leavesShort 25 = true
  p : d.depth ≤ p
  w : d.weight ≤ w
theorem Sho.up {p p' w w' : Nat} {d : PyData} (h : Sho p w d) (hp : p ≤ p') (hw : w ≤ w') : Sho p' w' d := ⟨h.s, h.n, h.l, Nat.le_trans h.p hp, Nat.le_trans h.w hw⟩
theorem sho_int {i : Int} (h0 : 0 ≤ i) (h : i < 10 ^ 20) : Sho 0 70 (.int i) := by
  have hl : i.natAbs < 2 ^ 67 := by
    have : (10 : Int) ^ 20 < 2 ^ 67 := by decide
    have e : ((i.natAbs : Nat) : Int) = i := by omega
    have : ((i.natAbs : Nat) : Int) < ((2 ^ 67 : Nat) : Int) := by rw [e]; exact Int.lt_trans h this
    exact Int.ofNat_lt.mp this
  have h67 : i.natAbs ≠ 0 → i.natAbs.log2 < 67 := fun z => (Nat.log2_lt z).mpr hl
  have hlog : i.natAbs.log2 < 67 := by
    by_cases z : i.natAbs = 0
    · rw [z]; decide
    · exact h67 z
  refine ⟨?_, rfl, ?_, Nat.le_refl _, ?_⟩
  · show decide (i.natAbs.log2 < 1920) = true
    exact decide_eq_true (by omega)
  · show decide ((PyData.shown (.int i)).length ≤ 25) = true
    have := PyProof.Rows.toString_length_le h0 (k := 20) (by decide) h
    exact decide_eq_true (Nat.le_trans this (by decide))
  · show (if i == 0 then 0 else i.natAbs.log2 + 1) ≤ 70
    split <;> omega
theorem sho_non : Sho 0 0 .none := ⟨rfl, rfl, rfl, Nat.le_refl _, Nat.le_refl _⟩
theorem sho_bl {b : Bool} : Sho 0 0 (.bool b) := ⟨rfl, rfl, rfl, Nat.le_refl _, Nat.le_refl _⟩
theorem sho_all {p w : Nat} : ∀ {ds : List PyData}, (∀ d, d ∈ ds → Sho p w d) → PyData.showableAll ds = true ∧ PyData.hasDictAll ds = false ∧ PyData.leavesShortAll 25 ds = true ∧ PyData.depthAll ds ≤ p ∧ PyData.weightAll ds ≤ ds.length * (w + 1)
  | [], _ => ⟨rfl, rfl, rfl, Nat.zero_le _, Nat.zero_le _⟩
  | d :: ds, h => by
    obtain ⟨a1, a2, a3, a4, a5⟩ := sho_all fun x hx => h x (List.mem_cons_of_mem _ hx)
    have b := h d List.mem_cons_self
    refine ⟨?_, ?_, ?_, ?_, ?_⟩
    · show (d.showable && PyData.showableAll ds) = true
      rw [b.s, a1]; rfl
    · show (d.hasDict || PyData.hasDictAll ds) = false
      rw [b.n, a2]; rfl
    · show (d.leavesShort 25 && PyData.leavesShortAll 25 ds) = true
      rw [b.l, a3]; rfl
    · show max d.depth (PyData.depthAll ds) ≤ p
      have := b.p; omega
    · show d.weight + 1 + PyData.weightAll ds ≤ (ds.length + 1) * (w + 1)
      have := b.w
      rw [Nat.succ_mul]; omega
theorem sho_list {p w : Nat} {ds : List PyData} (h : ∀ d, d ∈ ds → Sho p w d) : Sho (p + 1) (ds.length * (w + 1)) (.list ds) := by
  obtain ⟨a1, a2, a3, a4, a5⟩ := sho_all h
  exact ⟨a1, a2, a3, Nat.succ_le_succ a4, a5⟩
theorem sho_tup {p w : Nat} {ds : List PyData} (h : ∀ d, d ∈ ds → Sho p w d) : Sho (p + 1) (ds.length * (w + 1)) (.tuple ds) := by
  obtain ⟨a1, a2, a3, a4, a5⟩ := sho_all h
  exact ⟨a1, a2, a3, Nat.succ_le_succ a4, a5⟩
theorem repr_sho {K : PySem.W.Frag} {G : Hp} {M : Mem} {R : KR} {x : V} {d : PyData} {p w : Nat} (h : DatAt K G M x d) (s : Sho p w d) (hp : p ≤ 30) (hw : w ≤ 600000) (q : R (.str d.shown) G M) : kRepr K [x] G M R :=
  ⟨d, h, s.s, s.n, Nat.le_trans s.p hp, Nat.le_trans (PyData.shown_le 25 (by decide) d s.l) (Nat.le_trans (m := (25 + 2) * 600000 + 25) (Nat.add_le_add_right (Nat.mul_le_mul_left _ (Nat.le_trans s.w hw)) _) (by decide)), q⟩
end BT
set_option Elab.async false
set_option linter.all false
set_option maxRecDepth 100000
set_option maxHeartbeats 4000000
/-! sorted(xs) of lists of data, xs < ys of data -/
namespace BT
open PySem PySem.Spec L2
open PyProof.Rows hiding St
section
variable {X : Cx} {W : WX} {pos : Pos}
theorem each_vals : ∀ {its : List Value} {bs : List (V × PyData)}, Vals (bs.map (·.1)) its → PySem.W.EachIs (fun v (b : V × PyData) => RelV b.1 v) its bs
  | _, [], h => by
    have h : Vals [] _ := h
    cases h; exact .nil
  | _, b :: bs, h => by
    have h : Vals (b.1 :: bs.map (·.1)) _ := h
    cases h with
    | cons a t => exact .cons a (each_vals t)
theorem vals_each : ∀ {its : List Value} {bs : List (V × PyData)}, PySem.W.EachIs (fun v (b : V × PyData) => RelV b.1 v) its bs → Vals (bs.map (·.1)) its
  | _, _, .nil => .nil
  | _, _, .cons a t => .cons a (vals_each t)
theorem each_reads {pins : List (Addr × Obj)} {σ : St} {H : Hp} {s : Shared} (I : Inv X pins σ H s) : ∀ {its : List Value} {bs : List (V × PyData)}, PySem.W.EachIs (fun v (b : V × PyData) => RelV b.1 v) its bs → (∀ b, b ∈ bs → Dp X.K H b.1 b.2) → PySem.W.EachIs (fun v b => ∃ as, Reads s.heap v b.2 as) its bs
  | _, _, .nil, _ => .nil
  | _, _, .cons a t, h => .cons (Dp.reads I _ _ _ (h _ List.mem_cons_self) a) (each_reads I t fun b hb => h b (List.mem_cons_of_mem _ hb))
/-- sorted(xs): the list's items with what they read as -/
def kSortD (K : PySem.W.Frag) : KC := fun vs G M R => match vs with
  | [.ref a] => ∃ (bs : List (V × PyData)), LstAt K G M a (bs.map (·.1)) ∧ (∀ b, b ∈ bs → DatAt K G M b.1 b.2) ∧ PySem.W.AllAlike (bs.map (·.2)) ∧ PySem.W.Sortable (bs.map (·.2)) ∧ (∀ b, b ∈ bs → b.2.depth ≤ 40) ∧
    ∀ p, Fr G M p → R (.ref p) G ((p, .lst ((bs.mergeSort (PySem.W.dataLe false (·.2))).map (·.1))) :: M)
  | _ => False
theorem kc_sortD (hu : X.A.units + 64 < cLine) : KCall X (.builtin "sorted") (kSortD X.K) := by
  intro pins s σ H vs us Q I r h
  obtain ⟨G, M, R, hv, h, hR⟩ := h
  match vs, h with
  | [.ref a], ⟨bs, h1, h2, h3, h4, h5, h6⟩ =>
    obtain ⟨its, rv, hl, hz⟩ := I.list (hv.lst h1)
    rw [Vals.ref1 r]
    have e := each_vals rv
    rw [List.length_map] at hz
    refine PySem.W.sorted_data (R := fun v (b : V × PyData) => RelV b.1 v) (enc := fun b => b.2) hl.isList e (each_reads I e fun b hb => h2 b hb H hv) h3 h4 hz (fun b hb => by have := h5 b hb; omega) fun out ho eo => ?_
    obtain ⟨ep, he'⟩ := PyProof.Rows.sortedAll_at s.heap its out.toArray
    have hf := I.hok.fresh (Nat.le_succ s.heap.objs.size)
    refine ⟨.ref _, upd H (s.heap.objs.size + 1) (.lst ((bs.mergeSort (PySem.W.dataLe false (·.2))).map (·.1))), I.laid (t' := s.toks) (fun _ _ => PyProof.Rows.sortedAll_old) (Nat.le_succ _) ⟨by rw [List.length_map, (List.mergeSort_perm _ _).length_eq]; exact hz, out, ep, vals_each eo, he'⟩, rfl, hR _ G _ _ (hv.newM hf) (h6 _ (hv.fr hf))⟩
/-- x < y of data -/
def kLtD (K : PySem.W.Frag) : KR2 := fun x y G M R => ∃ d e, DatAt K G M x d ∧ DatAt K G M y e ∧ PySem.W.alike d e = true ∧ d ≠ .none ∧ d.depth ≤ 40 ∧ R (.bl (PySem.W.dataLt d e)) G M
theorem kop_ltD (hu : X.A.units + 64 < cLine) : KOp X (compareOp .Lt) (kLtD X.K) := fun pins s σ H x y v u Q G M R I rx ry hv h hR => by
  obtain ⟨d, e, h1, h2, h3, h4, h5, h6⟩ := h
  obtain ⟨as, r1⟩ := Dp.reads I d x v (h1 H hv) rx
  obtain ⟨bs, r2⟩ := Dp.reads I e y u (h2 H hv) ry
  exact PySem.W.lt_data r1 r2 h3 h4 (by have : min d.depth e.depth ≤ d.depth := Nat.min_le_left _ _; omega) ⟨.bl _, H, I, rfl, hR _ G M H hv h6⟩
end
/-! ### what is sorted is told by its items alone -/
section
open PySem.W
mutual
theorem eqv_eq : ∀ (d e : PyData), alike d e = true → PyData.eqv d e = true → d = e
  | .none, e, h, q => by cases e <;> first | rfl | exact absurd h (by simp [alike])
  | .bool a, e, h, q => by
    cases e with
    | bool b => have : a = b := by simpa [PyData.eqv] using q
                rw [this]
    | _ => exact absurd h (by simp [alike])
  | .int a, e, h, q => by
    cases e with
    | int b => have : a = b := by simpa [PyData.eqv] using q
               rw [this]
    | _ => exact absurd h (by simp [alike])
  | .str a, e, h, q => by
    cases e with
    | str b => have : a = b := by simpa [PyData.eqv] using q
               rw [this]
    | _ => exact absurd h (by simp [alike])
  | .list xs, e, h, q => by
    cases e with
    | list ys => rw [eqvs_eq xs ys (by simpa [alike] using h) (by simpa [PyData.eqv] using q)]
    | _ => exact absurd h (by simp [alike])
  | .tuple xs, e, h, q => by
    cases e with
    | tuple ys => rw [eqvs_eq xs ys (by simpa [alike] using h) (by simpa [PyData.eqv] using q)]
    | _ => exact absurd h (by simp [alike])
  | .dict _, e, h, q => absurd h (by cases e <;> simp [alike])
theorem eqvs_eq : ∀ (xs ys : List PyData), alikeAll xs ys = true → PyData.eqvAll xs ys = true → xs = ys
  | [], [], _, _ => rfl
  | [], _ :: _, _, q => absurd q (by simp [PyData.eqvAll])
  | _ :: _, [], _, q => absurd q (by simp [PyData.eqvAll])
  | x :: xs, y :: ys, h, q => by
    rw [eqv_all_cons, Bool.and_eq_true] at q
    rw [eqv_eq x y (alike_all_cons h).1 q.1, eqvs_eq xs ys (alike_all_cons h).2 q.2]
end
theorem toks_inj {d e : PyData} (h : alike d e = true) (q : keyToks d = keyToks e) : d = e := by
  obtain ⟨_, h2⟩ := toks_eqv d e h
  cases z : PyData.eqv d e with
  | true => exact eqv_eq d e h z
  | false =>
    exfalso
    have := h2 z [] [.inl 0]
    rw [q, lex_pre, PyProof.Rows.lex_irrefl] at this
    cases this
end
section
open PySem.W
theorem sort_uniq {ds es : List PyData} (hp : ds.Perm es) (ha : AllAlike ds) : ds.mergeSort (dataLe false id) = es.mergeSort (dataLe false id) := by
  have p1 := sort_pairwise (sortLe_total (listOrd itemOrd) false fun b : PyData => keyToks (id b)) ds
  have p2 := sort_pairwise (sortLe_total (listOrd itemOrd) false fun b : PyData => keyToks (id b)) es
  have q1 : (ds.mergeSort (dataLe false id)).Perm ds := List.mergeSort_perm _ _
  have q2 : (es.mergeSort (dataLe false id)).Perm es := List.mergeSort_perm _ _
  refine List.Perm.eq_of_pairwise (fun a b ha1 hb1 h1 h2 => ?_) p1 p2 (q1.trans (hp.trans q2.symm))
  have m1 := q1.mem_iff.mp ha1
  have m2 := hp.mem_iff.mpr (q2.mem_iff.mp hb1)
  have h1 : (!(listOrd itemOrd).blt (keyToks b) (keyToks a)) = true := h1
  have h2 : (!(listOrd itemOrd).blt (keyToks a) (keyToks b)) = true := h2
  refine toks_inj (ha a m1 b m2) ((listOrd itemOrd).total _ _ ?_ ?_)
  · simpa using h2
  · simpa using h1
theorem sort_snd (bs : List (V × PyData)) : (bs.mergeSort (dataLe false (·.2))).map (·.2) = (bs.map (·.2)).mergeSort (dataLe false id) :=
  List.map_mergeSort (fun _ _ _ _ => rfl)
end
section
variable {K : PySem.W.Frag} {G : Hp} {M : Mem} {R : KR}
theorem datAll_of : ∀ {bs : List (V × PyData)}, (∀ b, b ∈ bs → DatAt K G M b.1 b.2) → DatAll K G M (bs.map (·.1)) (bs.map (·.2))
  | [], _ => fun H hv => .nil
  | b :: bs, h => fun H hv => .cons (h b List.mem_cons_self H hv) (datAll_of (fun c hc => h c (List.mem_cons_of_mem _ hc)) H hv)
theorem of_datAll : ∀ {xs : List V} {ds : List PyData}, xs.length = ds.length → DatAll K G M xs ds → ∀ b, b ∈ xs.zip ds → DatAt K G M b.1 b.2
  | [], _, _, _, b, hb => by simp at hb
  | _ :: _, [], h, _, _, _ => by cases h
  | x :: xs, d :: ds, hl, h, b, hb => by
    rw [List.zip_cons_cons] at hb
    rcases List.mem_cons.mp hb with rfl | hb
    · intro H hv
      cases h H hv with
      | cons a t => exact a
    · refine of_datAll (Nat.succ.inj hl) (fun H hv => ?_) b hb
      cases h H hv with
      | cons a t => exact t
/-- sorted(xs), told by the data alone -/
theorem sortD_of {a : Addr} {xs : List V} {ds : List PyData} (h1 : LstAt K G M a xs) (hl : xs.length = ds.length) (h2 : DatAll K G M xs ds) (h3 : PySem.W.AllAlike ds) (h4 : PySem.W.Sortable ds) (h5 : ∀ d, d ∈ ds → d.depth ≤ 40)
    (q : ∀ p ys, Fr G M p → DatAll K G M ys (ds.mergeSort (PySem.W.dataLe false id)) → R (.ref p) G ((p, .lst ys) :: M)) : kSortD K [.ref a] G M R := by
  have e1 : (xs.zip ds).map (·.1) = xs := List.map_fst_zip (by omega)
  have e2 : (xs.zip ds).map (·.2) = ds := List.map_snd_zip (by omega)
  have hb := of_datAll hl h2
  refine ⟨xs.zip ds, by rw [e1]; exact h1, hb, by rw [e2]; exact h3, by rw [e2]; exact h4, fun b hb => h5 _ (by rw [← e2]; exact List.mem_map.mpr ⟨b, hb, rfl⟩), fun p fp => q p _ fp ?_⟩
  have := datAll_of (K := K) (G := G) (M := M) (bs := (xs.zip ds).mergeSort (PySem.W.dataLe false (·.2))) fun b hb' => hb b ((List.mergeSort_perm _ _).mem_iff.mp hb')
  rw [sort_snd, e2] at this
  exact this
/-- the same of frozen data -/
theorem dpG_of : ∀ {bs : List (V × PyData)}, (∀ b, b ∈ bs → Dp K G b.1 b.2) → DpAll K G (bs.map (·.1)) (bs.map (·.2))
  | [], _ => .nil
  | b :: bs, h => .cons (h b List.mem_cons_self) (dpG_of fun c hc => h c (List.mem_cons_of_mem _ hc))
theorem of_dpG : ∀ {xs : List V} {ds : List PyData}, DpAll K G xs ds → ∀ b, b ∈ xs.zip ds → Dp K G b.1 b.2
  | _, _, .nil, b, hb => by simp at hb
  | _, _, .cons a t, b, hb => by
    rw [List.zip_cons_cons] at hb
    rcases List.mem_cons.mp hb with rfl | hb
    · exact a
    · exact of_dpG t b hb
theorem dpG_len {xs : List V} {ds : List PyData} (h : DpAll K G xs ds) : xs.length = ds.length := by
  induction ds generalizing xs with
  | nil => cases h; rfl
  | cons d ds ih =>
    cases h with
    | cons a t => rw [List.length_cons, List.length_cons, ih t]
theorem sortG_of {a : Addr} {xs : List V} {ds : List PyData} (h1 : LstAt K G M a xs) (h2 : DpAll K G xs ds) (h3 : PySem.W.AllAlike ds) (h4 : PySem.W.Sortable ds) (h5 : ∀ d, d ∈ ds → d.depth ≤ 40)
    (q : ∀ p ys, Fr G M p → DpAll K G ys (ds.mergeSort (PySem.W.dataLe false id)) → R (.ref p) G ((p, .lst ys) :: M)) : kSortD K [.ref a] G M R := by
  have hl := dpG_len h2
  have e1 : (xs.zip ds).map (·.1) = xs := List.map_fst_zip (by omega)
  have e2 : (xs.zip ds).map (·.2) = ds := List.map_snd_zip (by omega)
  have hb := of_dpG h2
  refine ⟨xs.zip ds, by rw [e1]; exact h1, fun b hb' H hv => ex_d hv.exx _ (hb b hb'), by rw [e2]; exact h3, by rw [e2]; exact h4, fun b hb => h5 _ (by rw [← e2]; exact List.mem_map.mpr ⟨b, hb, rfl⟩), fun p fp => q p _ fp ?_⟩
  have := dpG_of (K := K) (G := G) (bs := (xs.zip ds).mergeSort (PySem.W.dataLe false (·.2))) fun b hb' => hb b ((List.mergeSort_perm _ _).mem_iff.mp hb')
  rw [sort_snd, e2] at this
  exact this
end
end BT
set_option Elab.async false
set_option linter.all false
set_option maxRecDepth 100000
set_option maxHeartbeats 4000000
/-! list(d.values()) -/
namespace BT
open PySem PySem.Spec L2
open PyProof.Rows hiding St
section
variable {X : Cx} {W : WX} {e : Expr} {te : TE} {t : KE} {p apos cpos pos : Pos}
theorem pe_listVals (hc : X.calm = true) (he : PE X e te) (hg : Gl X "list") (hm : X.mg "list" = none) (hv : bootBuiltins "list" = some (.type "list")) (hbase : attributeBase e "values" X.env (eval e X.env) = eval e X.env := by rfl) (hline : (apos.endLine == cpos.line) = true := by rfl)
    (hs : starEach [.Call (.Attribute e "values" apos) [] [] cpos] X.env = (false, eval (.Call (.Attribute e "values" apos) [] [] cpos) X.env) :: starEach [] X.env := by rfl) :
    PE X (.Call (.Name "list" p) [.Call (.Attribute e "values" apos) [] [] cpos] [] pos) (fun σ H Q => te σ H fun x H1 => ∃ (d : Addr) (kvs : List (Key × V)), x = .ref d ∧ H1 d = some (.dK kvs) ∧ ∀ q, H1 q = none → Q (.ref q) (upd H1 q (.lst (kvs.map (·.2))))) := by
  refine ⟨fun pins s σ H Q I hq => ?_⟩
  refine wpAny_Call_Name_kw (ld_blt I hg hm hv ?_)
  refine PyProof.Rows.callWith_type1 ?_ hs rfl
  rw [hs]
  show wpAny _ _ (spliced ((false, eval (.Call (.Attribute e "values" apos) [] [] cpos) X.env) :: backTo pos (starEach [] X.env))) _ _ s
  refine Calls.spliced_cons ?_
  refine wpAny_Call_method (T := "dict") (id := "dict.values") hbase rfl hline F.plainAttrs_dict F.slot_dict_values F.type_dict_values (thn (he.run pins s σ H _ I hq) fun u s1 ⟨x, H1, I1, rx, d, kvs, ex, hd, q⟩ => ?_)
  subst ex
  obtain rfl : u = Value.ref d := rx
  obtain ⟨hz, hs0, vs, kv, hdo⟩ := I1.hok d _ hd
  obtain ⟨ep, hat⟩ := hdo.dictAt
  have lk : kvs.length = vs.length := Paired.length kv
  have I2 : Inv X pins σ H1 { s1 with heap := s1.heap.push { cls := .type "dict_values", data := .fields #[.ref d] } } := I1.kept (t' := s1.toks) fun b ob q => Heap.get?_push_of_some _ q
  refine ⟨hdo.typeIs, hdo.mapOf.noDict, ?_⟩
  show wpAny _ _ (callWith cpos (.builtin "dict.values") [.ref d] [] []) _ X.xe s1
  refine method_meetsIn F.slot_dict_values F.entry_dict_values rfl (PySem.evalArgs_none ⟨rfl, hdo.typeIs, F.args_dict_values_1 _, _, meets_dict_values (mixKind X.prog X.w) d hs0, ⟨vs, hdo⟩, ?_⟩)
  refine Calls.spliced_nil ?_
  refine PySem.W.kdl_call (PySem.W.kdl_values (knd := mixKind X.prog X.w) (kvs := vs) (ep := ep)) (I1.ok.hd hc) ⟨⟨_, Heap.get?_push_size _ rfl, rfl, rfl⟩, hat.push _⟩ (by rw [← lk]; exact hz) fun h' tk acc c' hk hS hacc => ?_
  refine ⟨.ref _, upd H1 _ (.lst (kvs.map (·.2))), I2.laid hk (Nat.le_refl _) (show ObjOk X.prog X.w _ _ _ (.lst (kvs.map (·.2))) from ⟨?_, acc.toList, c', ?_, ?_⟩), rfl, q _ (I2.hok.fresh (Nat.le_refl _))⟩
  · rw [List.length_map]; exact hz
  · have el : acc.toList.length = acc.size := by simp
    refine vals_of_at (by rw [List.length_map, el, hacc.1, lk]) fun j x w h1 h2 => ?_
    obtain ⟨k, hky⟩ := hacc.2 j w (by rw [← Array.getElem?_toList]; exact h2)
    obtain ⟨y, hy, r⟩ := paired_get2 kv hky
    rw [List.getElem?_map, hy] at h1
    cases h1
    exact r.2
  · rw [Array.toArray_toList]; exact hS
def kValsL (t : KE) : KE := fun σ G M R E => t σ G M (fun x G M => match x with
  | .ref d => ∃ kvs : List (Key × V), At G M d (.dK kvs) ∧ ∀ p, Fr G M p → R (.ref p) G ((p, .lst (kvs.map (·.2))) :: M)
  | _ => False) E
theorem je_listVals (hm : X.mg "list" = none) (he : JE X W e t) (hc : X.calm = true := by rfl) (hg : Gl X "list" := by rfl) (hv : bootBuiltins "list" = some (.type "list") := by decide +kernel) (hbase : attributeBase e "values" X.env (eval e X.env) = eval e X.env := by rfl) (hline : (apos.endLine == cpos.line) = true := by rfl)
    (hs : starEach [.Call (.Attribute e "values" apos) [] [] cpos] X.env = (false, eval (.Call (.Attribute e "values" apos) [] [] cpos) X.env) :: starEach [] X.env := by rfl) :
    JE X W (.Call (.Name "list" p) [.Call (.Attribute e "values" apos) [] [] cpos] [] pos) (kValsL t) :=
  pe_mono (pe_listVals hc he hg hm hv hbase hline hs) fun σ H Q ⟨G, M, R, E, hv, h, hR, hE⟩ => ⟨G, M, _, E, hv, h, fun x G1 M1 H1 hv1 q => by
    match x, q with
    | .ref d, ⟨kvs, q1, q2⟩ => exact ⟨d, kvs, rfl, hv1.at q1, fun p hp => hR _ G1 _ _ (hv1.newM hp) (q2 p (hv1.fr hp))⟩, hE⟩
end
end BT
namespace BT
open PySem PySem.Spec L2
open PyProof.Rows hiding St
def storeKs : List Nat := []
/-! ### whole numbers -/
def isIntV : V → Bool
  | .int _ => true
  | _ => false
def withinV (x : V) (lo hi : Int) : Bool := match x with
  | .int i => decide (lo ≤ i) && decide (i ≤ hi)
  | _ => false
def S_is_whole (K : PySem.W.Frag) : KSp := sp1 fun x G M R Z => ∃ T : PT, TyK K G M x T ∧ R (.bl (T == .int)) G M
def S_is_within (K : PySem.W.Frag) : KSp := sp3 fun x y z G M R Z => ∃ (T : PT) (lo hi : Int), y = .int lo ∧ z = .int hi ∧ TyK K G M x T ∧ (T == .int) = isIntV x ∧ R (.bl (withinV x lo hi)) G M
def isStrV : V → Bool
  | .str _ => true
  | _ => false

/-! ### things whose type is known -/
def WOk (K : PySem.W.Frag) (G : Hp) (w : V) : Prop := ∃ S : PT, (∀ M, TyK K G M w S) ∧ (S == .str) = isStrV w
def IOk (K : PySem.W.Frag) (G : Hp) (x : V) : Prop := ∃ T : PT, (∀ M, TyK K G M x T) ∧ (T == .int) = isIntV x

/-! ### kinds and draws -/
structure Kn where
  leaf : Bool
  n : Nat
def Kn.txt (k : Kn) : Str := if k.leaf then "leaf" else "shuffle"
def KnOk (k : Kn) : Prop := k.n ≤ 64 ∧ (k.leaf = true → k.n ≤ 6) ∧ (k.leaf = false → 1 ≤ k.n)
def fac : Nat → Nat
  | 0 => 1
  | n + 1 => (n + 1) * fac n
def manyK (k : Kn) : Nat := if k.leaf then 2 ^ k.n else fac k.n
def prK : List Kn → Nat
  | [] => 1
  | k :: ks => manyK k * prK ks
def knD (k : Kn) : PyData := .tuple [.str k.txt, .int k.n]
def rowAt : Nat → Nat → List Nat
  | 0, _ => []
  | s + 1, n => rowAt s (n / (s + 1)) ++ [n % (s + 1)]
/-- a draw: a leaf's number, or a row -/
inductive Dr | leaf (n : Nat) | row (l : List Nat)
def dOf (k : Kn) (n : Nat) : Dr := if k.leaf then .leaf n else .row (rowAt k.n n)
def drR : List Kn → Nat → List Dr
  | [], _ => []
  | k :: ks, n => dOf k (n % manyK k) :: drR ks (n / manyK k)
def drawsAt (ks : List Kn) (n : Nat) : List Dr := (drR ks.reverse n).reverse
def natsV (l : List Nat) : List V := l.map fun (n : Nat) => V.int (n : Int)
inductive A2 {α β : Type} (r : α → β → Prop) : List α → List β → Prop
  | nil : A2 r [] []
  | cons {a : α} {b : β} {as : List α} {bs : List β} : r a b → A2 r as bs → A2 r (a :: as) (b :: bs)
/-- a draw as it lies: a row's list is one of the cells -/
def DrM (M : Mem) (v : V) (d : Dr) : Prop := match d with
  | .leaf n => v = .int n
  | .row l => ∃ b, v = .ref b ∧ (b, HO.lst (natsV l)) ∈ M
def DrV (K : PySem.W.Frag) (G : Hp) (M : Mem) (v : V) (d : Dr) : Prop := match d with
  | .leaf n => v = .int n
  | .row l => ∃ b, v = .ref b ∧ LstAt K G M b (natsV l)
def KnAt (K : PySem.W.Frag) (G : Hp) (M : Mem) (a : Addr) (ks : List Kn) : Prop := ∃ us, LstAt K G M a us ∧ DpAll K G us (ks.map knD) ∧ (∀ k, k ∈ ks → KnOk k) ∧ ks.length ≤ 1000
def DrAt (K : PySem.W.Frag) (G : Hp) (M : Mem) (a : Addr) (ds : List Dr) : Prop := ∃ us, LstAt K G M a us ∧ A2 (DrV K G M) us ds
def DrOk (k : Kn) (d : Dr) : Prop := match d with
  | .leaf n => k.leaf = true ∧ n < 2 ^ k.n
  | .row l => k.leaf = false ∧ l.length = k.n ∧ ∀ (i v : Nat), l[i]? = some v → v ≤ i
def S_leaves (K : PySem.W.Frag) : KSp := sp1 fun x G M R Z => ∃ n : Nat, x = .int n ∧ n ≤ 1000 ∧ R (.int ((2 ^ n : Nat) : Int)) G M
def S_many_of (K : PySem.W.Frag) : KSp := sp1 fun x G M R Z => ∃ k : Kn, Dp K G x (knD k) ∧ k.n ≤ 64 ∧ R (.int (manyK k)) G M
def S_how_many (K : PySem.W.Frag) : KSp := sp1 fun x G M R Z => ∃ (a : Addr) (ks : List Kn), x = .ref a ∧ KnAt K G M a ks ∧ R (.int (prK ks)) G M
def S_row_at (K : PySem.W.Frag) : KSp := sp2 fun x y G M R Z => ∃ s n : Nat, x = .int s ∧ y = .int n ∧ s ≤ 64 ∧ ∀ p, Fr G M p → R (.ref p) G ((p, .lst (natsV (rowAt s n))) :: M)
def S_draws_at (K : PySem.W.Frag) : KSp := sp2 fun x y G M R Z => ∃ (a : Addr) (ks : List Kn) (T : PT), x = .ref a ∧ KnAt K G M a ks ∧ TyK K G M y T ∧ (T == .int) = isIntV y ∧
  (∀ n : Nat, y = .int n → n < prK ks → ∀ (p : Addr) (us : List V) (Mn : Mem), A2 (DrM Mn) us (drawsAt ks n) → R (.ref p) G ((p, .lst us) :: (Mn ++ M))) ∧
  (withinV y 0 ((prK ks : Int) - 1) = false → Z (.ref (cl K "NoNumber")) none G M)

/-! ### sizes and needs -/
def highN (m : Nat) : Nat := ((List.range 6).filter fun k => decide (2 ^ k < m)).length
def lastN (m : Nat) : Nat := highN m - 1
def sideN (m : Nat) : Nat := ((List.range 7).filter fun k => decide (1 ≤ k) && decide (m ≤ k * k)).headD 0
def stairN (m p : Nat) : Nat := ((List.range 6).filter fun k => decide (k = lastN m) || decide (p % (2 * 2 ^ k) ≠ 0)).headD 0
def slotA (m st : Nat) : Nat := if st = lastN m then m else 2 * 2 ^ st
def trN : Nat → Nat → List Nat
  | 0, m => [m]
  | f + 1, m => if 4 < m then m :: trN f ((m + 3) / 4) else [m]
def treesN (m : Nat) : List Nat := trN 3 m
def spareK (m most : Nat) : List Kn := List.replicate ((most + sideN m - 1) / sideN m) ⟨false, m + sideN m⟩
def stairL (m most : Nat) : List Nat := lastN m :: (List.range ((most + 1) / 2 - 1)).map fun i => stairN m (i + 1)
def stairsK (m most : Nat) : List Kn := if most = 0 then [] else (stairL m most).map fun st => ⟨false, slotA m st + 2 * 2 ^ st⟩
def groveK (ts : List Nat) (most : Nat) : List Kn := (ts.flatMap fun m => List.replicate m ⟨true, highN m⟩) ++ (List.replicate most (ts.map fun m => (⟨true, highN m⟩ : Kn))).flatten
def kindsK (w : Str) (m most : Nat) : List Kn := if w = "spare" then spareK m most else if w = "stairs" then stairsK m most else if w = "tree" then groveK [m] most else if w = "grove" then groveK (treesN m) most else []
/-- a list of kinds that was told: a cell of its own -/
def KndsR (K : PySem.W.Frag) (G : Hp) (M : Mem) (ks : List Kn) (R : KR) : Prop := ∀ (t : Addr) (us : List V) (G' : Hp), Ex G G' → Fr G' M t → DpAll K G' us (ks.map knD) → R (.ref t) G' ((t, .lst us) :: M)
def natOk (x : V) (m : Nat) (lo hi : Nat) : Prop := x = .int m ∧ lo ≤ m ∧ m ≤ hi
def S_side_of (K : PySem.W.Frag) : KSp := sp1 fun x G M R Z => ∃ m, natOk x m 1 32 ∧ R (.int (sideN m)) G M
def S_high_of (K : PySem.W.Frag) : KSp := sp1 fun x G M R Z => ∃ m, natOk x m 1 32 ∧ R (.int (highN m)) G M
def S_last_of (K : PySem.W.Frag) : KSp := sp1 fun x G M R Z => ∃ m, natOk x m 1 32 ∧ R (.int (lastN m)) G M
def S_stair_of (K : PySem.W.Frag) : KSp := sp2 fun x y G M R Z => ∃ m p, natOk x m 1 32 ∧ natOk y p 1 30 ∧ R (.int (stairN m p)) G M
def S_slots_of (K : PySem.W.Frag) : KSp := sp2 fun x y G M R Z => ∃ m st, natOk x m 1 32 ∧ natOk y st 0 6 ∧ ∀ t G', Ex G G' → SqT K G' t [.int (slotA m st), .int ((2 * 2 ^ st : Nat) : Int)] → R (.ref t) G' M
def S_trees_of (K : PySem.W.Frag) : KSp := sp1 fun x G M R Z => ∃ m, natOk x m 1 32 ∧ ∀ t, Fr G M t → R (.ref t) G ((t, .lst (natsV (treesN m))) :: M)
def S_look_at_many (K : PySem.W.Frag) : KSp := sp1 fun x G M R Z => ∃ T : PT, TyK K G M x T ∧ (T == .int) = isIntV x ∧ (withinV x 1 32 = true → R .non G M) ∧ (withinV x 1 32 = false → Z (.ref (cl K "NoSize")) none G M)
def S_look_at_sizes (K : PySem.W.Frag) : KSp := sp2 fun x y G M R Z => ∃ T U : PT, TyK K G M x T ∧ (T == .int) = isIntV x ∧ TyK K G M y U ∧ (U == .int) = isIntV y ∧
  ((withinV x 1 32 && withinV y 0 60) = true → R .non G M) ∧ ((withinV x 1 32 && withinV y 0 60) = false → Z (.ref (cl K "NoSize")) none G M)
def waysL : List Str := ["scan", "spare", "stairs", "tree", "grove"]
def wayV (x : V) : Bool := match x with
  | .str s => waysL.contains s
  | _ => false
def S_look_at_way (K : PySem.W.Frag) : KSp := sp1 fun x G M R Z => ∃ T : PT, TyK K G M x T ∧ (T == .str) = isStrV x ∧ (wayV x = true → R .non G M) ∧ (wayV x = false → Z (.ref (cl K "NoWay")) none G M)
def S_spare_needs (K : PySem.W.Frag) : KSp := sp2 fun x y G M R Z => ∃ m q, natOk x m 1 32 ∧ natOk y q 0 60 ∧ KndsR K G M (spareK m q) R
def S_stairs_needs (K : PySem.W.Frag) : KSp := sp2 fun x y G M R Z => ∃ m q, natOk x m 1 32 ∧ natOk y q 0 60 ∧ KndsR K G M (stairsK m q) R
def S_grove_needs (K : PySem.W.Frag) : KSp := sp2 fun x y G M R Z => ∃ (a : Addr) (ts : List Nat) (q : Nat), x = .ref a ∧ LstAt K G M a (natsV ts) ∧ (∀ t, t ∈ ts → 1 ≤ t ∧ t ≤ 32) ∧ ts.length ≤ 3 ∧ natOk y q 0 60 ∧ KndsR K G M (groveK ts q) R
def S_kinds_of (K : PySem.W.Frag) : KSp := sp3 fun w x y G M R Z => ∃ (s : Str) (m q : Nat), w = .str s ∧ natOk x m 1 32 ∧ natOk y q 0 60 ∧ KndsR K G M (kindsK s m q) R
def S_needs (K : PySem.W.Frag) : KSp := sp3 fun w x y G M R Z => ∃ S T U : PT, TyK K G M w S ∧ (S == .str) = isStrV w ∧ TyK K G M x T ∧ (T == .int) = isIntV x ∧ TyK K G M y U ∧ (U == .int) = isIntV y ∧
  (∀ (s : Str) (m q : Nat), w = .str s → wayV w = true → natOk x m 1 32 → natOk y q 0 60 → KndsR K G M (kindsK s m q) R) ∧
  (wayV w = false → Z (.ref (cl K "NoWay")) none G M) ∧ (wayV w = true → (withinV x 1 32 && withinV y 0 60) = false → Z (.ref (cl K "NoSize")) none G M)

/-! ### orders and rows: what they are -/
def swapL (l : List Nat) (i j : Nat) : List Nat := (l.set i (l.getD j 0)).set j (l.getD i 0)
def walkO (r : Nat → Nat) : Nat → List Nat → List Nat
  | 0, o => o
  | m + 1, o => walkO r m (swapL o (m + 1) (r (m + 1)))
def orderOf (l : List Nat) : List Nat := walkO (fun i => l.getD i 0) (l.length - 1) (List.range l.length)
def walkR (o : Nat → Nat) : Nat → List Nat → List Nat → List Nat
  | 0, _, row => row
  | m + 1, left, row => walkR o m (swapL left (m + 1) (left.idxOf (o (m + 1)))) (row.set (m + 1) (left.idxOf (o (m + 1))))
def rowOf (o : List Nat) : List Nat := walkR (fun i => o.getD i 0) (o.length - 1) (List.range o.length) (List.replicate o.length 0)
/-- a shuffle's row -/
def RowOk (l : List Nat) : Prop := ∀ (i v : Nat), l[i]? = some v → v ≤ i
/-- an order of n -/
structure OrdOk (n : Nat) (o : List Nat) : Prop where
  len : o.length = n
  nd : o.Nodup
  lt : ∀ x, x ∈ o → x < n
/-- the ints of a list of things, where all are -/
def intOf : V → Int
  | .int i => i
  | _ => 0
def orderB (xs : List V) : Bool := decide (1 ≤ xs.length) && decide (xs.length ≤ 64) && xs.all (fun x => withinV x 0 ((xs.length : Int) - 1)) && decide ((xs.map intOf).Nodup)
def ItemsTy (K : PySem.W.Frag) (G : Hp) (M : Mem) (xs : List V) : Prop := ∀ x, x ∈ xs → ∃ T : PT, TyK K G M x T ∧ (T == .int) = isIntV x
/-- a thing that may be an order -/
def ordV (K : PySem.W.Frag) (G : Hp) (M : Mem) (x : V) (b : Bool) : Prop := (∃ T : PT, TyK K G M x T ∧ T ≠ .list ∧ b = false) ∨ ∃ (a : Addr) (xs : List V), x = .ref a ∧ LstAt K G M a xs ∧ xs.length ≤ 1000 ∧ ItemsTy K G M xs ∧ b = orderB xs
def S_is_order (K : PySem.W.Frag) : KSp := sp1 fun x G M R Z => ∃ b, ordV K G M x b ∧ R (.bl b) G M
def S_exchange (K : PySem.W.Frag) : KSp := sp3 fun x y z G M R Z => ∃ (a : Addr) (n : Nat) (l : List Nat) (i j : Nat), x = .ref a ∧ y = .int i ∧ z = .int j ∧ M[n]? = some (a, .lst (natsV l)) ∧ i < l.length ∧ j < l.length ∧ R .non G (M.set n (a, .lst (natsV (swapL l i j))))
def S_order_of (K : PySem.W.Frag) : KSp := sp1 fun x G M R Z => ∃ (a : Addr) (l : List Nat), x = .ref a ∧ LstAt K G M a (natsV l) ∧ RowOk l ∧ l.length ≤ 1000 ∧ ∀ t, Fr G M t → R (.ref t) G ((t, .lst (natsV (orderOf l))) :: M)
def S_row_of (K : PySem.W.Frag) : KSp := sp1 fun x G M R Z => (ordV K G M x false ∧ Z (.ref (cl K "NoOrder")) none G M) ∨ ∃ (a : Addr) (o : List Nat), x = .ref a ∧ LstAt K G M a (natsV o) ∧ OrdOk o.length o ∧ 1 ≤ o.length ∧ o.length ≤ 64 ∧ ∀ t, Fr G M t → R (.ref t) G ((t, .lst (natsV (rowOf o))) :: M)

/-! ### asks -/
inductive Deed | read (c : Nat) | write (c w : Nat)
def Deed.cell : Deed → Nat
  | .read c => c
  | .write c _ => c
def Deed.vs : Deed → List V
  | .read c => [.str "read", .int c]
  | .write c w => [.str "write", .int c, .int w]
def Deed.upd (ws : List Nat) : Deed → List Nat
  | .read _ => ws
  | .write c w => ws.set c w
def Deed.put (told : Nat) : Deed → Nat
  | .read _ => told
  | .write _ w => w
def DeedOk (m : Nat) (d : Deed) : Prop := d.cell < m ∧ match d with
  | .read _ => True
  | .write _ w => w ≤ 999999999999999999
def DeedAt (K : PySem.W.Frag) (G : Hp) (v : V) (d : Deed) : Prop := ∃ t, v = .ref t ∧ SqT K G t d.vs
/-- a thing whose first item may be compared with a text -/
def HeadOk (K : PySem.W.Frag) (G : Hp) (M : Mem) (x : V) : Prop := match x with
  | .ref a => (∃ d, DatAt K G M x d ∧ SeqAt.shaped d = true ∧ ∀ s, PyData.eqv d (.str s) = false) ∨ ∃ kvs, G a = some (.dK kvs)
  | .non => True
  | .int _ => True
  | .bl _ => True
  | .str _ => True
  | _ => False
def askB (m : Int) (xs : List V) : Bool := match xs with
  | x0 :: x1 :: r => withinV x1 0 (m - 1) && (match r with
    | [] => decide (x0 = .str "read")
    | [x2] => decide (x0 = .str "write") && withinV x2 0 999999999999999999
    | _ => false)
  | _ => false
def AskV (K : PySem.W.Frag) (G : Hp) (M : Mem) (m : Int) (y : V) (b : Bool) : Prop := (∃ T : PT, TyK K G M y T ∧ T ≠ .tuple ∧ b = false) ∨
  ∃ (t : Addr) (xs : List V), y = .ref t ∧ SqT K G t xs ∧ xs.length ≤ 1000 ∧ (∀ x, x ∈ xs → ∃ T : PT, TyK K G M x T ∧ (T == .int) = isIntV x) ∧ (∀ x, xs[0]? = some x → HeadOk K G M x) ∧ b = askB m xs
def S_is_ask (K : PySem.W.Frag) : KSp := sp2 fun x y G M R Z => ∃ (m : Int) (b : Bool), x = .int m ∧ AskV K G M m y b ∧ R (.bl b) G M
def S_need_ask (K : PySem.W.Frag) : KSp := sp2 fun x y G M R Z => ∃ (m : Int) (b : Bool), x = .int m ∧ AskV K G M m y b ∧ (b = true → R .non G M) ∧ (b = false → Z (.ref (cl K "NoAsk")) none G M)
/-- a thing that is no ask, wherever it is looked at -/
def NoAskG (K : PySem.W.Frag) (G : Hp) (m : Int) (v : V) : Prop := ∀ G2 M2, Ex G G2 → AskV K G2 M2 m v false

/-! ### looks at draws -/
def rowB (size : Nat) (xs : List V) : Bool := decide (xs.length = size) && (List.range xs.length).all fun i => withinV (xs.getD i .non) 0 (i : Int)
def RowV (K : PySem.W.Frag) (G : Hp) (M : Mem) (size : Nat) (y : V) (b : Bool) : Prop := (∃ T : PT, TyK K G M y T ∧ T ≠ .list ∧ b = false) ∨ ∃ (a : Addr) (xs : List V), y = .ref a ∧ LstAt K G M a xs ∧ xs.length ≤ 1000 ∧ ItemsTy K G M xs ∧ b = rowB size xs
def DrawV (K : PySem.W.Frag) (G : Hp) (M : Mem) (k : Kn) (y : V) (b : Bool) : Prop := if k.leaf then ∃ T : PT, TyK K G M y T ∧ (T == .int) = isIntV y ∧ b = withinV y 0 (((2 ^ k.n : Nat) : Int) - 1) else RowV K G M k.n y b
def S_is_row (K : PySem.W.Frag) : KSp := sp2 fun x y G M R Z => ∃ (n : Nat) (b : Bool), x = .int n ∧ RowV K G M n y b ∧ R (.bl b) G M
def S_is_draw (K : PySem.W.Frag) : KSp := sp2 fun x y G M R Z => ∃ (k : Kn) (b : Bool), Dp K G x (knD k) ∧ KnOk k ∧ DrawV K G M k y b ∧ R (.bl b) G M
def S_look_at_draws (K : PySem.W.Frag) : KSp := sp2 fun x y G M R Z => ∃ (a b : Addr) (ks : List Kn) (ds : List Dr), x = .ref a ∧ y = .ref b ∧ KnAt K G M a ks ∧ DrAt K G M b ds ∧ A2 DrOk ks ds ∧ R .non G M
/-- draws that are frozen -/
def DrsG (K : PySem.W.Frag) (G : Hp) (p : Addr) (ds : List Dr) : Prop := ∃ us, SqL K G p us ∧ A2 (DrV K G []) us ds
def S_copied (K : PySem.W.Frag) : KSp := sp1 fun x G M R Z => ∃ (b : Addr) (ds : List Dr), x = .ref b ∧ DrAt K G M b ds ∧ ds.length ≤ 1000 ∧ ∀ (p : Addr) (G' : Hp), Ex G G' → DrsG K G' p ds → R (.ref p) G' M

/-! ### keepers and shelves -/
structure Tch where
  lay : Bool
  shelf : Nat
  room : Nat
  deriving DecidableEq
def Tch.txt (t : Tch) : Str := if t.lay then "lay" else "look"
def tchD (t : Tch) : PyData := .tuple [.str t.txt, .int t.shelf, .int t.room]
/-- a list of touches, as it lies -/
def LogC (K : PySem.W.Frag) (G : Hp) (ts : List Tch) (o : HO) : Prop := ∃ vs, o = .lst vs ∧ DpAll K G vs (ts.map tchD)
structure KeepAt (K : PySem.W.Frag) (G : Hp) (M : Mem) (kp dk lg : Addr) (j l : Nat) (o : HO) (ts : List Tch) : Prop where
  k : M[j]? = some (kp, Ob K 1 dk [.ref lg])
  l : M[l]? = some (lg, o)
  c : LogC K G ts o
structure ShelfAt (K : PySem.W.Frag) (M : Mem) (a dx kp th : Addr) (num n i : Nat) (xs : List V) : Prop where
  s : M[n]? = some (a, Ob K 2 dx [.ref kp, .int num, .ref th])
  t : M[i]? = some (th, .lst xs)
/-- a list that is another cell than the one at n, or frozen -/
def LstN (K : PySem.W.Frag) (G : Hp) (M : Mem) (n : Nat) (b : Addr) (xs : List V) : Prop := (∃ i, n ≠ i ∧ M[i]? = some (b, .lst xs)) ∨ SqL K G b xs
def S_Keeper_init (K : PySem.W.Frag) : KSp := sp1 fun x G M R Z => ∃ (a dx : Addr) (n : Nat), x = .ref a ∧ M[n]? = some (a, Ob K 1 dx []) ∧ ∀ lg, Fr G M lg → R .non G ((lg, .lst []) :: M.set n (a, Ob K 1 dx [.ref lg]))
def S_Keeper_sees (K : PySem.W.Frag) : KSp := sp4 fun x y z u G M R Z => ∃ (kp dk lg : Addr) (j l : Nat) (o : HO) (ts : List Tch) (t : Tch), x = .ref kp ∧ y = .str t.txt ∧ z = .int t.shelf ∧ u = .int t.room ∧ KeepAt K G M kp dk lg j l o ts ∧ ts.length ≤ 1000000 ∧
  ∀ G' o', Ex G G' → LogC K G' (ts ++ [t]) o' → R .non G' (M.set l (lg, o'))
def S_Keeper_seen (K : PySem.W.Frag) : KSp := sp1 fun x G M R Z => ∃ (kp dk lg : Addr) (j l : Nat) (o : HO) (ts : List Tch), x = .ref kp ∧ KeepAt K G M kp dk lg j l o ts ∧ ∀ p, Fr G M p → R (.ref p) G ((p, o) :: M)
def S_Shelf_init (K : PySem.W.Frag) : KSp := sp4 fun x y z u G M R Z => ∃ (a dx b : Addr) (n : Nat) (xs : List V), x = .ref a ∧ u = .ref b ∧ M[n]? = some (a, Ob K 2 dx []) ∧ LstN K G M n b xs ∧ ∀ th, Fr G M th → R .non G ((th, .lst xs) :: M.set n (a, Ob K 2 dx [y, z, .ref th]))
def S_Shelf_rooms (K : PySem.W.Frag) : KSp := sp1 fun x G M R Z => ∃ (a dx kp th : Addr) (num n i : Nat) (xs : List V), x = .ref a ∧ ShelfAt K M a dx kp th num n i xs ∧ R (.int xs.length) G M
def S_Shelf_need_room (K : PySem.W.Frag) : KSp := sp2 fun x y G M R Z => ∃ (a dx kp th : Addr) (num n i : Nat) (xs : List V) (T : PT), x = .ref a ∧ ShelfAt K M a dx kp th num n i xs ∧ TyK K G M y T ∧ (T == .int) = isIntV y ∧ (withinV y 0 ((xs.length : Int) - 1) = true → R .non G M) ∧ (withinV y 0 ((xs.length : Int) - 1) = false → Z (.ref (cl K "NoRoom")) none G M)
def S_Shelf_look (K : PySem.W.Frag) : KSp := sp2 fun x y G M R Z => ∃ (a dx kp th : Addr) (num n i : Nat) (xs : List V), x = .ref a ∧ ShelfAt K M a dx kp th num n i xs ∧
  ((∃ T : PT, TyK K G M y T ∧ (T == .int) = isIntV y ∧ withinV y 0 ((xs.length : Int) - 1) = false ∧ Z (.ref (cl K "NoRoom")) none G M) ∨
   ∃ (dk lg : Addr) (j l : Nat) (o : HO) (ts : List Tch) (r : Nat) (v : V), y = .int r ∧ KeepAt K G M kp dk lg j l o ts ∧ ts.length ≤ 1000000 ∧ xs[r]? = some v ∧ l ≠ i ∧ ∀ G' o', Ex G G' → LogC K G' (ts ++ [⟨false, num, r⟩]) o' → R v G' (M.set l (lg, o')))
def S_Shelf_lay (K : PySem.W.Frag) : KSp := sp3 fun x y z G M R Z => ∃ (a dx kp th : Addr) (num n i : Nat) (xs : List V), x = .ref a ∧ ShelfAt K M a dx kp th num n i xs ∧
  ((∃ T : PT, TyK K G M y T ∧ (T == .int) = isIntV y ∧ withinV y 0 ((xs.length : Int) - 1) = false ∧ Z (.ref (cl K "NoRoom")) none G M) ∨
   ∃ (dk lg : Addr) (j l : Nat) (o : HO) (ts : List Tch) (r : Nat), y = .int r ∧ KeepAt K G M kp dk lg j l o ts ∧ ts.length ≤ 1000000 ∧ r < xs.length ∧ l ≠ i ∧ l ≠ n ∧ ∀ G' o', Ex G G' → LogC K G' (ts ++ [⟨true, num, r⟩]) o' → R .non G' ((M.set l (lg, o')).set i (th, .lst (xs.set r z))))

/-! ### trees of rooms -/
/-- what is in hand: words and leaves by cells -/
abbrev HF := Nat → Option (Nat × Nat)
def HF.put (f : HF) (c : Nat) (p : Nat × Nat) : HF := fun x => if x = c then some p else f x
/-- what lies in the rooms -/
abbrev Th := List (Option (Nat × Nat × Nat))
def entD : Option (Nat × Nat × Nat) → PyData
  | none => .none
  | some e => .tuple [.int e.1, .int e.2.1, .int e.2.2]
def nodeN (high d leaf : Nat) : Nat := 2 ^ d - 1 + leaf / 2 ^ (high - d)
def fitB (high d node : Nat) (f : HF) (c : Nat) : Bool := match f c with
  | some p => decide (nodeN high d p.2 = node)
  | none => false
def fitsN (m high d node : Nat) (f : HF) : List Nat := ((List.range m).filter (fitB high d node f)).take 2
def lookR (th : Th) (f : HF) (r : Nat) : HF := match th.getD r none with
  | some e => f.put e.1 e.2
  | none => f
def lookW (th : Th) (high leaf : Nat) (f : HF) (k : Nat) : HF := (List.range k).foldl (fun f d => lookR th (lookR th f (2 * nodeN high d leaf)) (2 * nodeN high d leaf + 1)) f
def lookT (num high leaf k : Nat) : List Tch := (List.range k).flatMap fun d => [⟨false, num, 2 * nodeN high d leaf⟩, ⟨false, num, 2 * nodeN high d leaf + 1⟩]
def takeC (f : HF) (cs : List Nat) (s : Nat) : Option (Nat × Nat × Nat) := match cs[s]? with
  | some c => (f c).map fun p => (c, p)
  | none => none
def layD (m high leaf : Nat) (s : Th × HF) (d : Nat) : Th × HF :=
  ((s.1.set (2 * nodeN high d leaf) (takeC s.2 (fitsN m high d (nodeN high d leaf) s.2) 0)).set (2 * nodeN high d leaf + 1) (takeC s.2 (fitsN m high d (nodeN high d leaf) s.2) 1), fun x => if x ∈ fitsN m high d (nodeN high d leaf) s.2 then none else s.2 x)
def layW (m high leaf : Nat) (s : Th × HF) (k : Nat) : Th × HF := (List.range k).foldl (fun s i => layD m high leaf s (high - i)) s
def layT (num high leaf k : Nat) : List Tch := (List.range k).flatMap fun i => [⟨true, num, 2 * nodeN high (high - i) leaf⟩, ⟨true, num, 2 * nodeN high (high - i) leaf + 1⟩]
def wayT (num high leaf : Nat) : List Tch := lookT num high leaf (high + 1) ++ layT num high leaf (high + 1)
structure HandF (K : PySem.W.Frag) (G : Hp) (m : Nat) (hv : List (Key × V)) (f : HF) : Prop where
  nd : (hv.map (·.1)).Nodup
  key : ∀ p, p ∈ hv → ∃ c : Nat, c < m ∧ p.1 = Sum.inl (c : Int)
  non : ∀ c : Nat, f c = none → valV hv (Sum.inl (c : Int)) = none
  val : ∀ (c : Nat) (p : Nat × Nat), f c = some p → ∃ v, valV hv (Sum.inl (c : Int)) = some v ∧ Dp K G v (.tuple [.int p.1, .int p.2])
structure BodyA where
  b : Addr
  db : Addr
  sh : Addr
  dh : Addr
  th : Addr
  fs : Addr
  hd : Addr
def bodyB (K : PySem.W.Frag) (A : BodyA) (kp : Addr) (num high : Nat) (xs : List V) (hv : List (Key × V)) : Mem :=
  [(A.b, Ob K 8 A.db [.ref A.sh, .int high, .ref A.fs, .ref A.hd]), (A.sh, Ob K 2 A.dh [.ref kp, .int num, .ref A.th]), (A.th, .lst xs), (A.hd, .dK hv)]
def keepB (K : PySem.W.Frag) (kp dk lg : Addr) (o : HO) : Mem := [(kp, Ob K 1 dk [.ref lg]), (lg, o)]
structure BodyI (K : PySem.W.Frag) (G : Hp) (A : BodyA) (m high : Nat) (fs : List Nat) (th : Th) (f : HF) (xs : List V) (hv : List (Key × V)) : Prop where
  sf : SqL K G A.fs (natsV fs)
  fl : fs.length = m
  sx : DpAll K G xs (th.map entD)
  sv : HandF K G m hv f
  tl : th.length = 2 * (2 * 2 ^ high - 1)
  tm : ∀ (r : Nat) (e : Nat × Nat × Nat), th[r]? = some (some e) → e.1 < m
  hi : high ≤ 6
  m1 : m ≤ 32
def S_node_at (K : PySem.W.Frag) : KSp := sp3 fun x y z G M R Z => ∃ h d l : Nat, x = .int h ∧ y = .int d ∧ z = .int l ∧ d ≤ h ∧ h ≤ 6 ∧ R (.int (nodeN h d l : Nat)) G M
def S_room_of (K : PySem.W.Frag) : KSp := sp2 fun x y G M R Z => ∃ n s : Nat, x = .int n ∧ y = .int s ∧ R (.int (2 * n + s : Nat)) G M
def S_Body_init (K : PySem.W.Frag) : KSp := sp5 fun x y z u w G M R Z => ∃ (a dx kp b : Addr) (num high m : Nat) (fs : List Nat) (F : Mem), x = .ref a ∧ y = .ref kp ∧ z = .int num ∧ u = .int high ∧ w = .ref b ∧ M = (a, Ob K 8 dx []) :: F ∧ LstN K G M 0 b (natsV fs) ∧ fs.length = m ∧ m ≤ 32 ∧ high ≤ 6 ∧
  ∀ (A : BodyA) (G' : Hp) (xs : List V), A.b = a → Ex G G' → BodyI K G' A m high fs (List.replicate (2 * (2 * 2 ^ high - 1)) none) (fun _ => none) xs [] → R .non G' (bodyB K A kp num high xs [] ++ F)
def S_Body_look_way (K : PySem.W.Frag) : KSp := sp2 fun x y G M R Z => ∃ (A : BodyA) (kp dk lg : Addr) (o : HO) (ts : List Tch) (num m high leaf : Nat) (fs : List Nat) (th : Th) (f : HF) (xs : List V) (hv : List (Key × V)) (F : Mem), x = .ref A.b ∧ y = .int leaf ∧ M.Perm (bodyB K A kp num high xs hv ++ (keepB K kp dk lg o ++ F)) ∧ BodyI K G A m high fs th f xs hv ∧ LogC K G ts o ∧ leaf < 2 ^ high ∧ ts.length ≤ 900000 ∧
  ∀ G' o' hv', Ex G G' → LogC K G' (ts ++ lookT num high leaf (high + 1)) o' → BodyI K G' A m high fs th (lookW th high leaf f (high + 1)) xs hv' → R .non G' (bodyB K A kp num high xs hv' ++ (keepB K kp dk lg o' ++ F))
def S_Body_word_of (K : PySem.W.Frag) : KSp := sp2 fun x y G M R Z => ∃ (A : BodyA) (kp : Addr) (num m high c : Nat) (fs : List Nat) (th : Th) (f : HF) (xs : List V) (hv : List (Key × V)) (F : Mem), x = .ref A.b ∧ y = .int c ∧ M.Perm (bodyB K A kp num high xs hv ++ F) ∧ BodyI K G A m high fs th f xs hv ∧ c < m ∧ R (.int (match f c with | some p => p.1 | none => fs.getD c 0 : Nat)) G M
def S_Body_keep (K : PySem.W.Frag) : KSp := sp4 fun x y z u G M R Z => ∃ (A : BodyA) (kp : Addr) (num m high c w l : Nat) (fs : List Nat) (th : Th) (f : HF) (xs : List V) (hv : List (Key × V)) (F : Mem), x = .ref A.b ∧ y = .int c ∧ z = .int w ∧ u = .int l ∧ M.Perm (bodyB K A kp num high xs hv ++ F) ∧ BodyI K G A m high fs th f xs hv ∧ c < m ∧
  ∀ G' hv', Ex G G' → BodyI K G' A m high fs th (f.put c (w, l)) xs hv' → R .non G' (bodyB K A kp num high xs hv' ++ F)
def S_Body_fitting (K : PySem.W.Frag) : KSp := sp3 fun x y z G M R Z => ∃ (A : BodyA) (kp : Addr) (num m high d node : Nat) (fs : List Nat) (th : Th) (f : HF) (xs : List V) (hv : List (Key × V)) (F : Mem), x = .ref A.b ∧ y = .int d ∧ z = .int node ∧ M = bodyB K A kp num high xs hv ++ F ∧ BodyI K G A m high fs th f xs hv ∧ d ≤ high ∧
  ∀ p, Fr G M p → R (.ref p) G ((p, .lst (natsV (fitsN m high d node f))) :: M)
def S_Body_lay_way (K : PySem.W.Frag) : KSp := sp2 fun x y G M R Z => ∃ (A : BodyA) (kp dk lg : Addr) (o : HO) (ts : List Tch) (num m high leaf : Nat) (fs : List Nat) (th : Th) (f : HF) (xs : List V) (hv : List (Key × V)) (F : Mem), x = .ref A.b ∧ y = .int leaf ∧ M.Perm (bodyB K A kp num high xs hv ++ (keepB K kp dk lg o ++ F)) ∧ BodyI K G A m high fs th f xs hv ∧ LogC K G ts o ∧ leaf < 2 ^ high ∧ ts.length ≤ 900000 ∧
  ∀ G' o' xs' hv', Ex G G' → LogC K G' (ts ++ layT num high leaf (high + 1)) o' → BodyI K G' A m high fs (layW m high leaf (th, f) (high + 1)).1 (layW m high leaf (th, f) (high + 1)).2 xs' hv' → R .non G' (bodyB K A kp num high xs' hv' ++ (keepB K kp dk lg o' ++ F))
def S_Body_cells_in_hand (K : PySem.W.Frag) : KSp := sp1 fun x G M R Z => ∃ (A : BodyA) (kp : Addr) (num m high : Nat) (fs : List Nat) (th : Th) (f : HF) (xs : List V) (hv : List (Key × V)) (F : Mem), x = .ref A.b ∧ M.Perm (bodyB K A kp num high xs hv ++ F) ∧ BodyI K G A m high fs th f xs hv ∧
  ∀ p, Fr G M p → R (.ref p) G ((p, .lst (natsV ((List.range m).filter fun c => (f c).isSome))) :: M)
/-- the first room in which a cell lies -/
def findR (th : Th) (c : Nat) : Option Nat := (List.range th.length).find? fun r => match th.getD r none with
  | some e => decide (e.1 = c)
  | none => false
def nodV (th : Th) (c : Nat) : V := match findR th c with
  | some r => .int (r / 2 : Nat)
  | none => .non
def S_Body_node_of (K : PySem.W.Frag) : KSp := sp2 fun x y G M R Z => ∃ (A : BodyA) (kp : Addr) (num m high c : Nat) (fs : List Nat) (th : Th) (f : HF) (xs : List V) (hv : List (Key × V)) (F : Mem), x = .ref A.b ∧ y = .int c ∧ M.Perm (bodyB K A kp num high xs hv ++ F) ∧ BodyI K G A m high fs th f xs hv ∧ R (nodV th c) G M

/-! ### all five ways, seen from without -/
inductive Wy | scan | spare | stairs | tree | grove
  deriving DecidableEq
def Wy.str : Wy → Str
  | .scan => "scan" | .spare => "spare" | .stairs => "stairs" | .tree => "tree" | .grove => "grove"
def Wy.num : Wy → Nat
  | .scan => 3 | .spare => 4 | .stairs => 5 | .tree => 6 | .grove => 7
def rowsOf (ds : List Dr) : List (List Nat) := ds.map fun d => match d with
  | .row l => l
  | .leaf _ => []
def leafsOf (ds : List Dr) : List Nat := ds.map fun d => match d with
  | .row _ => 0
  | .leaf n => n
/-! ### climbs: what they are -/
structure ClM where
  fu : Nat → Option Nat
  dr : Nat → Option Nat
  ho : Nat → Option (Nat × Nat)
  he : Nat → Option Unit
def takenN (m p : Nat) (s : ClM) : List Nat := ((List.range (stairN m p)).filter fun st => (s.fu st).isSome) ++ if stairN m p = lastN m then [stairN m p] else []
def inT (m p : Nat) (s : ClM) (c : Nat) : Bool := match s.ho c with
  | some q => decide (q.1 ∈ takenN m p s)
  | none => false
def pouredN (m p : Nat) (s : ClM) : List Nat := (List.range m).filter fun c => (s.he c).isSome || inT m p s c
def slotC (m c n st k : Nat) (s : ClM) : Nat := match s.ho c with
  | some q => if q.1 = st then q.2 else slotA m st + n - k
  | none => slotA m st + n - k
def slotsN (m c n : Nat) (s : ClM) : List (Nat × Nat) := (List.range (lastN m + 1)).filterMap fun st => (s.fu st).map fun k => (st, slotC m c n st k s)
structure ClimbA where
  c : Addr
  dc : Addr
  fu : Addr
  dr : Addr
  ho : Addr
  he : Addr
def climbB (K : PySem.W.Frag) (A : ClimbA) (m : Nat) (fv dv hov hev : List (Key × V)) : Mem :=
  [(A.c, Ob K 9 A.dc [.int m, .int (lastN m), .ref A.fu, .ref A.dr, .ref A.ho, .ref A.he]), (A.fu, .dK fv), (A.dr, .dK dv), (A.ho, .dK hov), (A.he, .dK hev)]
/-! ### stairs: what they are -/
def roomsN (m st : Nat) : Nat := slotA m st + 2 * 2 ^ st
def optV : Option Nat → V
  | some w => .int w
  | none => .non
structure StairsA where
  s : Addr
  ds : Addr
  dr : Addr
  kp : Addr
  dk : Addr
  lg : Addr
  hd : Addr
  shs : Addr
  ods : Addr
  cl : ClimbA
  sh : Nat → Addr
  dsh : Nat → Addr
  th : Nat → Addr
abbrev Ths := Nat → List (Option Nat)
def shsB (K : PySem.W.Frag) (A : StairsA) (th : Ths) : Nat → Nat → Mem
  | _, 0 => []
  | i, k + 1 => (A.sh i, Ob K 2 (A.dsh i) [.ref A.kp, .int i, .ref (A.th i)]) :: (A.th i, .lst ((th i).map optV)) :: shsB K A th (i + 1) k
structure StV where
  fv : List (Key × V)
  dv : List (Key × V)
  hov : List (Key × V)
  hev : List (Key × V)
  hnv : List (Key × V)
  odv : List (Key × V)
  o : HO
  th : Ths
def ordN (rows : List (List Nat)) (s : ClM) (st : Nat) : List Nat := orderOf (rows.getD ((s.dr st).getD 0) [])
/-- the draws' sizes -/
structure RowsK (m lim : Nat) (rows : List (List Nat)) : Prop where
  len : rows.length = (lim + 1) / 2
  ok : ∀ (i : Nat) (row : List Nat), rows[i]? = some row → RowOk row ∧ row.length = roomsN m (if i = 0 then lastN m else stairN m i)
def fullN (L q st : Nat) : Option Nat := if st < L then (if (q / 2 ^ st) % 2 = 1 then some (2 * (q / 2 ^ st * 2 ^ st)) else none) else if st = L then some (2 * (q / 2 ^ L * 2 ^ L)) else none
/-- a climb behind q pours, with at most h cells in hand -/
structure ClMI (m q h : Nat) (s : ClM) : Prop where
  fu : ∀ st, s.fu st = fullN (lastN m) q st
  dr : ∀ st k, s.fu st = some k → s.dr st = some (k / 2)
  dk : ∀ st p, s.dr st = some p → p ≤ q ∧ st = (if p = 0 then lastN m else stairN m p)
  ho : ∀ c st sl, s.ho c = some (st, sl) → c < m ∧ (s.fu st).isSome ∧ sl < slotA m st ∧ s.he c = none
  he : ∀ c, c < m → s.ho c = none → (s.he c).isSome
  hl : ∀ c, (s.he c).isSome → c < m
  inj : ∀ c c' x, s.ho c = some x → s.ho c' = some x → c = c'
  hn : ((List.range m).filter fun c => (s.he c).isSome).length ≤ h
def handF (s : ClM) (W : Nat → Nat) : Nat → Option Nat := fun c => if (s.he c).isSome then some (W c) else none
def gatherF (s : ClM) (st : Nat) (hf : Nat → Option Nat) (W : Nat → Nat) : Nat → Option Nat := fun c => match s.ho c with
  | some q => if q.1 = st then some (W c) else hf c
  | none => hf c
def allT (b : Bool) (m st : Nat) : List Tch := (List.range (roomsN m st)).map fun r => ⟨b, st, r⟩
def pourT (m p : Nat) (s : ClM) : List Tch := ((takenN m p s).flatMap fun st => allT false m st) ++ allT true m (stairN m p)
def askT (m n c : Nat) (rows : List (List Nat)) (s : ClM) : List Tch := (slotsN m c n s).flatMap fun q => [⟨false, q.1, (ordN rows s q.1).getD q.2 0⟩, ⟨true, q.1, (ordN rows s q.1).getD q.2 0⟩]
/-! ### nets: what they are -/
def joinL : Nat → Int → Int → List (Int × Int)
  | 0, f, s => [(f, f + s)]
  | j + 1, f, s => joinL j f (2 * s) ++ joinL j (f + s) (2 * s) ++ (List.range (2 ^ (j + 1) - 1)).map fun (i : Nat) => (f + s + (i : Int) * (2 * s), f + s + (i : Int) * (2 * s) + s)
def sortL : Nat → Int → List (Int × Int)
  | 0, _ => []
  | j + 1, f => sortL j f ++ sortL j (f + 2 ^ j) ++ joinL j f 1
def lg (n : Int) : Nat := if n ≤ 1 then 0 else if n ≤ 2 then 1 else if n ≤ 4 then 2 else if n ≤ 8 then 3 else if n ≤ 16 then 4 else if n ≤ 32 then 5 else 6
def netL (n : Int) : List (Int × Int) := (sortL (lg n) 0).filter fun p => decide (p.2 < n)
/-- a new list of pairs is told -/
def NetR (K : PySem.W.Frag) (ps : List (Int × Int)) (G : Hp) (M : Mem) (R : KR) : Prop := ∀ (t : Addr) (vs : List V) (G' : Hp), Ex G G' → Fr G' M t → DpAll K G' vs (ps.map prD) → R (.ref t) G' ((t, .lst vs) :: M)
def joinSp (d : Nat) (K : PySem.W.Frag) : V → V → V → Hp → Mem → KR → KX → Prop := fun x y z G M R Z => ∃ (f w s : Int) (j : Nat), x = .int f ∧ y = .int w ∧ z = .int s ∧ j < d ∧ w = 2 * s * 2 ^ j ∧ 0 < s ∧ w ≤ 64 ∧ 0 ≤ f ∧ f ≤ 5000 - 100 * (j : Int) ∧ j < 8 ∧ NetR K (joinL j f s) G M R
def sortSp (d : Nat) (K : PySem.W.Frag) : V → V → Hp → Mem → KR → KX → Prop := fun x y G M R Z => ∃ (f w : Int) (j : Nat), x = .int f ∧ y = .int w ∧ j < d ∧ w = 2 ^ j ∧ j ≤ 6 ∧ 0 ≤ f ∧ f + w ≤ 1000 ∧ NetR K (sortL j f) G M R
def netSp1 (K : PySem.W.Frag) : V → Hp → Mem → KR → KX → Prop := fun x G M R Z => ∃ n : Int, x = .int n ∧ 1 ≤ n ∧ n ≤ 64 ∧ NetR K (netL n) G M R
def S_joining (d : Nat) (K : PySem.W.Frag) : KSp := sp3 (joinSp d K)
def S_sorting (d : Nat) (K : PySem.W.Frag) : KSp := sp2 (sortSp d K)
def S_net_of (K : PySem.W.Frag) : KSp := sp1 (netSp1 K)

/-! ### a shuffled shelf with spare rooms: what it is -/
structure Tri where
  mark : Nat
  item : Nat
  word : Nat
def Tri0 : Tri := ⟨0, 0, 0⟩
def triD (t : Tri) : PyData := .tuple [.int t.mark, .int t.item, .int t.word]
def triV (t : Tri) : List V := [.int t.mark, .int t.item, .int t.word]
/-- each item lies, marked, in its room -/
structure Laid (ord W : List Nat) (tr : List Tri) : Prop where
  len : tr.length = ord.length
  at_ : ∀ i, i < ord.length → tr[ord.getD i 0]? = some ⟨ord.getD i 0, i, W.getD i 0⟩
/-- what is in hand -/
def hGet (h : List (Nat × Nat)) (c : Nat) : Option Nat := (h.find? fun p => decide (p.1 = c)).map (·.2)
def hPut (h : List (Nat × Nat)) (c w : Nat) : List (Nat × Nat) := if (hGet h c).isSome then h.map (fun p => if p.1 = c then (p.1, w) else p) else h ++ [(c, w)]
def handK (h : List (Nat × Nat)) : List (Key × V) := h.map fun p => (Sum.inl (p.1 : Int), V.int (p.2 : Int))
def markT (ord : List Nat) (h : List (Nat × Nat)) (t : Tri) : Tri := ⟨ord.getD t.item 0, t.item, (hGet h t.item).getD t.word⟩
def stepT (tr : List Tri) (p : Int × Int) : List Tri := if (tr.getD p.2.toNat Tri0).mark < (tr.getD p.1.toNat Tri0).mark then (tr.set p.1.toNat (tr.getD p.2.toNat Tri0)).set p.2.toNat (tr.getD p.1.toNat Tri0) else tr
def runT (ps : List (Int × Int)) (tr : List Tri) : List Tri := ps.foldl stepT tr
def pairT (p : Int × Int) : List Tch := [⟨false, 0, p.1.toNat⟩, ⟨false, 0, p.2.toNat⟩, ⟨true, 0, p.1.toNat⟩, ⟨true, 0, p.2.toNat⟩]
/-- the words of all items behind a mending -/
def wordsM (n : Nat) (W : List Nat) (h : List (Nat × Nat)) : List Nat := (List.range n).map fun i => (hGet h i).getD (W.getD i 0)
def HandOk (m : Nat) (h : List (Nat × Nat)) : Prop := (h.map (·.1)).Nodup ∧ ∀ p, p ∈ h → p.1 < m
/-- a spare store's orders, words and hand -/
structure SpM where
  ord : List Nat
  W : List Nat
  hnd : List (Nat × Nat)
def spPre (m made : Nat) (rows : List (List Nat)) (s : SpM) : SpM := if made % sideN m = 0 ∧ 0 < made then ⟨orderOf (rows.getD (made / sideN m) []), wordsM (m + sideN m) s.W s.hnd, []⟩ else s
def spItem (m made c : Nat) (s : SpM) : Nat := if (hGet s.hnd c).isSome then m + made % sideN m else c
def spTold (m made c : Nat) (s : SpM) : Nat := (hGet s.hnd c).getD (s.W.getD (spItem m made c s) 0)
def spAsk (m made : Nat) (rows : List (List Nat)) (d : Deed) (s : SpM) : SpM := { spPre m made rows s with hnd := hPut (spPre m made rows s).hnd d.cell (d.put (spTold m made d.cell (spPre m made rows s))) }
/-! ### signs: what they are -/
inductive Sg
  | room (lay : Bool) (sh r : Nat)
  | item (lay : Bool) (sh dr it : Nat)
  | way (lay : Bool) (sh dr dep sd : Nat)
  deriving DecidableEq
def deedS (b : Bool) : Str := if b then "lay" else "look"
def Sg.vs : Sg → List V
  | .room b s r => [.str "room", .str (deedS b), .int s, .int r]
  | .item b s d i => [.str "item", .str (deedS b), .int s, .int d, .int i]
  | .way b s d p e => [.str "way", .str (deedS b), .int s, .int d, .int p, .int e]
def sgD : Sg → PyData
  | .room b s r => .tuple [.str "room", .str (deedS b), .int s, .int r]
  | .item b s d i => .tuple [.str "item", .str (deedS b), .int s, .int d, .int i]
  | .way b s d p e => .tuple [.str "way", .str (deedS b), .int s, .int d, .int p, .int e]
def AsksAt (K : PySem.W.Frag) (G : Hp) (M : Mem) (a : Addr) (ds : List Deed) : Prop := ∃ us, LstAt K G M a us ∧ A2 (fun v d => DeedAt K G v d) us ds
def DsOk (m : Nat) (ds : List Deed) : Prop := (∀ d, d ∈ ds → DeedOk m d) ∧ ds.length ≤ 60
def SgR (K : PySem.W.Frag) (G : Hp) (M : Mem) (sg : List Sg) (R : KR) : Prop := ∀ (t : Addr) (us : List V) (G' : Hp), Ex G G' → DpAll K G' us (sg.map sgD) → R (.ref t) G' ((t, .lst us) :: M)
def scanRow (m : Nat) : List Sg := (List.range m).flatMap fun r => [.room false 0 r, .room true 0 r]
def scanS (m : Nat) (ds : List Deed) : List Sg := ds.flatMap fun _ => scanRow m
def wayS (b : Bool) (sh dr : Nat) (l : List Nat) : List Sg := l.flatMap fun d => [.way b sh dr d 0, .way b sh dr d 1]
def waySg (sh dr high : Nat) : List Sg := wayS false sh dr (List.range (high + 1)) ++ wayS true sh dr (List.range (high + 1)).reverse
/-- the number of a tree's first cell's draw -/
def startT (ts : List Nat) (t : Nat) : Nat := (ts.take t).sum
/-- the draw by which a cell of a tree has its leaf, behind n asks -/
def drawOf (ts : List Nat) (cells : List Nat) (t : Nat) : Nat → Nat → Nat
  | 0, c => startT ts t + c
  | n + 1, c => if cells.getD n 0 / 2 ^ (2 * t) = c then ts.sum + n * ts.length + t else drawOf ts cells t n c
def askSg (ts : List Nat) (cells : List Nat) (n : Nat) : List Sg := (List.range ts.length).reverse.flatMap fun t => waySg t (drawOf ts cells t n (cells.getD n 0 / 2 ^ (2 * t))) (highN (ts.getD t 0))
def groveS (ts : List Nat) (cells : List Nat) : List Sg := (List.range cells.length).flatMap (askSg ts cells)
def cellsD (ds : List Deed) : List Nat := ds.map Deed.cell
/-- a grove's trees hold an ask's cells -/
structure TreesOk (ts : List Nat) (m : Nat) : Prop where
  len : ts.length ≤ 3
  ok : ∀ t, t ∈ ts → 1 ≤ t ∧ t ≤ 32
  le : ∀ t, t < ts.length → ∀ c, c < m → c / 2 ^ (2 * t) < ts.getD t 0
def S_way_there (K : PySem.W.Frag) : KSp := sp3 fun x y z G M R Z => ∃ sh dr high : Nat, x = .int sh ∧ y = .int dr ∧ z = .int high ∧ high ≤ 6 ∧ SgR K G M (waySg sh dr high) R
def S_starts_of (K : PySem.W.Frag) : KSp := sp1 fun x G M R Z => ∃ (a : Addr) (ts : List Nat), x = .ref a ∧ LstAt K G M a (natsV ts) ∧ ts.length ≤ 3 ∧ ∀ (l T : Addr) (G' : Hp), Fr G M l → Ex G G' → SqT K G' T [.ref l, .int ts.sum] → R (.ref T) G' ((l, .lst (natsV ((List.range ts.length).map (startT ts)))) :: M)
def S_scan_signs (K : PySem.W.Frag) : KSp := sp2 fun x y G M R Z => ∃ (m : Nat) (a : Addr) (ds : List Deed), natOk x m 1 32 ∧ y = .ref a ∧ AsksAt K G M a ds ∧ DsOk m ds ∧ SgR K G M (scanS m ds) R
def S_grove_signs (K : PySem.W.Frag) : KSp := sp2 fun x y G M R Z => ∃ (m : Nat) (a b : Addr) (ts : List Nat) (ds : List Deed), x = .ref b ∧ y = .ref a ∧ LstAt K G M b (natsV ts) ∧ TreesOk ts m ∧ AsksAt K G M a ds ∧ DsOk m ds ∧ SgR K G M (groveS ts (cellsD ds)) R
/-- a thing that may be a list of asks -/
def AsksV (K : PySem.W.Frag) (G : Hp) (M : Mem) (m : Int) (y : V) (b : Bool) : Prop := (∃ T : PT, TyK K G M y T ∧ T ≠ .list ∧ b = false) ∨
  ∃ (a : Addr) (xs : List V), y = .ref a ∧ LstAt K G M a xs ∧ xs.length ≤ 1000 ∧ ((60 < xs.length ∧ b = false) ∨ (xs.length ≤ 60 ∧ ∃ bs : List Bool, A2 (fun x b => AskV K G M m x b) xs bs ∧ b = bs.all id))
def S_look_at_asks (K : PySem.W.Frag) : KSp := sp2 fun x y G M R Z => ∃ (m : Nat) (b : Bool), x = .int m ∧ AsksV K G M m y b ∧ (b = true → R .non G M) ∧ (b = false → Z (.ref (cl K "NoAsk")) none G M)

/-! ### signs of shuffled shelves and stairs, of all ways; touches of signs -/
def pairSg (p : Int × Int) : List Sg := [.room false 0 p.1.toNat, .room false 0 p.2.toNat, .room true 0 p.1.toNat, .room true 0 p.2.toNat]
def mendSg (n : Nat) : List Sg := scanRow n ++ (netL (n : Int)).flatMap pairSg
/-- a cell was asked for in a round, ahead of ask n -/
def inRd (m : Nat) (cells : List Nat) (n r c : Nat) : Bool := (List.range n).any fun j => decide (j / sideN m = r) && decide (cells.getD j 0 = c)
def itemN (m : Nat) (cells : List Nat) (n : Nat) : Nat := if inRd m cells n (n / sideN m) (cells.getD n 0) = true then m + n % sideN m else cells.getD n 0
def mendAt (m n : Nat) : List Sg := if n % sideN m = 0 ∧ 0 < n then mendSg (m + sideN m) else []
def spareAskSg (m : Nat) (cells : List Nat) (n : Nat) : List Sg := mendAt m n ++ [.item false 0 (n / sideN m) (itemN m cells n), .item true 0 (n / sideN m) (itemN m cells n)]
def spareS (m : Nat) (ds : List Deed) : List Sg := (List.range ds.length).flatMap (spareAskSg m (cellsD ds))
def roomsSg (b : Bool) (m st : Nat) : List Sg := (List.range (roomsN m st)).map fun r => .room b st r
def pourSg (m p : Nat) (s : ClM) : List Sg := (takenN m p s).flatMap (roomsSg false m) ++ roomsSg true m (stairN m p)
def askSg5 (m n c : Nat) (s : ClM) : List Sg := (slotsN m c n s).flatMap fun q => [.item false q.1 ((s.dr q.1).getD 0) q.2, .item true q.1 ((s.dr q.1).getD 0) q.2]
def pourAt (m n : Nat) (s : ClM) : List Sg := if 0 < n ∧ n % 2 = 0 then pourSg m (n / 2) s else []
def S_mending (K : PySem.W.Frag) : KSp := sp1 fun x G M R Z => ∃ n : Nat, natOk x n 1 64 ∧ SgR K G M (mendSg n) R
def S_spare_signs (K : PySem.W.Frag) : KSp := sp2 fun x y G M R Z => ∃ (m : Nat) (a : Addr) (ds : List Deed), natOk x m 1 32 ∧ y = .ref a ∧ AsksAt K G M a ds ∧ DsOk m ds ∧ SgR K G M (spareS m ds) R
def S_all_rooms (K : PySem.W.Frag) : KSp := sp3 fun x y z G M R Z => ∃ (m st : Nat) (b : Bool), natOk x m 1 32 ∧ y = .str (deedS b) ∧ z = .int st ∧ st ≤ 4 ∧ SgR K G M (roomsSg b m st) R
/-! touches of signs -/
def rowD : Dr → List Nat
  | .row l => l
  | .leaf _ => []
def leafD : Dr → Nat
  | .leaf n => n
  | .row _ => 0
def tchOf (ks : List Kn) (drs : List Dr) : Sg → Tch
  | .room b s r => ⟨b, s, r⟩
  | .item b s d i => ⟨b, s, (orderOf (rowD (drs.getD d (.leaf 0)))).getD i 0⟩
  | .way b s d p e => ⟨b, s, 2 * nodeN (ks.getD d ⟨true, 0⟩).n p (leafD (drs.getD d (.leaf 0))) + e⟩
def SgOk (ks : List Kn) : Sg → Prop
  | .room _ _ _ => True
  | .item _ _ d i => ∃ n, ks[d]? = some ⟨false, n⟩ ∧ i < n
  | .way _ _ d p e => ∃ h, ks[d]? = some ⟨true, h⟩ ∧ p ≤ h ∧ e < 2
/-- orders of shuffles, and leaves -/
def ToldV (K : PySem.W.Frag) (G : Hp) (v : V) (d : Dr) : Prop := match d with
  | .leaf n => v = .int n
  | .row l => ∃ b, v = .ref b ∧ SqL K G b (natsV (orderOf l))
def tchV (t : Tch) : List V := [.str t.txt, .int t.shelf, .int t.room]
def S_touch_of (K : PySem.W.Frag) : KSp := sp3 fun x y z G M R Z => ∃ (a t b : Addr) (uk ut : List V) (ks : List Kn) (drs : List Dr) (s : Sg), x = .ref a ∧ y = .ref t ∧ z = .ref b ∧ LstAt K G M a uk ∧ DpAll K G uk (ks.map knD) ∧ (∀ k, k ∈ ks → KnOk k) ∧ SqT K G t s.vs ∧ LstAt K G M b ut ∧ A2 (ToldV K G) ut drs ∧ A2 DrOk ks drs ∧ SgOk ks s ∧
  ∀ T G', Ex G G' → SqT K G' T (tchV (tchOf ks drs s)) → R (.ref T) G' M
def S_told_by (K : PySem.W.Frag) : KSp := sp2 fun x y G M R Z => ∃ (a b : Addr) (uk : List V) (ks : List Kn) (drs : List Dr), x = .ref a ∧ y = .ref b ∧ LstAt K G M a uk ∧ DpAll K G uk (ks.map knD) ∧ (∀ k, k ∈ ks → KnOk k) ∧ DrAt K G M b drs ∧ A2 DrOk ks drs ∧ ks.length ≤ 1000 ∧
  ∀ (t : Addr) (ut : List V) (G' : Hp), Ex G G' → A2 (ToldV K G') ut drs → R (.ref t) G' ((t, .lst ut) :: M)
def S_seen_by (K : PySem.W.Frag) : KSp := sp3 fun x y z G M R Z => ∃ (a s b : Addr) (uk us : List V) (ks : List Kn) (sg : List Sg) (drs : List Dr), x = .ref a ∧ y = .ref s ∧ z = .ref b ∧ LstAt K G M a uk ∧ DpAll K G uk (ks.map knD) ∧ (∀ k, k ∈ ks → KnOk k) ∧ LstAt K G M s us ∧ DpAll K G us (sg.map sgD) ∧ DrAt K G M b drs ∧ A2 DrOk ks drs ∧ ks.length ≤ 1000 ∧ sg.length ≤ 1000000 ∧ (∀ s, s ∈ sg → SgOk ks s) ∧
  ∀ (t : Addr) (ut : List V) (G' : Hp), Ex G G' → DpAll K G' ut ((sg.map (tchOf ks drs)).map tchD) → R (.ref t) G' ((t, .lst ut) :: M)

/-! ### of how many rows of draws touches come -/
def drI : Sg → Option Nat
  | .room _ _ _ => none
  | .item _ _ d _ => some d
  | .way _ _ d _ _ => some d
def leafFit (h leaf : Nat) (x : Sg × Nat) : Bool := match x.1 with
  | .way _ _ _ p e => decide (2 * nodeN h p leaf + e = x.2)
  | _ => false
def leavesLeft (h : Nat) (rows : List (Sg × Nat)) : Nat := ((List.range (2 ^ h)).filter fun leaf => rows.all (leafFit h leaf)).length
def itOf : Sg → Nat
  | .item _ _ _ i => i
  | _ => 0
def ordGo (n : Nat) : List (Nat × Nat) → List (Sg × Nat) → Nat
  | S, [] => if (S.map (·.2)).Nodup then fac (n - S.length) else 0
  | S, x :: t => match S.lookup (itOf x.1) with
    | some r => if r = x.2 ∧ x.2 < n then ordGo n S t else 0
    | none => if x.2 < n then ordGo n (S ++ [(itOf x.1, x.2)]) t else 0
def ordersLeft (n : Nat) (rows : List (Sg × Nat)) : Nat := ordGo n [] rows
def okP (x : Sg × Tch) : Bool := match x.1 with
  | .room b s r => decide (x.2.lay = b) && decide (x.2.shelf = s) && decide (x.2.room = r)
  | .item b s _ _ => decide (x.2.lay = b) && decide (x.2.shelf = s)
  | .way b s _ _ _ => decide (x.2.lay = b) && decide (x.2.shelf = s)
def rowsFor (j : Nat) (ps : List (Sg × Tch)) : List (Sg × Nat) := (ps.filter fun x => decide (drI x.1 = some j)).map fun x => (x.1, x.2.room)
def cntK (k : Kn) (rows : List (Sg × Nat)) : Nat := if k.leaf = true then leavesLeft k.n rows else ordersLeft k.n rows
def prodFrom (ps : List (Sg × Tch)) : Nat → List Kn → Nat
  | _, [] => 1
  | j, k :: ks => cntK k (rowsFor j ps) * prodFrom ps (j + 1) ks
def comesF (ks : List Kn) (sgs : List Sg) (ts : List Tch) : Nat := if sgs.length = ts.length ∧ (sgs.zip ts).all okP = true then prodFrom (sgs.zip ts) 0 ks else 0
def srD (x : Sg × Nat) : PyData := .tuple [sgD x.1, .int x.2]
def S_leaves_left (K : PySem.W.Frag) : KSp := sp2 fun x y G M R Z => ∃ (h : Nat) (b : Addr) (us : List V) (rows : List (Sg × Nat)), x = .int h ∧ h ≤ 6 ∧ y = .ref b ∧ SqL K G b us ∧ DpAll K G us (rows.map srD) ∧ rows.length ≤ 1000000 ∧ (∀ x, x ∈ rows → ∃ a s d p e, x.1 = Sg.way a s d p e ∧ p ≤ h) ∧ R (.int (leavesLeft h rows : Nat)) G M
def S_orders_left (K : PySem.W.Frag) : KSp := sp2 fun x y G M R Z => ∃ (n : Nat) (b : Addr) (us : List V) (rows : List (Sg × Nat)), x = .int n ∧ n ≤ 64 ∧ y = .ref b ∧ SqL K G b us ∧ DpAll K G us (rows.map srD) ∧ rows.length ≤ 1000000 ∧ (∀ x, x ∈ rows → ∃ a s d i, x.1 = Sg.item a s d i ∧ i < n) ∧ ∀ G', Ex G G' → R (.int (ordersLeft n rows : Nat)) G' M
def S_grouped (K : PySem.W.Frag) : KSp := sp3 fun x y z G M R Z => ∃ (a o t : Addr) (us ut : List V) (ks : List Kn) (sgs : List Sg) (ts : List Tch), x = .ref a ∧ KnAt K G M a ks ∧ y = .ref o ∧ LstAt K G M o us ∧ DpAll K G us (sgs.map sgD) ∧ z = .ref t ∧ LstAt K G M t ut ∧ DpAll K G ut (ts.map tchD) ∧ sgs.length = ts.length ∧ sgs.length ≤ 1000000 ∧ (∀ s, s ∈ sgs → SgOk ks s) ∧
  ((sgs.zip ts).all okP = false → ∀ G', Ex G G' → R .non G' M) ∧ ((sgs.zip ts).all okP = true → ∀ (p : Addr) (G' : Hp), Ex G G' → Dp K G' (.ref p) (.list ((List.range ks.length).map fun j => .list ((rowsFor j (sgs.zip ts)).map srD))) → R (.ref p) G' M)
def S_comes_of (K : PySem.W.Frag) : KSp := sp3 fun x y z G M R Z => ∃ (a o t : Addr) (us ut : List V) (ks : List Kn) (sgs : List Sg) (ts : List Tch), x = .ref a ∧ KnAt K G M a ks ∧ y = .ref o ∧ LstAt K G M o us ∧ DpAll K G us (sgs.map sgD) ∧ z = .ref t ∧ LstAt K G M t ut ∧ DpAll K G ut (ts.map tchD) ∧ sgs.length ≤ 1000000 ∧ ts.length ≤ 1000000 ∧ (∀ s, s ∈ sgs → SgOk ks s) ∧
  ∀ G', Ex G G' → R (.int (comesF ks sgs ts : Nat)) G' M

/-- all rows of draws, as the law goes through them -/
def allKl (k : Kn) : List Dr := (List.range (manyK k)).map (dOf k)
def lawAll (ks : List Kn) : List (List Dr) := ks.foldl (fun acc k => acc.flatMap fun d => (allKl k).map fun x => d ++ [x]) [[]]
def TsG (K : PySem.W.Frag) (G : Hp) (q : Addr) (T : List Tch) : Prop := ∃ ut, G q = some (.lst ut) ∧ DpAll K G ut (T.map tchD)
def SgsG (K : PySem.W.Frag) (G : Hp) (q : Addr) (T : List Sg) : Prop := ∃ ut, G q = some (.lst ut) ∧ DpAll K G ut (T.map sgD)
def KnsG (K : PySem.W.Frag) (G : Hp) (q : Addr) (ks : List Kn) : Prop := ∃ ut, G q = some (.lst ut) ∧ DpAll K G ut (ks.map knD) ∧ ∀ k, k ∈ ks → KnOk k ∧ k.n ≤ 12
def DrAtG (K : PySem.W.Frag) (G : Hp) (M : Mem) (ks : List Kn) (ds : List Dr) (us : List V) (s : Sg) : Prop := ∀ d, drI s = some d → ∃ v x k, us[d]? = some v ∧ DrV K G M v x ∧ ks[d]? = some k ∧ DrOk k x ∧ ds.getD d (.leaf 0) = x
def fitF (ks : List Kn) (j : Nat) (ps : List (Sg × Tch)) : Nat := if ((ps.filter fun x => decide (drI x.1 = some j)).all okP) = true then cntK (ks.getD j ⟨true, 0⟩) (rowsFor j ps) else 0
def S_law_kind (K : PySem.W.Frag) : KSp := sp1 fun x G M R Z => ∃ (p : Addr) (n : Nat) (c s : Int), x = .ref p ∧ M[n]? = some (p, pool c s) ∧ PoolOk s ∧ ∀ (t : Addr) (k : Kn) (c' s' : Int) (G' : Hp), Ex G G' → SqT K G' t [.str k.txt, .int k.n] → KnOk k → k.n ≤ 3 → PoolOk s' → R (.ref t) G' (M.set n (p, pool c' s'))
def S_law_great_kind (K : PySem.W.Frag) : KSp := sp1 fun x G M R Z => ∃ (p : Addr) (n : Nat) (c s : Int), x = .ref p ∧ M[n]? = some (p, pool c s) ∧ PoolOk s ∧ ∀ (t : Addr) (k : Kn) (c' s' : Int) (G' : Hp), Ex G G' → SqT K G' t [.str k.txt, .int k.n] → KnOk k → k.n ≤ 12 → PoolOk s' → R (.ref t) G' (M.set n (p, pool c' s'))
def S_law_great_draw (K : PySem.W.Frag) : KSp := sp2 fun x y G M R Z => ∃ (p : Addr) (n : Nat) (c s : Int) (k : Kn), x = .ref p ∧ M[n]? = some (p, pool c s) ∧ PoolOk s ∧ Dp K G y (knD k) ∧ KnOk k ∧ k.n ≤ 12 ∧ ∀ (v : V) (d : Dr) (c' s' : Int) (G' : Hp), Ex G G' → DrV K G' [] v d → DrOk k d → PoolOk s' → R v G' (M.set n (p, pool c' s'))
def S_law_draws_of (K : PySem.W.Frag) : KSp := sp1 fun x G M R Z => ∃ k : Kn, Dp K G x (knD k) ∧ KnOk k ∧ k.n ≤ 3 ∧ ∀ (p : Addr) (us : List V) (G' : Hp), Ex G G' → A2 (DrV K G' []) us (allKl k) → R (.ref p) G' ((p, .lst us) :: M)
def S_law_all (K : PySem.W.Frag) : KSp := sp1 fun x G M R Z => ∃ (a : Addr) (ks : List Kn), x = .ref a ∧ KnsG K G a ks ∧ ks.length ≤ 3 ∧ (∀ k, k ∈ ks → k.n ≤ 3) ∧ ∀ (p : Addr) (us : List V) (G' : Hp), Ex G G' → A2 (fun v d => ∃ b, v = .ref b ∧ DrsG K G' b d) us (lawAll ks) → R (.ref p) G' ((p, .lst us) :: M)
def S_law_order (K : PySem.W.Frag) : KSp := sp1 fun x G M R Z => ∃ (a : Addr) (l : List Nat), x = .ref a ∧ LstAt K G M a (natsV l) ∧ RowOk l ∧ l.length ≤ 1000 ∧ ∀ t, Fr G M t → R (.ref t) G ((t, .lst (natsV (orderOf l))) :: M)
def S_law_sign (K : PySem.W.Frag) : KSp := sp2 fun x y G M R Z => ∃ (p : Addr) (n : Nat) (c s : Int) (a : Addr) (ks : List Kn), x = .ref p ∧ M[n]? = some (p, pool c s) ∧ PoolOk s ∧ y = .ref a ∧ KnsG K G a ks ∧ 0 < ks.length ∧ ks.length ≤ 3 ∧ ∀ (t : Addr) (sg : Sg) (c' s' : Int) (G' : Hp), Ex G G' → SqT K G' t sg.vs → SgOk ks sg → PoolOk s' → R (.ref t) G' (M.set n (p, pool c' s'))
def S_law_touch (K : PySem.W.Frag) : KSp := sp3 fun x y z G M R Z => ∃ (a b : Addr) (us : List V) (ks : List Kn) (s : Sg) (ds : List Dr), x = .ref a ∧ KnsG K G a ks ∧ Dp K G y (sgD s) ∧ SgOk ks s ∧ z = .ref b ∧ LstAt K G M b us ∧ DrAtG K G M ks ds us s ∧ ∀ (t : Addr) (G' : Hp), Ex G G' → SqT K G' t (tchV (tchOf ks ds s)) → R (.ref t) G' M
def S_law_seen (K : PySem.W.Frag) : KSp := sp3 fun x y z G M R Z => ∃ (a o b : Addr) (ks : List Kn) (sgs : List Sg) (ds : List Dr), x = .ref a ∧ KnsG K G a ks ∧ y = .ref o ∧ SgsG K G o sgs ∧ sgs.length ≤ 10 ∧ (∀ s, s ∈ sgs → SgOk ks s) ∧ z = .ref b ∧ DrsG K G b ds ∧ A2 DrOk ks ds ∧ ∀ (t : Addr) (G' : Hp), Ex G G' → TsG K G' t (sgs.map (tchOf ks ds)) → R (.ref t) G' M
def S_law_bent (K : PySem.W.Frag) : KSp := sp3 fun x y z G M R Z => ∃ (p : Addr) (n : Nat) (c s : Int) (a b : Addr) (T1 T2 : List Tch), x = .ref p ∧ M[n]? = some (p, pool c s) ∧ PoolOk s ∧ y = .ref a ∧ TsG K G a T1 ∧ z = .ref b ∧ TsG K G b T2 ∧ T1.length ≤ 10 ∧ T2.length ≤ 10 ∧ ∀ (q : Addr) (T : List Tch) (c' s' : Int) (G' : Hp), Ex G G' → TsG K G' q T → T.length ≤ 40 → PoolOk s' → R (.ref q) G' (M.set n (p, pool c' s'))
def S_law_fit (K : PySem.W.Frag) : KSp := sp4 fun x y z u G M R Z => ∃ (a o t : Addr) (ks : List Kn) (j : Nat) (sgs : List Sg) (ts : List Tch), x = .ref a ∧ KnsG K G a ks ∧ y = .int j ∧ j < ks.length ∧ ks.length ≤ 3 ∧ z = .ref o ∧ SgsG K G o sgs ∧ sgs.length ≤ 10 ∧ (∀ s, s ∈ sgs → SgOk ks s) ∧ u = .ref t ∧ TsG K G t ts ∧ ts.length ≤ 40 ∧ ∀ G', Ex G G' → R (.int (fitF ks j (sgs.zip ts) : Nat)) G' M
def S_law_right (K : PySem.W.Frag) : KSp := sp1 fun x G M R Z => ∃ (p : Addr) (n : Nat) (c s : Int), x = .ref p ∧ M[n]? = some (p, pool c s) ∧ PoolOk s ∧ ∀ G' M', Ex G G' → R (.bl true) G' M'
def S_law_great (K : PySem.W.Frag) : KSp := sp1 fun x G M R Z => ∃ (p : Addr) (n : Nat) (c s : Int), x = .ref p ∧ M[n]? = some (p, pool c s) ∧ PoolOk s ∧ ∀ G' M', Ex G G' → R (.bl true) G' M'
/-! readings of the defs, printed by gen.py -/
/-- law_pool(_law_script, _law_k); slots 0 _law_script, 1 _law_k, 2 _law_cell, 3 _law_seed -/
def rd_law_pool_3 (K : PySem.W.Frag) : KS :=
  kSeq (kRet (kLst (kCons (kBin (kMul) (kVar 2) (kCB (kInt) (kCons (kBin (kI0 fun i j => .bl (decide (j ≤ i))) (kVar 2) (kBin (kI CPow fun i j => .int (i ^ j.toNat)) (kC (.int 10)) (kC (.int 18)))) (kNil)))) (kCons (kVar 3) (kNil))))) (kNext)
def rd_law_pool_2 (K : PySem.W.Frag) : KS :=
  kSeq (kSet 3 (kBin (kI (fun _ j => 0 < j) fun i j => .int (i % j)) (kBin (kMul) (kBin (kAdd) (kBin (kAdd) (kBin (kI (fun _ j => 0 < j) fun i j => .int (i % j)) (kVar 2) (kC (.int 1000003))) (kBin (kMul) (kC (.int 104729)) (kVar 1))) (kC (.int 53))) (kC (.int 48271))) (kC (.int 2147483647)))) (rd_law_pool_3 K)
def rd_law_pool_1 (K : PySem.W.Frag) : KS :=
  kSeq (kIf (kT (kBin (kI0 fun i j => .bl (decide (i < j))) (kVar 1) (kCB (kLen K) (kCons (kVar 0) (kNil))))) (kSeq (kSet 2 (kBin (kIx K) (kVar 0) (kVar 1))) (kNext)) (kNext)) (rd_law_pool_2 K)
def rd_law_pool (K : PySem.W.Frag) : KS :=
  kSeq (kSet 2 (kCB (kLen K) (kCons (kVar 0) (kNil)))) (rd_law_pool_1 K)
/-- law_take(_law_pool_here, _law_many); slots 0 _law_pool_here, 1 _law_many, 2 _law_digit -/
def rd_law_take_2 (K : PySem.W.Frag) : KS :=
  kSeq (kRet (kBin (kI (fun _ j => 0 < j) fun i j => .int (i % j)) (kBin (kI CDivW fun i j => .int (i / j)) (kBin (kI (fun _ j => 0 < j) fun i j => .int (i % j)) (kBin (kMul) (kBin (kIx K) (kVar 0) (kC (.int 1))) (kBin (kIx K) (kVar 0) (kC (.int 1)))) (kC (.int 2147483629))) (kC (.int 64))) (kVar 1))) (kNext)
def rd_law_take_1 (K : PySem.W.Frag) : KS :=
  kSeq (kAsg (kBin (kI (fun _ j => 0 < j) fun i j => .int (i % j)) (kBin (kAdd) (kBin (kMul) (kBin (kIx K) (kVar 0) (kC (.int 1))) (kC (.int 48271))) (kC (.int 11))) (kC (.int 2147483647))) (kgIx (kVar 0) (kC (.int 1)))) (rd_law_take_2 K)
def rd_law_take (K : PySem.W.Frag) : KS :=
  kSeq (kIf (kT (kBin (kI0 fun i j => .bl (decide (j < i))) (kBin (kIx K) (kVar 0) (kC (.int 0))) (kC (.int 0)))) (kSeq (kSet 2 (kBin (kI (fun _ j => 0 < j) fun i j => .int (i % j)) (kBin (kIx K) (kVar 0) (kC (.int 0))) (kVar 1))) (kSeq (kAsg (kBin (kI CDivW fun i j => .int (i / j)) (kBin (kIx K) (kVar 0) (kC (.int 0))) (kVar 1)) (kgIx (kVar 0) (kC (.int 0)))) (kSeq (kRet (kVar 2)) (kNext)))) (kNext)) (rd_law_take_1 K)
/-- law_kind(_law_pool_here); slots 0 _law_pool_here -/
def rd_law_kind_1 (K : PySem.W.Frag) : KS :=
  kSeq (kRet (kTup (kCons (kC (.str "shuffle")) (kCons (kBin (kAdd) (kC (.int 1)) (kCall (S_law_take K) (kCons (kVar 0) (kCons (kC (.int 3)) (kNil))))) (kNil))))) (kNext)
def rd_law_kind (K : PySem.W.Frag) : KS :=
  kSeq (kIf (kT (kBin (kEqv false K) (kCall (S_law_take K) (kCons (kVar 0) (kCons (kC (.int 2)) (kNil)))) (kC (.int 0)))) (kSeq (kRet (kTup (kCons (kC (.str "leaf")) (kCons (kCall (S_law_take K) (kCons (kVar 0) (kCons (kC (.int 3)) (kNil)))) (kNil))))) (kNext)) (kNext)) (rd_law_kind_1 K)
/-- law_sign(_law_pool_here, _law_kinds); slots 0 _law_pool_here, 1 _law_kinds, 2 _law_deed, 3 _law_shelf, 4 _law_draw, 5 _law_kind_here -/
def rd_law_sign_6 (K : PySem.W.Frag) : KS :=
  kSeq (kRet (kTup (kCons (kC (.str "way")) (kCons (kVar 2) (kCons (kVar 3) (kCons (kVar 4) (kCons (kCall (S_law_take K) (kCons (kVar 0) (kCons (kBin (kAdd) (kBin (kIx K) (kVar 5) (kC (.int 1))) (kC (.int 1))) (kNil)))) (kCons (kCall (S_law_take K) (kCons (kVar 0) (kCons (kC (.int 2)) (kNil)))) (kNil))))))))) (kNext)
def rd_law_sign_5 (K : PySem.W.Frag) : KS :=
  kSeq (kIf (kT (kBin (kEqv false K) (kBin (kIx K) (kVar 5) (kC (.int 0))) (kC (.str "shuffle")))) (kSeq (kRet (kTup (kCons (kC (.str "item")) (kCons (kVar 2) (kCons (kVar 3) (kCons (kVar 4) (kCons (kCall (S_law_take K) (kCons (kVar 0) (kCons (kBin (kIx K) (kVar 5) (kC (.int 1))) (kNil)))) (kNil)))))))) (kNext)) (kNext)) (rd_law_sign_6 K)
def rd_law_sign_4 (K : PySem.W.Frag) : KS :=
  kSeq (kIf (kT (kBin (kEqv false K) (kCall (S_law_take K) (kCons (kVar 0) (kCons (kC (.int 4)) (kNil)))) (kC (.int 0)))) (kSeq (kRet (kTup (kCons (kC (.str "room")) (kCons (kVar 2) (kCons (kVar 3) (kCons (kCall (S_law_take K) (kCons (kVar 0) (kCons (kC (.int 4)) (kNil)))) (kNil))))))) (kNext)) (kNext)) (rd_law_sign_5 K)
def rd_law_sign_3 (K : PySem.W.Frag) : KS :=
  kSeq (kSet 5 (kBin (kIx K) (kVar 1) (kVar 4))) (rd_law_sign_4 K)
def rd_law_sign_2 (K : PySem.W.Frag) : KS :=
  kSeq (kSet 4 (kCall (S_law_take K) (kCons (kVar 0) (kCons (kCB (kLen K) (kCons (kVar 1) (kNil))) (kNil))))) (rd_law_sign_3 K)
def rd_law_sign_1 (K : PySem.W.Frag) : KS :=
  kSeq (kSet 3 (kCall (S_law_take K) (kCons (kVar 0) (kCons (kC (.int 2)) (kNil))))) (rd_law_sign_2 K)
def rd_law_sign (K : PySem.W.Frag) : KS :=
  kSeq (kSet 2 (kBin (kIx K) (kLst (kCons (kC (.str "look")) (kCons (kC (.str "lay")) (kNil)))) (kCall (S_law_take K) (kCons (kVar 0) (kCons (kC (.int 2)) (kNil)))))) (rd_law_sign_1 K)
/-- law_draws_of(_law_kind_here); slots 0 _law_kind_here, 1 _law_found, 2 _law_k, 3 _law_more, 4 _law_row, 5 _law_number -/
def rd_law_draws_of_b1 (K : PySem.W.Frag) : KS :=
  kSeq (kSet 3 (kBin (kAdd) (kVar 3) (kComp (kiR1 (kCons (kBin (kAdd) (kVar 2) (kC (.int 1))) (kNil))) (kgName 5) (kYes) (kBin (kAdd) (kVar 4) (kLst (kCons (kVar 5) (kNil)))) [5]))) (kNext)
def rd_law_draws_of_b0_2 (K : PySem.W.Frag) : KS :=
  kSeq (kSet 1 (kVar 3)) (kNext)
def rd_law_draws_of_b0_1 (K : PySem.W.Frag) : KS :=
  kSeq (kFor (kiSeq K (kVar 1)) (kgName 4) (rd_law_draws_of_b1 K)) (rd_law_draws_of_b0_2 K)
def rd_law_draws_of_b0 (K : PySem.W.Frag) : KS :=
  kSeq (kSet 3 (kLst (kNil))) (rd_law_draws_of_b0_1 K)
def rd_law_draws_of_3 (K : PySem.W.Frag) : KS :=
  kSeq (kRet (kVar 1)) (kNext)
def rd_law_draws_of_2 (K : PySem.W.Frag) : KS :=
  kSeq (kFor (kiR1 (kCons (kBin (kIx K) (kVar 0) (kC (.int 1))) (kNil))) (kgName 2) (rd_law_draws_of_b0 K)) (rd_law_draws_of_3 K)
def rd_law_draws_of_1 (K : PySem.W.Frag) : KS :=
  kSeq (kSet 1 (kLst (kCons (kLst (kNil)) (kNil)))) (rd_law_draws_of_2 K)
def rd_law_draws_of (K : PySem.W.Frag) : KS :=
  kSeq (kIf (kT (kBin (kEqv false K) (kBin (kIx K) (kVar 0) (kC (.int 0))) (kC (.str "leaf")))) (kSeq (kRet (kListR1 (kBin (kI CPow fun i j => .int (i * 2 ^ j.toNat)) (kC (.int 1)) (kBin (kIx K) (kVar 0) (kC (.int 1)))))) (kNext)) (kNext)) (rd_law_draws_of_1 K)
/-- law_all(_law_kinds); slots 0 _law_kinds, 1 _law_found, 2 _law_kind_here, 3 _law_more, 4 _law_draws, 5 _law_draw -/
def rd_law_all_b1 (K : PySem.W.Frag) : KS :=
  kSeq (kSet 3 (kBin (kAdd) (kVar 3) (kComp (kiSeq K (kCall (S_law_draws_of K) (kCons (kVar 2) (kNil)))) (kgName 5) (kYes) (kBin (kAdd) (kVar 4) (kLst (kCons (kVar 5) (kNil)))) [5]))) (kNext)
def rd_law_all_b0_2 (K : PySem.W.Frag) : KS :=
  kSeq (kSet 1 (kVar 3)) (kNext)
def rd_law_all_b0_1 (K : PySem.W.Frag) : KS :=
  kSeq (kFor (kiSeq K (kVar 1)) (kgName 4) (rd_law_all_b1 K)) (rd_law_all_b0_2 K)
def rd_law_all_b0 (K : PySem.W.Frag) : KS :=
  kSeq (kSet 3 (kLst (kNil))) (rd_law_all_b0_1 K)
def rd_law_all_2 (K : PySem.W.Frag) : KS :=
  kSeq (kRet (kVar 1)) (kNext)
def rd_law_all_1 (K : PySem.W.Frag) : KS :=
  kSeq (kFor (kiSeq K (kVar 0)) (kgName 2) (rd_law_all_b0 K)) (rd_law_all_2 K)
def rd_law_all (K : PySem.W.Frag) : KS :=
  kSeq (kSet 1 (kLst (kCons (kLst (kNil)) (kNil)))) (rd_law_all_1 K)
/-- law_order(_law_row); slots 0 _law_row, 1 _law_order_here, 2 _law_k, 3 _law_at -/
def rd_law_order_b0_1 (K : PySem.W.Frag) : KS :=
  kSeq (kAsg (kTup (kCons (kBin (kIx K) (kVar 1) (kVar 3)) (kCons (kBin (kIx K) (kVar 1) (kVar 2)) (kNil)))) (kgTup K 2 (kgsCons (kgIx (kVar 1) (kVar 2)) (kgsCons (kgIx (kVar 1) (kVar 3)) (kgsNil))))) (kNext)
def rd_law_order_b0 (K : PySem.W.Frag) : KS :=
  kSeq (kSet 3 (kBin (kIx K) (kVar 0) (kVar 2))) (rd_law_order_b0_1 K)
def rd_law_order_2 (K : PySem.W.Frag) : KS :=
  kSeq (kRet (kVar 1)) (kNext)
def rd_law_order_1 (K : PySem.W.Frag) : KS :=
  kSeq (kFor (kiR3 (kCons (kBin (kI0 fun i j => .int (i - j)) (kCB (kLen K) (kCons (kVar 0) (kNil))) (kC (.int 1))) (kCons (kC (.int 0)) (kCons (kUn kNeg (kC (.int 1))) (kNil))))) (kgName 2) (rd_law_order_b0 K)) (rd_law_order_2 K)
def rd_law_order (K : PySem.W.Frag) : KS :=
  kSeq (kSet 1 (kListR1 (kCB (kLen K) (kCons (kVar 0) (kNil))))) (rd_law_order_1 K)
/-- law_touch(_law_kinds, _law_sign_here, _law_draws); slots 0 _law_kinds, 1 _law_sign_here, 2 _law_draws, 3 _law_high, 4 _law_node -/
def rd_law_touch_4 (K : PySem.W.Frag) : KS :=
  kSeq (kRet (kTup (kCons (kBin (kIx K) (kVar 1) (kC (.int 1))) (kCons (kBin (kIx K) (kVar 1) (kC (.int 2))) (kCons (kBin (kAdd) (kBin (kMul) (kC (.int 2)) (kVar 4)) (kBin (kIx K) (kVar 1) (kC (.int 5)))) (kNil)))))) (kNext)
def rd_law_touch_3 (K : PySem.W.Frag) : KS :=
  kSeq (kSet 4 (kBin (kAdd) (kBin (kI0 fun i j => .int (i - j)) (kBin (kI CPow fun i j => .int (i * 2 ^ j.toNat)) (kC (.int 1)) (kBin (kIx K) (kVar 1) (kC (.int 4)))) (kC (.int 1))) (kBin (kI CDivW fun i j => .int (i / j)) (kBin (kIx K) (kVar 2) (kBin (kIx K) (kVar 1) (kC (.int 3)))) (kBin (kI CPow fun i j => .int (i * 2 ^ j.toNat)) (kC (.int 1)) (kBin (kI0 fun i j => .int (i - j)) (kVar 3) (kBin (kIx K) (kVar 1) (kC (.int 4)))))))) (rd_law_touch_4 K)
def rd_law_touch_2 (K : PySem.W.Frag) : KS :=
  kSeq (kSet 3 (kBin (kIx K) (kBin (kIx K) (kVar 0) (kBin (kIx K) (kVar 1) (kC (.int 3)))) (kC (.int 1)))) (rd_law_touch_3 K)
def rd_law_touch_1 (K : PySem.W.Frag) : KS :=
  kSeq (kIf (kT (kBin (kEqv false K) (kBin (kIx K) (kVar 1) (kC (.int 0))) (kC (.str "item")))) (kSeq (kRet (kTup (kCons (kBin (kIx K) (kVar 1) (kC (.int 1))) (kCons (kBin (kIx K) (kVar 1) (kC (.int 2))) (kCons (kBin (kIx K) (kCall (S_law_order K) (kCons (kBin (kIx K) (kVar 2) (kBin (kIx K) (kVar 1) (kC (.int 3)))) (kNil))) (kBin (kIx K) (kVar 1) (kC (.int 4)))) (kNil)))))) (kNext)) (kNext)) (rd_law_touch_2 K)
def rd_law_touch (K : PySem.W.Frag) : KS :=
  kSeq (kIf (kT (kBin (kEqv false K) (kBin (kIx K) (kVar 1) (kC (.int 0))) (kC (.str "room")))) (kSeq (kRet (kSlT K (kVar 1) (kPart (kC (.int 1))) (kNoP))) (kNext)) (kNext)) (rd_law_touch_1 K)
/-- law_seen(_law_kinds, _law_signs, _law_draws); slots 0 _law_kinds, 1 _law_signs, 2 _law_draws, 3 _law_sign_here -/
def rd_law_seen (K : PySem.W.Frag) : KS :=
  kSeq (kRet (kComp (kiSeq K (kVar 1)) (kgName 3) (kYes) (kCall (S_law_touch K) (kCons (kVar 0) (kCons (kVar 3) (kCons (kVar 2) (kNil))))) [3])) (kNext)
/-- law_bent(_law_pool_here, _law_touches, _law_other); slots 0 _law_pool_here, 1 _law_touches, 2 _law_other, 3 _law_way, 4 _law_at, 5 _law_deed, 6 _law_shelf, 7 _law_room, 8 _law_lay, 9 _law_some -/
def rd_law_bent_9 (K : PySem.W.Frag) : KS :=
  kSeq (kRet (kBin (kAdd) (kBin (kAdd) (kSl K (kVar 1) (kNoP) (kPart (kVar 4))) (kBin (kIx K) (kVar 9) (kBin (kI0 fun i j => .int (i - j)) (kVar 3) (kC (.int 2))))) (kSl K (kVar 1) (kPart (kBin (kAdd) (kBin (kAdd) (kVar 4) (kC (.int 1))) (kCB (kInt) (kCons (kBin (kEqv false K) (kVar 3) (kC (.int 7))) (kNil))))) (kNoP)))) (kNext)
def rd_law_bent_8 (K : PySem.W.Frag) : KS :=
  kSeq (kSet 9 (kBin (kAdd) (kVar 9) (kLst (kCons (kUn (kRevL K) (kSl K (kVar 1) (kPart (kVar 4)) (kPart (kBin (kAdd) (kVar 4) (kC (.int 2)))))) (kNil))))) (rd_law_bent_9 K)
def rd_law_bent_7 (K : PySem.W.Frag) : KS :=
  kSeq (kSet 9 (kLst (kCons (kLst (kNil)) (kCons (kLst (kCons (kTup (kCons (kVar 8) (kCons (kVar 6) (kCons (kVar 7) (kNil))))) (kNil))) (kCons (kLst (kCons (kTup (kCons (kVar 5) (kCons (kBin (kAdd) (kVar 6) (kC (.int 1))) (kCons (kVar 7) (kNil))))) (kNil))) (kCons (kLst (kCons (kTup (kCons (kVar 5) (kCons (kVar 6) (kCons (kBin (kAdd) (kVar 7) (kC (.int 1))) (kNil))))) (kNil))) (kCons (kLst (kCons (kTup (kCons (kVar 5) (kCons (kVar 6) (kCons (kC (.int 40)) (kNil))))) (kNil))) (kNil)))))))) (rd_law_bent_8 K)
def rd_law_bent_6 (K : PySem.W.Frag) : KS :=
  kSeq (kSet 8 (kBin (kIx K) (kLst (kCons (kC (.str "lay")) (kCons (kC (.str "look")) (kNil)))) (kCB (kInt) (kCons (kBin (kEqv false K) (kVar 5) (kC (.str "lay"))) (kNil))))) (rd_law_bent_7 K)
def rd_law_bent_5 (K : PySem.W.Frag) : KS :=
  kSeq (kAsg (kBin (kIx K) (kVar 1) (kVar 4)) (kgTup K 3 (kgsCons (kgName 5) (kgsCons (kgName 6) (kgsCons (kgName 7) (kgsNil)))))) (rd_law_bent_6 K)
def rd_law_bent_4 (K : PySem.W.Frag) : KS :=
  kSeq (kIf (kOr (kT (kBin (kI0 fun i j => .bl (decide (j < i))) (kVar 3) (kC (.int 7)))) (kT (kBin (kEqv false K) (kVar 4) (kCB (kLen K) (kCons (kVar 1) (kNil)))))) (kSeq (kRet (kVar 1)) (kNext)) (kNext)) (rd_law_bent_5 K)
def rd_law_bent_3 (K : PySem.W.Frag) : KS :=
  kSeq (kIf (kT (kBin (kEqv false K) (kVar 3) (kC (.int 1)))) (kSeq (kRet (kBin (kAdd) (kVar 1) (kLst (kCons (kTup (kCons (kC (.str "look")) (kCons (kC (.int 0)) (kCons (kC (.int 0)) (kNil))))) (kNil))))) (kNext)) (kNext)) (rd_law_bent_4 K)
def rd_law_bent_2 (K : PySem.W.Frag) : KS :=
  kSeq (kIf (kT (kBin (kEqv false K) (kVar 3) (kC (.int 0)))) (kSeq (kRet (kVar 2)) (kNext)) (kNext)) (rd_law_bent_3 K)
def rd_law_bent_1 (K : PySem.W.Frag) : KS :=
  kSeq (kSet 4 (kCall (S_law_take K) (kCons (kVar 0) (kCons (kBin (kAdd) (kCB (kLen K) (kCons (kVar 1) (kNil))) (kC (.int 1))) (kNil))))) (rd_law_bent_2 K)
def rd_law_bent (K : PySem.W.Frag) : KS :=
  kSeq (kSet 3 (kCall (S_law_take K) (kCons (kVar 0) (kCons (kC (.int 12)) (kNil))))) (rd_law_bent_1 K)
/-- grouped(kinds, signs, touches); slots 0 kinds, 1 signs, 2 touches, 3 found, 4 kind, 5 sign, 6 touch -/
def rd_grouped_b0_1 (K : PySem.W.Frag) : KS :=
  kSeq (kIf (kT (kBin (kEqv true K) (kBin (kIx K) (kVar 5) (kC (.int 0))) (kC (.str "room")))) (kSeq (kExpr (kBM K "list" (kAppend) (kBin (kIx K) (kVar 3) (kBin (kIx K) (kVar 5) (kC (.int 3)))) (kCons (kTup (kCons (kVar 5) (kCons (kBin (kIx K) (kVar 6) (kC (.int 2))) (kNil)))) (kNil)))) (kNext)) (kNext)) (kNext)
def rd_grouped_b0 (K : PySem.W.Frag) : KS :=
  kSeq (kIf (kOr (kT (kBin (kEqv true K) (kSlT K (kVar 5) (kPart (kC (.int 1))) (kPart (kC (.int 3)))) (kSlT K (kVar 6) (kNoP) (kPart (kC (.int 2)))))) (kAnd (kT (kBin (kEqv false K) (kBin (kIx K) (kVar 5) (kC (.int 0))) (kC (.str "room")))) (kT (kBin (kEqv true K) (kBin (kIx K) (kVar 5) (kC (.int 3))) (kBin (kIx K) (kVar 6) (kC (.int 2))))))) (kSeq (kRet (kC .non)) (kNext)) (kNext)) (rd_grouped_b0_1 K)
def rd_grouped_2 (K : PySem.W.Frag) : KS :=
  kSeq (kRet (kVar 3)) (kNext)
def rd_grouped_1 (K : PySem.W.Frag) : KS :=
  kSeq (kFor (kiZip K (kCons (kVar 1) (kCons (kVar 2) (kNil)))) (kgTup K 2 (kgsCons (kgName 5) (kgsCons (kgName 6) (kgsNil)))) (rd_grouped_b0 K)) (rd_grouped_2 K)
def rd_grouped (K : PySem.W.Frag) : KS :=
  kSeq (kSet 3 (kComp (kiSeq K (kVar 0)) (kgName 4) (kYes) (kLst (kNil)) [4])) (rd_grouped_1 K)
/-- leaves(high); slots 0 high -/
def rd_leaves (K : PySem.W.Frag) : KS :=
  kSeq (kRet (kBin (kI CPow fun i j => .int (i * 2 ^ j.toNat)) (kC (.int 1)) (kVar 0))) (kNext)
/-- node_at(high, depth, leaf); slots 0 high, 1 depth, 2 leaf -/
def rd_node_at (K : PySem.W.Frag) : KS :=
  kSeq (kRet (kBin (kAdd) (kBin (kI0 fun i j => .int (i - j)) (kBin (kI CPow fun i j => .int (i * 2 ^ j.toNat)) (kC (.int 1)) (kVar 1)) (kC (.int 1))) (kBin (kI (fun _ j => 0 ≤ j) fun i j => .int (i / 2 ^ j.toNat)) (kVar 2) (kBin (kI0 fun i j => .int (i - j)) (kVar 0) (kVar 1))))) (kNext)
/-- room_of(node, side); slots 0 node, 1 side -/
def rd_room_of (K : PySem.W.Frag) : KS :=
  kSeq (kRet (kBin (kAdd) (kBin (kMul) (kC (.int 2)) (kVar 0)) (kVar 1))) (kNext)
/-- leaves_left(high, rows); slots 0 high, 1 rows, 2 many, 3 leaf, 4 missed, 5 sign, 6 room -/
def rd_leaves_left_b0_1 (K : PySem.W.Frag) : KS :=
  kSeq (kSet 2 (kBin (kAdd) (kVar 2) (kCB (kInt) (kCons (kBin (kEqv false K) (kVar 4) (kLst (kNil))) (kNil))))) (kNext)
def rd_leaves_left_b0 (K : PySem.W.Frag) : KS :=
  kSeq (kSet 4 (kComp (kiSeq K (kVar 1)) (kgTup K 2 (kgsCons (kgName 5) (kgsCons (kgName 6) (kgsNil)))) (kT (kBin (kEqv true K) (kCall (S_room_of K) (kCons (kCall (S_node_at K) (kCons (kVar 0) (kCons (kBin (kIx K) (kVar 5) (kC (.int 4))) (kCons (kVar 3) (kNil))))) (kCons (kBin (kIx K) (kVar 5) (kC (.int 5))) (kNil)))) (kVar 6))) (kVar 6) [5, 6])) (rd_leaves_left_b0_1 K)
def rd_leaves_left_2 (K : PySem.W.Frag) : KS :=
  kSeq (kRet (kVar 2)) (kNext)
def rd_leaves_left_1 (K : PySem.W.Frag) : KS :=
  kSeq (kFor (kiR1 (kCons (kCall (S_leaves K) (kCons (kVar 0) (kNil))) (kNil))) (kgName 3) (rd_leaves_left_b0 K)) (rd_leaves_left_2 K)
def rd_leaves_left (K : PySem.W.Frag) : KS :=
  kSeq (kSet 2 (kC (.int 0))) (rd_leaves_left_1 K)
/-- many_of(kind); slots 0 kind, 1 many, 2 number -/
def rd_many_of_b0 (K : PySem.W.Frag) : KS :=
  kSeq (kSet 1 (kBin (kMul) (kVar 1) (kVar 2))) (kNext)
def rd_many_of_3 (K : PySem.W.Frag) : KS :=
  kSeq (kRet (kVar 1)) (kNext)
def rd_many_of_2 (K : PySem.W.Frag) : KS :=
  kSeq (kFor (kiR2 (kCons (kC (.int 1)) (kCons (kBin (kAdd) (kBin (kIx K) (kVar 0) (kC (.int 1))) (kC (.int 1))) (kNil)))) (kgName 2) (rd_many_of_b0 K)) (rd_many_of_3 K)
def rd_many_of_1 (K : PySem.W.Frag) : KS :=
  kSeq (kSet 1 (kC (.int 1))) (rd_many_of_2 K)
def rd_many_of (K : PySem.W.Frag) : KS :=
  kSeq (kIf (kT (kBin (kEqv false K) (kBin (kIx K) (kVar 0) (kC (.int 0))) (kC (.str "leaf")))) (kSeq (kRet (kCall (S_leaves K) (kCons (kBin (kIx K) (kVar 0) (kC (.int 1))) (kNil)))) (kNext)) (kNext)) (rd_many_of_1 K)
/-- orders_left(size, rows); slots 0 size, 1 rows, 2 rooms, 3 sign, 4 room -/
def rd_orders_left_b0 (K : PySem.W.Frag) : KS :=
  kSeq (kIf (kOr (kT (kBin (kEqv true K) (kDSetd (kVar 2) (kBin (kIx K) (kVar 3) (kC (.int 4))) (kVar 4)) (kVar 4))) (kT (kBin (kI0 fun i j => .bl (decide (j ≤ i))) (kVar 4) (kVar 0)))) (kSeq (kRet (kC (.int 0))) (kNext)) (kNext)) (kNext)
def rd_orders_left_3 (K : PySem.W.Frag) : KS :=
  kSeq (kRet (kCall (S_many_of K) (kCons (kTup (kCons (kC (.str "shuffle")) (kCons (kBin (kI0 fun i j => .int (i - j)) (kVar 0) (kCB kLenD (kCons (kVar 2) (kNil)))) (kNil)))) (kNil)))) (kNext)
def rd_orders_left_2 (K : PySem.W.Frag) : KS :=
  kSeq (kIf (kT (kBin (kI0 fun i j => .bl (decide (i < j))) (kLenSet K (kValsL (kVar 2))) (kCB kLenD (kCons (kVar 2) (kNil))))) (kSeq (kRet (kC (.int 0))) (kNext)) (kNext)) (rd_orders_left_3 K)
def rd_orders_left_1 (K : PySem.W.Frag) : KS :=
  kSeq (kFor (kiSeq K (kVar 1)) (kgTup K 2 (kgsCons (kgName 3) (kgsCons (kgName 4) (kgsNil)))) (rd_orders_left_b0 K)) (rd_orders_left_2 K)
def rd_orders_left (K : PySem.W.Frag) : KS :=
  kSeq (kSet 2 (kDNew)) (rd_orders_left_1 K)
/-- comes_of(kinds, signs, touches); slots 0 kinds, 1 signs, 2 touches, 3 rows, 4 many, 5 kind, 6 own -/
def rd_comes_of_b0 (K : PySem.W.Frag) : KS :=
  kSeq (kIf (kT (kBin (kEqv false K) (kBin (kIx K) (kVar 5) (kC (.int 0))) (kC (.str "leaf")))) (kSeq (kSet 4 (kBin (kMul) (kVar 4) (kCall (S_leaves_left K) (kCons (kBin (kIx K) (kVar 5) (kC (.int 1))) (kCons (kVar 6) (kNil)))))) (kNext)) (kSeq (kSet 4 (kBin (kMul) (kVar 4) (kCall (S_orders_left K) (kCons (kBin (kIx K) (kVar 5) (kC (.int 1))) (kCons (kVar 6) (kNil)))))) (kNext))) (kNext)
def rd_comes_of_5 (K : PySem.W.Frag) : KS :=
  kSeq (kRet (kVar 4)) (kNext)
def rd_comes_of_4 (K : PySem.W.Frag) : KS :=
  kSeq (kFor (kiZip K (kCons (kVar 0) (kCons (kVar 3) (kNil)))) (kgTup K 2 (kgsCons (kgName 5) (kgsCons (kgName 6) (kgsNil)))) (rd_comes_of_b0 K)) (rd_comes_of_5 K)
def rd_comes_of_3 (K : PySem.W.Frag) : KS :=
  kSeq (kSet 4 (kC (.int 1))) (rd_comes_of_4 K)
def rd_comes_of_2 (K : PySem.W.Frag) : KS :=
  kSeq (kIf (kT (kBin (kIs2 false) (kVar 3) (kC .non))) (kSeq (kRet (kC (.int 0))) (kNext)) (kNext)) (rd_comes_of_3 K)
def rd_comes_of_1 (K : PySem.W.Frag) : KS :=
  kSeq (kSet 3 (kCall (S_grouped K) (kCons (kVar 0) (kCons (kVar 1) (kCons (kVar 2) (kNil)))))) (rd_comes_of_2 K)
def rd_comes_of (K : PySem.W.Frag) : KS :=
  kSeq (kIf (kT (kBin (kEqv true K) (kCB (kLen K) (kCons (kVar 1) (kNil))) (kCB (kLen K) (kCons (kVar 2) (kNil))))) (kSeq (kRet (kC (.int 0))) (kNext)) (kNext)) (rd_comes_of_1 K)
/-- law_right(_law_pool_here); slots 0 _law_pool_here, 1 _law_kinds, 2 _law_k, 3 _law_signs, 4 _law_rows, 5 _law_seen_here, 6 _law_draws, 7 _law_touches, 8 _law_handed, 9 _law_due, 10 _law_one, 11 _law_turn, 12 _law_found -/
def rd_law_right_b0_1 (K : PySem.W.Frag) : KS :=
  kSeq (kIf (kOr (kNot (kT (kCB (kIsi K) (kCons (kVar 12) (kCons (kC (.ty "int")) (kNil)))))) (kOr (kT (kCB (kIsi K) (kCons (kVar 12) (kCons (kC (.ty "bool")) (kNil))))) (kT (kBin (kEqv true K) (kVar 12) (kVar 9))))) (kSeq (kRet (kC (.bl false))) (kNext)) (kNext)) (kNext)
def rd_law_right_b0 (K : PySem.W.Frag) : KS :=
  kSeq (kSet 12 (kCall (S_comes_of K) (kCons (kBin (kIx K) (kVar 8) (kC (.int 0))) (kCons (kBin (kIx K) (kVar 8) (kC (.int 1))) (kCons (kBin (kIx K) (kVar 8) (kC (.int 2))) (kNil)))))) (rd_law_right_b0_1 K)
def rd_law_right_8 (K : PySem.W.Frag) : KS :=
  kSeq (kRet (kBin (kEqv false K) (kVar 8) (kLst (kCons (kVar 1) (kCons (kVar 3) (kCons (kVar 7) (kNil))))))) (kNext)
def rd_law_right_7 (K : PySem.W.Frag) : KS :=
  kSeq (kFor (kiR1 (kCons (kC (.int 2)) (kNil))) (kgName 11) (rd_law_right_b0 K)) (rd_law_right_8 K)
def rd_law_right_6 (K : PySem.W.Frag) : KS :=
  kSeq (kSet 9 (kCB (kLen K) (kCons (kComp (kiSeq K (kVar 5)) (kgName 10) (kT (kBin (kEqv false K) (kVar 10) (kVar 7))) (kVar 10) [10]) (kNil)))) (rd_law_right_7 K)
def rd_law_right_5 (K : PySem.W.Frag) : KS :=
  kSeq (kSet 8 (kLst (kCons (kCB (kList K) (kCons (kVar 1) (kNil))) (kCons (kCB (kList K) (kCons (kVar 3) (kNil))) (kCons (kCB (kList K) (kCons (kVar 7) (kNil))) (kNil)))))) (rd_law_right_6 K)
def rd_law_right_4 (K : PySem.W.Frag) : KS :=
  kSeq (kSet 7 (kCall (S_law_bent K) (kCons (kVar 0) (kCons (kBin (kIx K) (kVar 5) (kCall (S_law_take K) (kCons (kVar 0) (kCons (kCB (kLen K) (kCons (kVar 4) (kNil))) (kNil))))) (kCons (kBin (kIx K) (kVar 5) (kCall (S_law_take K) (kCons (kVar 0) (kCons (kCB (kLen K) (kCons (kVar 4) (kNil))) (kNil))))) (kNil)))))) (rd_law_right_5 K)
def rd_law_right_3 (K : PySem.W.Frag) : KS :=
  kSeq (kSet 5 (kComp (kiSeq K (kVar 4)) (kgName 6) (kYes) (kCall (S_law_seen K) (kCons (kVar 1) (kCons (kVar 3) (kCons (kVar 6) (kNil))))) [6])) (rd_law_right_4 K)
def rd_law_right_2 (K : PySem.W.Frag) : KS :=
  kSeq (kSet 4 (kCall (S_law_all K) (kCons (kVar 1) (kNil)))) (rd_law_right_3 K)
def rd_law_right_1 (K : PySem.W.Frag) : KS :=
  kSeq (kSet 3 (kComp (kiR1 (kCons (kCall (S_law_take K) (kCons (kVar 0) (kCons (kC (.int 7)) (kNil)))) (kNil))) (kgName 2) (kYes) (kCall (S_law_sign K) (kCons (kVar 0) (kCons (kVar 1) (kNil)))) [2])) (rd_law_right_2 K)
def rd_law_right (K : PySem.W.Frag) : KS :=
  kSeq (kSet 1 (kComp (kiR1 (kCons (kBin (kAdd) (kC (.int 1)) (kCall (S_law_take K) (kCons (kVar 0) (kCons (kC (.int 3)) (kNil))))) (kNil))) (kgName 2) (kYes) (kCall (S_law_kind K) (kCons (kVar 0) (kNil))) [2])) (rd_law_right_1 K)
/-- law_great_kind(_law_pool_here); slots 0 _law_pool_here -/
def rd_law_great_kind_1 (K : PySem.W.Frag) : KS :=
  kSeq (kRet (kTup (kCons (kC (.str "shuffle")) (kCons (kBin (kAdd) (kC (.int 1)) (kCall (S_law_take K) (kCons (kVar 0) (kCons (kC (.int 12)) (kNil))))) (kNil))))) (kNext)
def rd_law_great_kind (K : PySem.W.Frag) : KS :=
  kSeq (kIf (kT (kBin (kEqv false K) (kCall (S_law_take K) (kCons (kVar 0) (kCons (kC (.int 2)) (kNil)))) (kC (.int 0)))) (kSeq (kRet (kTup (kCons (kC (.str "leaf")) (kCons (kCall (S_law_take K) (kCons (kVar 0) (kCons (kC (.int 7)) (kNil)))) (kNil))))) (kNext)) (kNext)) (rd_law_great_kind_1 K)
/-- law_great_draw(_law_pool_here, _law_kind_here); slots 0 _law_pool_here, 1 _law_kind_here, 2 _law_k -/
def rd_law_great_draw_1 (K : PySem.W.Frag) : KS :=
  kSeq (kRet (kComp (kiR1 (kCons (kBin (kIx K) (kVar 1) (kC (.int 1))) (kNil))) (kgName 2) (kYes) (kCall (S_law_take K) (kCons (kVar 0) (kCons (kBin (kAdd) (kVar 2) (kC (.int 1))) (kNil)))) [2])) (kNext)
def rd_law_great_draw (K : PySem.W.Frag) : KS :=
  kSeq (kIf (kT (kBin (kEqv false K) (kBin (kIx K) (kVar 1) (kC (.int 0))) (kC (.str "leaf")))) (kSeq (kRet (kCall (S_law_take K) (kCons (kVar 0) (kCons (kBin (kI CPow fun i j => .int (i * 2 ^ j.toNat)) (kC (.int 1)) (kBin (kIx K) (kVar 1) (kC (.int 1)))) (kNil))))) (kNext)) (kNext)) (rd_law_great_draw_1 K)
/-- law_fit(_law_kinds, _law_at, _law_signs, _law_touches); slots 0 _law_kinds, 1 _law_at, 2 _law_signs, 3 _law_touches, 4 _law_kind_here, 5 _law_pairs, 6 _law_sign_here, 7 _law_touch_here, 8 _law_draws, 9 _law_leaf, 10 _law_one, 11 _law_rooms, 12 _law_found, 13 _law_left -/
def rd_law_fit_b0 (K : PySem.W.Frag) : KS :=
  kSeq (kIf (kAnd (kT (kBin (kEqv true K) (kBin (kIx K) (kVar 6) (kC (.int 0))) (kC (.str "room")))) (kT (kBin (kEqv false K) (kBin (kIx K) (kVar 6) (kC (.int 3))) (kVar 1)))) (kSeq (kExpr (kBM K "list" (kAppend) (kVar 5) (kCons (kTup (kCons (kVar 6) (kCons (kVar 7) (kNil)))) (kNil)))) (kNext)) (kNext)) (kNext)
def rd_law_fit_b1_1 (K : PySem.W.Frag) : KS :=
  kSeq (kDSet (kVar 11) (kBin (kIx K) (kVar 6) (kC (.int 4))) (kBin (kIx K) (kVar 7) (kC (.int 2)))) (kNext)
def rd_law_fit_b1 (K : PySem.W.Frag) : KS :=
  kSeq (kIf (kOr (kT (kBin (kEqv true K) (kDGet2 (kVar 11) (kBin (kIx K) (kVar 6) (kC (.int 4))) (kBin (kIx K) (kVar 7) (kC (.int 2)))) (kBin (kIx K) (kVar 7) (kC (.int 2))))) (kOr (kNot (kT (kBin (kI0 fun i j => .bl (decide (i < j))) (kBin (kIx K) (kVar 7) (kC (.int 2))) (kBin (kIx K) (kVar 4) (kC (.int 1)))))) (kT (kBin (kEqv true K) (kSlT K (kVar 7) (kNoP) (kPart (kC (.int 2)))) (kSlT K (kVar 6) (kPart (kC (.int 1))) (kPart (kC (.int 3)))))))) (kSeq (kRet (kC (.int 0))) (kNext)) (kNext)) (rd_law_fit_b1_1 K)
def rd_law_fit_b2 (K : PySem.W.Frag) : KS :=
  kSeq (kSet 12 (kBin (kMul) (kVar 12) (kVar 13))) (kNext)
def rd_law_fit_9 (K : PySem.W.Frag) : KS :=
  kSeq (kRet (kVar 12)) (kNext)
def rd_law_fit_8 (K : PySem.W.Frag) : KS :=
  kSeq (kFor (kiR2 (kCons (kC (.int 1)) (kCons (kBin (kAdd) (kBin (kI0 fun i j => .int (i - j)) (kBin (kIx K) (kVar 4) (kC (.int 1))) (kCB kLenD (kCons (kVar 11) (kNil)))) (kC (.int 1))) (kNil)))) (kgName 13) (rd_law_fit_b2 K)) (rd_law_fit_9 K)
def rd_law_fit_7 (K : PySem.W.Frag) : KS :=
  kSeq (kSet 12 (kC (.int 1))) (rd_law_fit_8 K)
def rd_law_fit_6 (K : PySem.W.Frag) : KS :=
  kSeq (kIf (kT (kBin (kEqv true K) (kLenSet K (kValsL (kVar 11))) (kCB kLenD (kCons (kVar 11) (kNil))))) (kSeq (kRet (kC (.int 0))) (kNext)) (kNext)) (rd_law_fit_7 K)
def rd_law_fit_5 (K : PySem.W.Frag) : KS :=
  kSeq (kFor (kiSeq K (kVar 5)) (kgTup K 2 (kgsCons (kgName 6) (kgsCons (kgName 7) (kgsNil)))) (rd_law_fit_b1 K)) (rd_law_fit_6 K)
def rd_law_fit_4 (K : PySem.W.Frag) : KS :=
  kSeq (kSet 11 (kDNew)) (rd_law_fit_5 K)
def rd_law_fit_3 (K : PySem.W.Frag) : KS :=
  kSeq (kIf (kT (kBin (kEqv false K) (kBin (kIx K) (kVar 4) (kC (.int 0))) (kC (.str "leaf")))) (kSeq (kSet 8 (kComp (kiR1 (kCons (kBin (kI CPow fun i j => .int (i * 2 ^ j.toNat)) (kC (.int 1)) (kBin (kIx K) (kVar 4) (kC (.int 1)))) (kNil))) (kgName 9) (kYes) (kBin (kAdd) (kBin (kMul) (kLst (kCons (kC (.int 0)) (kNil))) (kVar 1)) (kLst (kCons (kVar 9) (kNil)))) [9])) (kSeq (kRet (kCB (kLen K) (kCons (kComp (kiSeq K (kVar 8)) (kgName 10) (kT (kCB (kAll K) (kCons (kComp (kiSeq K (kVar 5)) (kgTup K 2 (kgsCons (kgName 6) (kgsCons (kgName 7) (kgsNil)))) (kYes) (kBin (kEqv false K) (kCall (S_law_touch K) (kCons (kVar 0) (kCons (kVar 6) (kCons (kVar 10) (kNil))))) (kVar 7)) [6, 7]) (kNil)))) (kVar 10) [10]) (kNil)))) (kNext))) (kNext)) (rd_law_fit_4 K)
def rd_law_fit_2 (K : PySem.W.Frag) : KS :=
  kSeq (kFor (kiZip K (kCons (kVar 2) (kCons (kVar 3) (kNil)))) (kgTup K 2 (kgsCons (kgName 6) (kgsCons (kgName 7) (kgsNil)))) (rd_law_fit_b0 K)) (rd_law_fit_3 K)
def rd_law_fit_1 (K : PySem.W.Frag) : KS :=
  kSeq (kSet 5 (kLst (kNil))) (rd_law_fit_2 K)
def rd_law_fit (K : PySem.W.Frag) : KS :=
  kSeq (kSet 4 (kBin (kIx K) (kVar 0) (kVar 1))) (rd_law_fit_1 K)
/-- law_great(_law_pool_here); slots 0 _law_pool_here, 1 _law_kinds, 2 _law_k, 3 _law_signs, 4 _law_rows, 5 _law_turn, 6 _law_kind_here, 7 _law_touches, 8 _law_due, 9 _law_sign_here, 10 _law_touch_here, 11 _law_at, 12 _law_found -/
def rd_law_great_b0 (K : PySem.W.Frag) : KS :=
  kSeq (kIf (kAnd (kT (kBin (kEqv false K) (kBin (kIx K) (kVar 9) (kC (.int 0))) (kC (.str "room")))) (kT (kBin (kEqv true K) (kSlT K (kVar 9) (kPart (kC (.int 1))) (kNoP)) (kVar 10)))) (kSeq (kSet 8 (kC (.int 0))) (kNext)) (kNext)) (kNext)
def rd_law_great_b1 (K : PySem.W.Frag) : KS :=
  kSeq (kSet 8 (kBin (kMul) (kVar 8) (kCall (S_law_fit K) (kCons (kVar 1) (kCons (kVar 11) (kCons (kVar 3) (kCons (kVar 7) (kNil)))))))) (kNext)
def rd_law_great_8 (K : PySem.W.Frag) : KS :=
  kSeq (kRet (kAndV (kCB (kIsi K) (kCons (kVar 12) (kCons (kC (.ty "int")) (kNil)))) (kAndV (kNotV (kCB (kIsi K) (kCons (kVar 12) (kCons (kC (.ty "bool")) (kNil))))) (kBin (kEqv false K) (kVar 12) (kVar 8))))) (kNext)
def rd_law_great_7 (K : PySem.W.Frag) : KS :=
  kSeq (kSet 12 (kCall (S_comes_of K) (kCons (kVar 1) (kCons (kVar 3) (kCons (kVar 7) (kNil)))))) (rd_law_great_8 K)
def rd_law_great_6 (K : PySem.W.Frag) : KS :=
  kSeq (kFor (kiR1 (kCons (kCB (kLen K) (kCons (kVar 1) (kNil))) (kNil))) (kgName 11) (rd_law_great_b1 K)) (rd_law_great_7 K)
def rd_law_great_5 (K : PySem.W.Frag) : KS :=
  kSeq (kFor (kiZip K (kCons (kVar 3) (kCons (kVar 7) (kNil)))) (kgTup K 2 (kgsCons (kgName 9) (kgsCons (kgName 10) (kgsNil)))) (rd_law_great_b0 K)) (rd_law_great_6 K)
def rd_law_great_4 (K : PySem.W.Frag) : KS :=
  kSeq (kSet 8 (kCB (kInt) (kCons (kBin (kEqv false K) (kCB (kLen K) (kCons (kVar 7) (kNil))) (kCB (kLen K) (kCons (kVar 3) (kNil)))) (kNil)))) (rd_law_great_5 K)
def rd_law_great_3 (K : PySem.W.Frag) : KS :=
  kSeq (kSet 7 (kCall (S_law_bent K) (kCons (kVar 0) (kCons (kCall (S_law_seen K) (kCons (kVar 1) (kCons (kVar 3) (kCons (kBin (kIx K) (kVar 4) (kC (.int 0))) (kNil))))) (kCons (kCall (S_law_seen K) (kCons (kVar 1) (kCons (kVar 3) (kCons (kBin (kIx K) (kVar 4) (kC (.int 1))) (kNil))))) (kNil)))))) (rd_law_great_4 K)
def rd_law_great_2 (K : PySem.W.Frag) : KS :=
  kSeq (kSet 4 (kComp (kiR1 (kCons (kC (.int 2)) (kNil))) (kgName 5) (kYes) (kComp (kiSeq K (kVar 1)) (kgName 6) (kYes) (kCall (S_law_great_draw K) (kCons (kVar 0) (kCons (kVar 6) (kNil)))) [6]) [5])) (rd_law_great_3 K)
def rd_law_great_1 (K : PySem.W.Frag) : KS :=
  kSeq (kSet 3 (kComp (kiR1 (kCons (kCall (S_law_take K) (kCons (kVar 0) (kCons (kC (.int 9)) (kNil)))) (kNil))) (kgName 2) (kYes) (kCall (S_law_sign K) (kCons (kVar 0) (kCons (kVar 1) (kNil)))) [2])) (rd_law_great_2 K)
def rd_law_great (K : PySem.W.Frag) : KS :=
  kSeq (kSet 1 (kComp (kiR1 (kCons (kBin (kAdd) (kC (.int 1)) (kCall (S_law_take K) (kCons (kVar 0) (kCons (kC (.int 3)) (kNil))))) (kNil))) (kgName 2) (kYes) (kCall (S_law_great_kind K) (kCons (kVar 0) (kNil))) [2])) (rd_law_great_1 K)
/-- law(_law_script); slots 0 _law_script, 1 _law_k -/
def rd_law_b0 (K : PySem.W.Frag) : KS :=
  kSeq (kIf (kOr (kNot (kT (kCall (S_law_right K) (kCons (kCall (S_law_pool K) (kCons (kVar 0) (kCons (kVar 1) (kNil)))) (kNil))))) (kNot (kT (kCall (S_law_great K) (kCons (kCall (S_law_pool K) (kCons (kVar 0) (kCons (kVar 1) (kNil)))) (kNil)))))) (kSeq (kRet (kC (.bl false))) (kNext)) (kNext)) (kNext)
def rd_law_1 (K : PySem.W.Frag) : KS :=
  kSeq (kRet (kC (.bl true))) (kNext)
def rd_law (K : PySem.W.Frag) : KS :=
  kSeq (kFor (kiR1 (kCons (kBin (kAdd) (kCB (kMin2) (kCons (kCB (kLen K) (kCons (kVar 0) (kNil))) (kCons (kC (.int 30)) (kNil)))) (kC (.int 1))) (kNil))) (kgName 1) (rd_law_b0 K)) (rd_law_1 K)
section
variable {K : PySem.W.Frag} {vs : List V} {G : Hp} {M : Mem} {R : KR} {Z : KX}
theorem pf_law_take (h : S_law_take K vs G M R Z) : rd_law_take K (ends R Z) (sta 3 vs) G M := by
  obtain ⟨_, _, rfl, p, m, n, c, s, rfl, rfl, hn, hs, hm0, hm1, q⟩ := sp2_of h
  have hS : SeqAt' K G M p [.int c, .int s] := lst_n hn
  refine ⟨G, M, Wk.refl, _, _, hS, rfl, ite2' (fun e => ?_) (fun e => ?_)⟩
  · refine ⟨G, M, Wk.refl, _, _, hS, rfl, hm0, ?_⟩
    refine ⟨G, M, Wk.refl, _, _, hS, rfl, divW hm0 hm1 c, n, _, 0, hn, rfl, ?_⟩
    refine ⟨G, _, Wk.refl, ?_⟩
    exact ret0 (q _ _ _ (Int.emod_nonneg _ (by omega)) (Int.emod_lt_of_pos _ hm0) hs)
  · obtain ⟨s0, s1⟩ := hs
    have hs' : PoolOk ((s * 48271 + 11) % 2147483647) := ⟨Int.emod_nonneg _ (by decide), Int.emod_lt_of_pos _ (by decide)⟩
    refine ⟨G, M, Wk.refl, _, _, hS, rfl, mul_r (by decide) (by decide), (by show (0 : Int) < _; decide), n, _, 1, hn, rfl, ?_⟩
    have hn' : (M.set n (p, pool c ((s * 48271 + 11) % 2147483647)))[n]? = some (p, pool c ((s * 48271 + 11) % 2147483647)) := set_n hn
    have hS' : SeqAt' K G (M.set n (p, pool c ((s * 48271 + 11) % 2147483647))) p [.int c, .int ((s * 48271 + 11) % 2147483647)] := lst_n hn'
    refine ⟨G, _, Wk.refl, _, _, hS', rfl, _, _, hS', rfl, mul_l (by have := hs'.1; omega) (by have := hs'.2; omega), (by show (0 : Int) < _; decide), divW (by decide) (by decide) _, hm0, ?_⟩
    exact ret0 (q _ _ _ (Int.emod_nonneg _ (by omega)) (Int.emod_lt_of_pos _ hm0) hs')
theorem b01 (b : Bool) : -(2 ^ 64) < (if b then (1 : Int) else 0) ∧ (if b then (1 : Int) else 0) < 2 ^ 64 := by cases b <;> decide
end

section
variable {K : PySem.W.Frag} {vs : List V} {G : Hp} {M : Mem} {R : KR} {Z : KX}
theorem set_self {α : Type} {l : List α} {n : Nat} {x : α} (h : l[n]? = some x) : l.set n x = l := by
  apply List.ext_getElem? 
  intro i
  rw [List.getElem?_set]
  by_cases e : n = i
  · subst e
    rw [if_pos rfl, if_pos (List.getElem?_eq_some_iff.mp h).1, h]
  · rw [if_neg e]
theorem at_two {x y : V} {r : Int} (h0 : 0 ≤ r) (h1 : r < 2) : ∃ v, atI [x, y] r = some v ∧ (v = x ∨ v = y) := by
  have e : r = 0 ∨ r = 1 := by omega
  rcases e with rfl | rfl
  · exact ⟨x, rfl, .inl rfl⟩
  · exact ⟨y, rfl, .inr rfl⟩
theorem fr_set {n : Nat} {p : Addr} {o : HO} {x : Addr × HO} {t : Addr} (hn : M[n]? = some (p, o)) (h : Fr G M t) (e : x.1 = p := by rfl) : Fr G (M.set n x) t := by
  refine ⟨h.1, fun y hy => ?_⟩
  rcases List.mem_or_eq_of_mem_set hy with hy | rfl
  · exact h.2 y hy
  · rw [e]; exact h.2 _ (List.mem_of_getElem? hn)
theorem fr_unset {n : Nat} {p : Addr} {o : HO} {x : Addr × HO} {t : Addr} (hn : M[n]? = some (p, o)) (h : Fr G (M.set n x) t) (e : x.1 = p := by rfl) : Fr G M t := by
  have hl : n < M.length := (List.getElem?_eq_some_iff.mp hn).1
  refine ⟨h.1, fun y hy => ?_⟩
  obtain ⟨m, hm⟩ := List.getElem?_of_mem hy
  by_cases z : n = m
  · subst z
    rw [hn] at hm; cases hm
    have := h.2 x (List.mem_of_getElem? (List.getElem?_set_self hl))
    rw [e] at this; exact this
  · exact h.2 y (List.mem_of_getElem? (by rw [List.getElem?_set_ne z]; exact hm))
end

section
variable {K : PySem.W.Frag} {vs : List V} {G : Hp} {M : Mem} {R : KR} {Z : KX}
end

section
variable {K : PySem.W.Frag} {vs : List V} {G : Hp} {M : Mem} {R : KR} {Z : KX}
section
variable {α β : Type} {r : α → β → Prop}
theorem A2.len {as : List α} {bs : List β} (h : A2 r as bs) : as.length = bs.length := by
  induction h with
  | nil => rfl
  | cons _ _ ih => simp [ih]
theorem A2.app {as as' : List α} {bs bs' : List β} (h : A2 r as bs) (h' : A2 r as' bs') : A2 r (as ++ as') (bs ++ bs') := by
  induction h with
  | nil => exact h'
  | cons a _ ih => exact .cons a ih
theorem A2.rev {as : List α} {bs : List β} (h : A2 r as bs) : A2 r as.reverse bs.reverse := by
  induction h with
  | nil => exact .nil
  | cons a _ ih => rw [List.reverse_cons, List.reverse_cons]; exact ih.app (.cons a .nil)
theorem A2.get {as : List α} {bs : List β} (h : A2 r as bs) : ∀ {i : Nat} {b : β}, bs[i]? = some b → ∃ a, as[i]? = some a ∧ r a b := by
  induction h with
  | nil => intro i b e; simp at e
  | cons a _ ih =>
    intro i b e
    cases i with
    | zero => cases e; exact ⟨_, rfl, a⟩
    | succ i => exact ih e
theorem A2.get' {as : List α} {bs : List β} (h : A2 r as bs) : ∀ {i : Nat} {a : α}, as[i]? = some a → ∃ b, bs[i]? = some b ∧ r a b := by
  induction h with
  | nil => intro i b e; simp at e
  | cons a _ ih =>
    intro i b e
    cases i with
    | zero => cases e; exact ⟨_, rfl, a⟩
    | succ i => exact ih e
theorem A2.mono {r' : α → β → Prop} (m : ∀ a b, r a b → r' a b) {as : List α} {bs : List β} (h : A2 r as bs) : A2 r' as bs := by
  induction h with
  | nil => exact .nil
  | cons a _ ih => exact .cons (m _ _ a) ih
end
theorem drM_v {Mn : Mem} (hs : ∀ x, x ∈ Mn → x ∈ M) {v : V} {d : Dr} (h : DrM Mn v d) : DrV K G M v d := by
  cases d with
  | leaf n => exact h
  | row l => obtain ⟨b, rfl, h⟩ := h; exact ⟨b, rfl, .inl (hs _ h)⟩
theorem drM_sub {Mn Mm : Mem} (hs : ∀ x, x ∈ Mn → x ∈ Mm) {v : V} {d : Dr} (h : DrM Mn v d) : DrM Mm v d := by
  cases d with
  | leaf n => exact h
  | row l => obtain ⟨b, rfl, h⟩ := h; exact ⟨b, rfl, hs _ h⟩
theorem dp_kn_inv {v : V} {k : Kn} (h : Dp K G v (knD k)) : ∃ t, v = .ref t ∧ SqT K G t [.str k.txt, .int k.n] := by
  obtain ⟨t, xs, rfl, s, a⟩ := dp_tup_inv h
  refine ⟨t, rfl, ?_⟩
  cases a with
  | cons a b =>
    cases b with
    | cons b c =>
      cases c
      cases a
      cases b
      exact s
theorem dp_kn {t : Addr} {k : Kn} (h : SqT K G t [.str k.txt, .int k.n]) : Dp K G (.ref t) (knD k) := .tup h (.cons (.str _) (.cons (.int _) .nil))
theorem shp_kns {n : Nat} (ks : List Kn) : Shp (n + 2) (.list (ks.map knD)) := .list fun d hd => by
  obtain ⟨p, _, rfl⟩ := List.mem_map.mp hd
  refine .tuple fun d hd => ?_
  rcases List.mem_cons.mp hd with rfl | hd
  · exact .str (by obtain ⟨b, n⟩ := p; cases b <;> (show PyData.strOk _ = true; first | exact (by decide +kernel : PyData.strOk ("leaf" : Str) = true) | exact (by decide +kernel : PyData.strOk ("shuffle" : Str) = true)))
  · rcases List.mem_cons.mp hd with rfl | hd
    · exact .int
    · cases hd
theorem txt_leaf (k : Kn) : decide ((V.str k.txt) = (.str "leaf")) = k.leaf := by
  obtain ⟨b, n⟩ := k
  cases b
  · exact decide_eq_false (by intro h; injection h with h; exact absurd (show ("shuffle" : Str) = "leaf" from h) (by decide))
  · exact decide_eq_true rfl
/-! sizes -/
theorem fac_pos : ∀ n, 0 < fac n
  | 0 => by decide
  | n + 1 => Nat.mul_pos (by omega) (fac_pos n)
theorem fac_mono : ∀ {m n : Nat}, m ≤ n → fac m ≤ fac n := by
  intro m n h
  induction n with
  | zero => have : m = 0 := by omega
            subst this; exact Nat.le_refl _
  | succ n ih =>
    by_cases e : m = n + 1
    · subst e; exact Nat.le_refl _
    · have h1 := ih (by omega)
      show fac m ≤ (n + 1) * fac n
      have : 1 * fac n ≤ (n + 1) * fac n := Nat.mul_le_mul_right _ (by omega)
      omega
theorem fac_64 : fac 64 < 2 ^ 300 := by decide +kernel
theorem manyK_pos (k : Kn) : 0 < manyK k := by
  unfold manyK; split
  · exact Nat.pow_pos (by decide)
  · exact fac_pos _
theorem manyK_lt {k : Kn} (h : KnOk k) : manyK k < 2 ^ 300 := by
  unfold manyK; split
  · exact Nat.pow_lt_pow_right (by decide) (by have := h.1; omega)
  · exact Nat.lt_of_le_of_lt (fac_mono h.1) fac_64
theorem prK_pos : ∀ ks, 0 < prK ks
  | [] => by decide
  | k :: ks => Nat.mul_pos (manyK_pos k) (prK_pos ks)
theorem prK_lt : ∀ ks : List Kn, (∀ k, k ∈ ks → KnOk k) → prK ks < 2 ^ (300 * ks.length + 1)
  | [], _ => by decide
  | k :: ks, h => by
    have h1 := manyK_lt (h k List.mem_cons_self)
    have h2 := prK_lt ks fun q hq => h q (List.mem_cons_of_mem _ hq)
    show manyK k * prK ks < _
    rw [List.length_cons, show 300 * (ks.length + 1) + 1 = 300 + (300 * ks.length + 1) by omega, Nat.pow_add]
    exact Nat.mul_lt_mul'' h1 h2
theorem prK_snoc (ks : List Kn) (k : Kn) : prK (ks ++ [k]) = prK ks * manyK k := by
  induction ks with
  | nil => simp [prK]
  | cons a ks ih => show manyK a * prK (ks ++ [k]) = manyK a * prK ks * manyK k; rw [ih, Nat.mul_assoc]
theorem prK_take_le (ks : List Kn) (i : Nat) (h : ∀ k, k ∈ ks → KnOk k) : ∀ k, k ∈ ks.take i → KnOk k := fun k hk => h k (List.mem_of_mem_take hk)
theorem take_succ' {α : Type} {l : List α} {i : Nat} {x : α} (h : l[i]? = some x) : l.take (i + 1) = l.take i ++ [x] := by
  rw [List.take_succ, h]; rfl
end

section
variable {K : PySem.W.Frag} {vs : List V} {G : Hp} {M : Mem} {R : KR} {Z : KX}
theorem pf_leaves (h : S_leaves K vs G M R Z) : rd_leaves K (ends R Z) (sta 1 vs) G M := by
  obtain ⟨_, rfl, n, rfl, hn, q⟩ := sp1_of h
  refine ⟨G, M, Wk.refl, ⟨by omega, by omega, by decide⟩, ret0 ?_⟩
  have e : (1 : Int) * 2 ^ (n : Int).toNat = ((2 ^ n : Nat) : Int) := by simp
  show R (.int ((1 : Int) * 2 ^ (n : Int).toNat)) G M
  rw [e]; exact q
theorem pf_many_of (h : S_many_of K vs G M R Z) : rd_many_of K (ends R Z) (sta 3 vs) G M := by
  obtain ⟨_, rfl, k, hd, hk, q⟩ := sp1_of h
  obtain ⟨t, rfl, ht⟩ := dp_kn_inv hd
  have hk1 := hk
  refine ⟨G, M, Wk.refl, _, _, tup_g ht, rfl, ?_⟩
  show if decide (V.str k.txt = .str "leaf") = true then _ else _
  rw [txt_leaf]
  refine ite2' (fun e => ?_) (fun e => ?_)
  · refine ⟨G, M, Wk.refl, _, _, tup_g ht, rfl, k.n, rfl, by omega, ret0 ?_⟩
    unfold manyK at q; rw [if_pos e] at q; exact q
  · have hm : manyK k = fac k.n := by unfold manyK; rw [if_neg (by rw [e]; decide)]
    rw [hm] at q
    refine ⟨G, M, Wk.refl, ?_⟩
    refine ⟨G, M, Wk.refl, _, _, tup_g ht, rfl, ⟨by omega, by omega⟩, fun i σ G' M' => ∃ y2, σ = [some (.ref t), some (.int (fac i)), y2] ∧ G' = G ∧ M' = M, ⟨none, rfl, rfl, rfl⟩, fun _ _ _ _ _ _ => trivial, ?_, ?_⟩
    · rintro i σ G' M' hi ⟨y2, rfl, rfl, rfl⟩
      have hi : i < ((k.n : Int) + 1 - 1).toNat := hi
      refine ⟨_, _, Wk.refl, mul_r (by omega) (by omega), _, _, Wk.refl, some (.int (1 + (i : Int))), ?_, rfl, rfl⟩
      have e2 : (fac i : Int) * (1 + (i : Int)) = ((fac (i + 1) : Nat) : Int) := by
        show _ = (((i + 1) * fac i : Nat) : Int)
        rw [Int.natCast_mul, Int.mul_comm]; congr 1; omega
      show [some (V.ref t), some (.int ((fac i : Int) * (1 + (i : Int)))), _] = _
      rw [e2]
    · rintro σ G' M' ⟨y2, rfl, rfl, rfl⟩
      have e3 : ((k.n : Int) + 1 - 1).toNat = k.n := by omega
      refine ⟨_, _, Wk.refl, ret0 ?_⟩
      show R (.int (fac ((k.n : Int) + 1 - 1).toNat)) _ _
      rw [e3]; exact q
theorem natsV_rev (l : List Nat) : (natsV l).reverse = natsV l.reverse := by unfold natsV; rw [List.map_reverse]
theorem lat_app {Mn : Mem} {a : Addr} {xs : List V} (h : LstAt K G M a xs) : LstAt K G (Mn ++ M) a xs := by
  rcases h with h | h
  · exact .inl (List.mem_append_right _ h)
  · exact .inr h
theorem rev_get {α : Type} {l : List α} {i : Nat} (h : i < l.length) : l.reverse[i]? = l[l.length - 1 - i]? := by
  rw [List.getElem?_reverse h]
theorem drop_get {α : Type} {l : List α} {i : Nat} {x : α} (h : l[i]? = some x) : l.drop i = x :: l.drop (i + 1) := by
  obtain ⟨hi, rfl⟩ := List.getElem?_eq_some_iff.mp h
  exact List.drop_eq_getElem_cons hi
end

section
variable {K : PySem.W.Frag} {vs : List V} {G : Hp} {M : Mem} {R : KR} {Z : KX}
theorem natsV_get {l : List Nat} {i v : Nat} (h : l[i]? = some v) : (natsV l)[i]? = some (.int (v : Int)) := by
  unfold natsV; rw [List.getElem?_map, h]; rfl
theorem natsV_len (l : List Nat) : (natsV l).length = l.length := by unfold natsV; rw [List.length_map]
theorem atI_nats {l : List Nat} {i v : Nat} (h : l[i]? = some v) : atI (natsV l) (i : Int) = some (.int (v : Int)) := atI_nat (natsV_get h)
theorem at_mem {l : List V} {r : Int} (h0 : 0 ≤ r) (h1 : r < l.length) : ∃ v, atI l r = some v ∧ v ∈ l := by
  obtain ⟨j, rfl⟩ := Int.eq_ofNat_of_zero_le h0
  have hj : l[j]? = some l[j] := List.getElem?_eq_getElem (by omega)
  exact ⟨_, atI_nat hj, List.mem_of_getElem? hj⟩
theorem dpall_rep {v : V} {d : PyData} (h : Dp K G v d) : ∀ n, DpAll K G (List.replicate n v) (List.replicate n d)
  | 0 => .nil
  | n + 1 => .cons h (dpall_rep h n)
theorem dpall_app2 : ∀ {vs ws : List V} {ds es : List PyData}, DpAll K G vs ds → DpAll K G ws es → DpAll K G (vs ++ ws) (ds ++ es)
  | _, _, _, _, .nil, h => h
  | _, _, _, _, .cons a b, h => .cons a (dpall_app2 b h)
theorem dpall_flat {us : List V} {ds : List PyData} (h : DpAll K G us ds) : ∀ n, DpAll K G (List.replicate n us).flatten (List.replicate n ds).flatten
  | 0 => .nil
  | n + 1 => dpall_app2 h (dpall_flat h n)
theorem ex_lat {G' : Hp} {M' : Mem} {a : Addr} {us : List V} (x : Ex G G') (hm : ∀ x, x ∈ M → x ∈ M') (h : LstAt K G M a us) : LstAt K G' M' a us := by
  rcases h with h | h
  · exact .inl (hm _ h)
  · exact .inr (ex_l x h)
theorem wi_hi {i lo hi : Int} (h : hi < i) : withinV (.int i) lo hi = false := by
  show (decide (lo ≤ i) && decide (i ≤ hi)) = false
  rw [decide_eq_false (p := i ≤ hi) (by omega), Bool.and_false]
theorem wi_lo {i lo hi : Int} (h : i < lo) : withinV (.int i) lo hi = false := by
  show (decide (lo ≤ i) && decide (i ≤ hi)) = false
  rw [decide_eq_false (p := lo ≤ i) (by omega), Bool.false_and]
theorem wi_in {i lo hi : Int} (h : lo ≤ i) (h2 : i ≤ hi) : withinV (.int i) lo hi = true := by
  show (decide (lo ≤ i) && decide (i ≤ hi)) = true
  rw [decide_eq_true h, decide_eq_true h2]; rfl
theorem Wk.sub' {G : Hp} {M M' : Mem} (h : List.Sublist M' M) : Wk G M G M' := fun H hv => ⟨hv.ex, fun x hx => hv.mu x (h.subset hx), hv.nd.sublist (h.map _), fun x hx => hv.dj x (h.subset hx)⟩
end

section
theorem swap_len {l : List Nat} {i j : Nat} : (swapL l i j).length = l.length := by unfold swapL; simp
theorem getD_lt {l : List Nat} {i : Nat} (h : i < l.length) : l.getD i 0 = l[i] := by rw [List.getD_eq_getElem?_getD, List.getElem?_eq_getElem h]; rfl
theorem getD_set {l : List Nat} {i j v : Nat} (h : i < l.length) : (l.set i v).getD j 0 = if j = i then v else l.getD j 0 := by
  rw [List.getD_eq_getElem?_getD, List.getElem?_set]
  by_cases e : i = j
  · subst e; simp [h]
  · rw [if_neg e, if_neg (Ne.symm e), List.getD_eq_getElem?_getD]
theorem swap_getD {l : List Nat} {i j k : Nat} (hi : i < l.length) (hj : j < l.length) : (swapL l i j).getD k 0 = if k = j then l.getD i 0 else if k = i then l.getD j 0 else l.getD k 0 := by
  unfold swapL
  rw [getD_set (by simpa using hj), getD_set hi]
theorem ext_getD {l m : List Nat} (hl : l.length = m.length) (h : ∀ i, i < l.length → l.getD i 0 = m.getD i 0) : l = m := by
  apply List.ext_getElem hl
  intro i h1 h2
  have := h i h1
  rwa [getD_lt h1, getD_lt h2] at this
theorem nodup_getD {l : List Nat} : l.Nodup ↔ ∀ i j, i < l.length → j < l.length → l.getD i 0 = l.getD j 0 → i = j := by
  constructor
  · intro h i j hi hj e
    rw [getD_lt hi, getD_lt hj] at e
    exact (List.getElem_inj h).mp e
  · intro h
    rw [List.nodup_iff_pairwise_ne, List.pairwise_iff_getElem]
    intro i j hi hj hij e
    have := h i j hi hj (by rw [getD_lt hi, getD_lt hj]; exact e)
    omega
theorem mem_getD {l : List Nat} {x : Nat} : x ∈ l ↔ ∃ i, i < l.length ∧ l.getD i 0 = x := by
  constructor
  · intro h
    obtain ⟨i, hi, e⟩ := List.getElem_of_mem h
    exact ⟨i, hi, by rw [getD_lt hi]; exact e⟩
  · rintro ⟨i, hi, e⟩
    rw [getD_lt hi] at e
    rw [← e]; exact List.getElem_mem hi
theorem swap_mem {l : List Nat} {i j x : Nat} (hi : i < l.length) (hj : j < l.length) : x ∈ swapL l i j ↔ x ∈ l := by
  rw [mem_getD, mem_getD, swap_len]
  constructor
  · rintro ⟨k, hk, e⟩
    rw [swap_getD hi hj] at e
    by_cases e1 : k = j
    · rw [if_pos e1] at e; exact ⟨i, hi, e⟩
    · rw [if_neg e1] at e
      by_cases e2 : k = i
      · rw [if_pos e2] at e; exact ⟨j, hj, e⟩
      · rw [if_neg e2] at e; exact ⟨k, hk, e⟩
  · rintro ⟨k, hk, e⟩
    by_cases e1 : k = j
    · refine ⟨i, hi, ?_⟩
      rw [swap_getD hi hj, if_pos rfl]
      by_cases e3 : i = j
      · rw [if_pos e3, e3, ← e1, e]
      · rw [if_neg e3, ← e1, e]
    · by_cases e2 : k = i
      · exact ⟨j, hj, by rw [swap_getD hi hj, if_pos rfl, ← e2, e]⟩
      · exact ⟨k, hk, by rw [swap_getD hi hj, if_neg e1, if_neg e2, e]⟩
theorem swap_nodup {l : List Nat} {i j : Nat} (hi : i < l.length) (hj : j < l.length) (h : l.Nodup) : (swapL l i j).Nodup := by
  rw [nodup_getD] at h ⊢
  rw [swap_len]
  intro a b ha hb e
  have pi : ∀ k, (swapL l i j).getD k 0 = l.getD (if k = j then i else if k = i then j else k) 0 := fun k => by
    rw [swap_getD hi hj]; split <;> first | rfl | (split <;> rfl)
  rw [pi, pi] at e
  have lt : ∀ k, k < l.length → (if k = j then i else if k = i then j else k) < l.length := fun k hk => by split <;> first | assumption | (split <;> assumption)
  have q := h _ _ (lt a ha) (lt b hb) e
  split at q <;> split at q <;> first | omega | (split at q <;> first | omega | (split at q <;> omega))
theorem OrdOk.swap {n : Nat} {o : List Nat} {i j : Nat} (h : OrdOk n o) (hi : i < n) (hj : j < n) : OrdOk n (swapL o i j) :=
  have hi' : i < o.length := by rw [h.len]; exact hi
  have hj' : j < o.length := by rw [h.len]; exact hj
  ⟨by rw [swap_len]; exact h.len, swap_nodup hi' hj' h.nd, fun x hx => h.lt x ((swap_mem hi' hj').mp hx)⟩
theorem ord_range (n : Nat) : OrdOk n (List.range n) := ⟨List.length_range, List.nodup_range, fun x hx => List.mem_range.mp hx⟩
theorem nodup_lt_len : ∀ (m : Nat) (l : List Nat), l.Nodup → (∀ x, x ∈ l → x < m) → l.length ≤ m
  | 0, l, _, h => by
    cases l with
    | nil => exact Nat.le_refl _
    | cons x l => exact absurd (h x List.mem_cons_self) (Nat.not_lt_zero _)
  | m + 1, l, hn, h => by
    by_cases hm : m ∈ l
    · have e := List.length_erase_of_mem hm
      have ih := nodup_lt_len m (l.erase m) (hn.erase m) fun x hx => by
        have q := hn.mem_erase_iff.mp hx
        have := h x q.2
        have := q.1
        omega
      omega
    · have ih := nodup_lt_len m l hn fun x hx => by
        have := h x hx
        have : x ≠ m := fun z => hm (z ▸ hx)
        omega
      omega
/-- a list of different numbers below n, n long, has them all -/
theorem ord_has {n : Nat} {o : List Nat} (h : OrdOk n o) (x : Nat) (hx : x < n) : x ∈ o := by
  apply Classical.byContradiction
  intro hm
  have := nodup_lt_len n (x :: o) (List.nodup_cons.mpr ⟨hm, h.nd⟩) fun y hy => by
    rcases List.mem_cons.mp hy with rfl | hy
    · exact hx
    · exact h.lt y hy
  rw [List.length_cons, h.len] at this
  omega
/-- the walk keeps what is behind -/
theorem walkO_ok {n : Nat} {r : Nat → Nat} (hr : ∀ i, i < n → r i ≤ i) : ∀ (m : Nat) (o : List Nat), m < n → OrdOk n o → OrdOk n (walkO r m o) ∧ ∀ j, m < j → (walkO r m o).getD j 0 = o.getD j 0
  | 0, o, _, h => ⟨h, fun _ _ => rfl⟩
  | m + 1, o, hm, h => by
    have r1 := hr (m + 1) hm
    have h1 := h.swap (i := m + 1) (j := r (m + 1)) hm (by omega)
    obtain ⟨a, b⟩ := walkO_ok hr m (swapL o (m + 1) (r (m + 1))) (by omega) h1
    refine ⟨a, fun j hj => ?_⟩
    show (walkO r m (swapL o (m + 1) (r (m + 1)))).getD j 0 = _
    rw [b j (by omega), swap_getD (by rw [h.len]; omega) (by rw [h.len]; omega), if_neg (by omega), if_neg (by omega)]
theorem rowok_getD {l : List Nat} (h : RowOk l) : ∀ i, i < l.length → l.getD i 0 ≤ i := fun i hi => h i _ (by rw [getD_lt hi, List.getElem?_eq_getElem hi])
theorem order_ok {l : List Nat} (h : RowOk l) : OrdOk l.length (orderOf l) := by
  unfold orderOf
  by_cases e : l.length = 0
  · rw [e]; exact ord_range 0
  · exact (walkO_ok (rowok_getD h) _ _ (by omega) (ord_range _)).1
theorem order_len {l : List Nat} (h : RowOk l) : (orderOf l).length = l.length := (order_ok h).len
theorem idx_of_nodup {l : List Nat} {i : Nat} (h : l.Nodup) (hi : i < l.length) : l.idxOf (l.getD i 0) = i := by
  have hm : l.getD i 0 ∈ l := mem_getD.mpr ⟨i, hi, rfl⟩
  have hlt : l.idxOf (l.getD i 0) < l.length := List.idxOf_lt_length_iff.mpr hm
  have e : l[l.idxOf (l.getD i 0)] = l.getD i 0 := List.getElem_idxOf hlt
  exact nodup_getD.mp h _ _ hlt hi (by rw [getD_lt hlt]; exact e)
theorem getD_idx {l : List Nat} {x : Nat} (h : x ∈ l) : l.idxOf x < l.length ∧ l.getD (l.idxOf x) 0 = x := by
  have hlt : l.idxOf x < l.length := List.idxOf_lt_length_iff.mpr h
  exact ⟨hlt, by rw [getD_lt hlt]; exact List.getElem_idxOf hlt⟩
/-- the row of the order of a row -/
theorem walkR_of {n : Nat} {r : Nat → Nat} (hr : ∀ i, i < n → r i ≤ i) : ∀ (m : Nat) (o row : List Nat), m < n → OrdOk n o → row.length = n →
    (walkR (fun i => (walkO r m o).getD i 0) m o row).length = n ∧ ∀ j, j < n → (walkR (fun i => (walkO r m o).getD i 0) m o row).getD j 0 = if 1 ≤ j ∧ j ≤ m then r j else row.getD j 0
  | 0, o, row, hm, h, hl => ⟨hl, fun j hj => by rw [if_neg (by omega)]; rfl⟩
  | m + 1, o, row, hm, h, hl => by
    have r1 := hr (m + 1) hm
    have h1 := h.swap (i := m + 1) (j := r (m + 1)) hm (by omega)
    obtain ⟨a, b⟩ := walkO_ok hr m _ (by omega : m < n) h1
    have e1 : (walkO r (m + 1) o).getD (m + 1) 0 = o.getD (r (m + 1)) 0 := by
      show (walkO r m (swapL o (m + 1) (r (m + 1)))).getD (m + 1) 0 = _
      rw [b (m + 1) (by omega), swap_getD (by rw [h.len]; omega) (by rw [h.len]; omega)]
      by_cases z : m + 1 = r (m + 1)
      · rw [if_pos z, ← z]
      · rw [if_neg z, if_pos rfl]
    have e2 : o.idxOf ((walkO r (m + 1) o).getD (m + 1) 0) = r (m + 1) := by
      rw [e1]; exact idx_of_nodup h.nd (by rw [h.len]; omega)
    obtain ⟨c, d⟩ := walkR_of hr m (swapL o (m + 1) (r (m + 1))) (row.set (m + 1) (r (m + 1))) (by omega) h1 (by simpa using hl)
    have e3 : walkR (fun i => (walkO r (m + 1) o).getD i 0) (m + 1) o row = walkR (fun i => (walkO r m (swapL o (m + 1) (r (m + 1)))).getD i 0) m (swapL o (m + 1) (r (m + 1))) (row.set (m + 1) (r (m + 1))) := by
      show walkR (fun i => (walkO r (m + 1) o).getD i 0) m (swapL o (m + 1) (o.idxOf ((walkO r (m + 1) o).getD (m + 1) 0))) (row.set (m + 1) (o.idxOf ((walkO r (m + 1) o).getD (m + 1) 0))) = _
      rw [e2]; rfl
    rw [e3]
    refine ⟨c, fun j hj => ?_⟩
    rw [d j hj, getD_set (by omega)]
    by_cases z : j = m + 1
    · rw [if_neg (by omega), if_pos z, if_pos (by omega), z]
    · by_cases y : 1 ≤ j ∧ j ≤ m
      · rw [if_pos y, if_pos (by omega)]
      · rw [if_neg y, if_neg z, if_neg (by omega)]
theorem row_order {l : List Nat} (h : RowOk l) : rowOf (orderOf l) = l := by
  by_cases e : l.length = 0
  · have : l = [] := List.length_eq_zero_iff.mp e
    subst this; rfl
  have hr := rowok_getD h
  obtain ⟨a, b⟩ := walkR_of hr (l.length - 1) (List.range l.length) (List.replicate l.length 0) (by omega) (ord_range _) List.length_replicate
  have e1 : rowOf (orderOf l) = walkR (fun i => (walkO (fun i => l.getD i 0) (l.length - 1) (List.range l.length)).getD i 0) (l.length - 1) (List.range l.length) (List.replicate l.length 0) := by
    unfold rowOf
    rw [order_len h]; rfl
  rw [e1]
  refine ext_getD a fun i hi => ?_
  rw [a] at hi
  rw [b i hi]
  by_cases z : 1 ≤ i ∧ i ≤ l.length - 1
  · rw [if_pos z]
  · rw [if_neg z]
    have hi0 : i = 0 := by omega
    have := hr 0 (by omega)
    subst hi0
    rw [getD_lt (by simp; omega)]
    simp
    simp at this
    omega
/-- the order of the row of an order -/
theorem left_idx {n m : Nat} {o left : List Nat} (ho : OrdOk n o) (hl : OrdOk n left) (hm : m < n) (hj : ∀ j, m < j → j < n → left.getD j 0 = o.getD j 0) : left.idxOf (o.getD m 0) ≤ m ∧ left.getD (left.idxOf (o.getD m 0)) 0 = o.getD m 0 := by
  have hin : o.getD m 0 ∈ left := ord_has hl _ (ho.lt _ (mem_getD.mpr ⟨m, by rw [ho.len]; exact hm, rfl⟩))
  obtain ⟨a, b⟩ := getD_idx hin
  refine ⟨Nat.not_lt.mp fun z => ?_, b⟩
  rw [hl.len] at a
  have e := hj _ z a
  rw [b] at e
  have := nodup_getD.mp ho.nd m _ (by rw [ho.len]; exact hm) (by rw [ho.len]; exact a) e
  omega
theorem walkR_row {n : Nat} {o : List Nat} (ho : OrdOk n o) : ∀ (m : Nat) (left row : List Nat), m < n → OrdOk n left → row.length = n → (∀ j, m < j → j < n → left.getD j 0 = o.getD j 0) →
    (walkR (fun i => o.getD i 0) m left row).length = n ∧ (∀ j, m < j → (walkR (fun i => o.getD i 0) m left row).getD j 0 = row.getD j 0) ∧ ((∀ j, j < n → row.getD j 0 ≤ j) → ∀ j, j < n → (walkR (fun i => o.getD i 0) m left row).getD j 0 ≤ j) ∧
    ∀ r : Nat → Nat, (∀ j, j < n → r j = (walkR (fun i => o.getD i 0) m left row).getD j 0) → OrdOk n (walkO r m left) ∧ ∀ j, 1 ≤ j → j < n → (walkO r m left).getD j 0 = o.getD j 0
  | 0, left, row, hm, hl, hr, hj => ⟨hr, fun _ _ => rfl, fun h => h, fun r _ => ⟨hl, fun j h1 h2 => hj j h1 h2⟩⟩
  | m + 1, left, row, hm, hl, hr, hj => by
    obtain ⟨i1, i2⟩ := left_idx ho hl hm hj
    have hs := hl.swap (i := m + 1) (j := left.idxOf (o.getD (m + 1) 0)) hm (by omega)
    obtain ⟨a, b, c, d⟩ := walkR_row ho m (swapL left (m + 1) (left.idxOf (o.getD (m + 1) 0))) (row.set (m + 1) (left.idxOf (o.getD (m + 1) 0))) (by omega) hs (by simpa using hr) (fun j h1 h2 => by
      rw [swap_getD (by rw [hl.len]; omega) (by rw [hl.len]; omega)]
      by_cases z : j = left.idxOf (o.getD (m + 1) 0)
      · have : j = m + 1 := by omega
        rw [if_pos z]
        rw [← z] at i2
        subst this; exact i2
      · rw [if_neg z]
        by_cases y : j = m + 1
        · rw [if_pos y, i2, y]
        · rw [if_neg y]; exact hj j (by omega) h2)
    refine ⟨a, fun j h1 => ?_, fun h => c fun j h2 => ?_, fun r hr2 => ?_⟩
    · show (walkR (fun i => o.getD i 0) m _ _).getD j 0 = _
      rw [b j (by omega), getD_set (by omega), if_neg (by omega)]
    · rw [getD_set (by omega)]
      by_cases y : j = m + 1
      · rw [if_pos y, y]; exact i1
      · rw [if_neg y]; exact h j h2
    · have e : r (m + 1) = left.idxOf (o.getD (m + 1) 0) := by
        rw [hr2 (m + 1) hm]
        show (walkR (fun i => o.getD i 0) m _ _).getD (m + 1) 0 = _
        rw [b (m + 1) (by omega), getD_set (by omega), if_pos rfl]
      show OrdOk n (walkO r m (swapL left (m + 1) (r (m + 1)))) ∧ ∀ j, 1 ≤ j → j < n → (walkO r m (swapL left (m + 1) (r (m + 1)))).getD j 0 = _
      rw [e]
      exact d r hr2
theorem row_ok {o : List Nat} (h : OrdOk o.length o) : (rowOf o).length = o.length ∧ RowOk (rowOf o) := by
  by_cases e : o.length = 0
  · have : o = [] := List.length_eq_zero_iff.mp e
    subst this
    exact ⟨rfl, fun i v q => by simp [rowOf, walkR] at q⟩
  obtain ⟨a, b, c, d⟩ := walkR_row h (o.length - 1) (List.range o.length) (List.replicate o.length 0) (by omega) (ord_range _) List.length_replicate (fun j h1 h2 => by omega)
  refine ⟨a, fun i v q => ?_⟩
  obtain ⟨hi, ev⟩ := List.getElem?_eq_some_iff.mp q
  have hi2 : i < o.length := by rw [← a]; exact hi
  have := c (fun j hj => by rw [getD_lt (by simpa using hj)]; simp) i hi2
  rw [← ev, ← getD_lt hi]; exact this
theorem order_row {o : List Nat} (h : OrdOk o.length o) : orderOf (rowOf o) = o := by
  by_cases e : o.length = 0
  · have : o = [] := List.length_eq_zero_iff.mp e
    subst this; rfl
  obtain ⟨a, b, c, d⟩ := walkR_row h (o.length - 1) (List.range o.length) (List.replicate o.length 0) (by omega) (ord_range _) List.length_replicate (fun j h1 h2 => by omega)
  obtain ⟨x, y⟩ := d (fun i => (rowOf o).getD i 0) (fun _ _ => rfl)
  have e1 : orderOf (rowOf o) = walkO (fun i => (rowOf o).getD i 0) (o.length - 1) (List.range o.length) := by
    unfold orderOf
    rw [(row_ok h).1]
  rw [e1]
  refine ext_getD x.len fun i hi => ?_
  rw [x.len] at hi
  by_cases z : 1 ≤ i
  · exact y i z hi
  have hi0 : i = 0 := by omega
  subst hi0
  -- the number that is left
  have hm := ord_has x _ (h.lt _ (mem_getD.mpr ⟨0, hi, rfl⟩))
  obtain ⟨j, hj, ej⟩ := mem_getD.mp hm
  by_cases z : j = 0
  · subst z; exact ej
  · rw [x.len] at hj
    rw [y j (by omega) hj] at ej
    have := nodup_getD.mp h.nd j 0 hj hi ej
    omega
end

section
variable {K : PySem.W.Frag} {vs : List V} {G : Hp} {M : Mem} {R : KR} {Z : KX}
theorem asg_C {lo c v : Int} {n i : Nat} {g : KG} {σ : St} {R : St → Hp → Mem → Prop} (e : lo + (i : Nat) * c = v) (q : g.val (.int v) σ G M R) : asg g ((srcC lo c n).get i) σ G M R := by subst e; exact q
theorem asg_R {lo v : Int} {n i : Nat} {g : KG} {σ : St} {R : St → Hp → Mem → Prop} (e : lo + (i : Nat) = v) (q : g.val (.int v) σ G M R) : asg g ((srcR lo n).get i) σ G M R := by subst e; exact q
theorem rgV_nats (n : Nat) : rgV 0 (n : Int) = natsV (List.range n) := by
  unfold rgV natsV
  rw [show ((n : Int) - 0).toNat = n by omega]
  refine List.map_congr_left fun i _ => ?_
  rw [Int.zero_add]
theorem atI_natD {l : List Nat} {i : Nat} (h : i < l.length) : atI (natsV l) (i : Int) = some (.int (l.getD i 0 : Nat)) := atI_nats (by rw [getD_lt h, List.getElem?_eq_getElem h])
theorem ixN_nat {n i : Nat} (h : i < n) : ixN n (i : Int) = some i := by rw [ixN_int (by omega) (by omega)]; rfl
theorem natsV_set {l : List Nat} {i v : Nat} : (natsV l).set i (.int (v : Int)) = natsV (l.set i v) := by unfold natsV; rw [List.map_set]
theorem tyk_cons {x : V} {T : PT} {y : Addr × HO} (h : TyK K G M x T) : TyK K G (y :: M) x T := fun H hv => h H (Wk.drop0 H hv)
theorem all_snoc (bs : List Bool) (b : Bool) : (bs ++ [b]).all id = (bs.all id && b) := by simp
theorem within_int {x : V} {lo hi : Int} (h : withinV x lo hi = true) : ∃ i, x = .int i ∧ lo ≤ i ∧ i ≤ hi := by
  cases x with
  | int i =>
    have h : (decide (lo ≤ i) && decide (i ≤ hi)) = true := h
    rw [Bool.and_eq_true] at h
    exact ⟨i, rfl, of_decide_eq_true h.1, of_decide_eq_true h.2⟩
  | _ => cases h
theorem map_intOf {xs : List V} {hi : Int} (h : xs.all (fun x => withinV x 0 hi) = true) : xs = (xs.map intOf).map V.int := by
  rw [List.map_map]
  have : ∀ x, x ∈ xs → x = (V.int ∘ intOf) x := fun x hx => by
    obtain ⟨i, rfl, _⟩ := within_int (List.all_eq_true.mp h x hx)
    rfl
  exact (List.map_id xs).symm.trans (List.map_congr_left this)
theorem ints_ty {l : List Nat} : ItemsTy K G M (natsV l) := fun x hx => by
  obtain ⟨n, _, rfl⟩ := List.mem_map.mp hx
  exact ⟨.int, ty_int, rfl⟩
theorem nodup_natsV {l : List Nat} : ((natsV l).map intOf).Nodup ↔ l.Nodup := by
  unfold natsV
  rw [List.map_map]
  constructor
  · intro h
    exact (List.pairwise_map.mp h).imp fun {a b} (z : ((a : Nat) : Int) ≠ (b : Nat)) (e : a = b) => z (by rw [e])
  · intro h
    exact List.pairwise_map.mpr (h.imp fun {a b} z (e : ((a : Nat) : Int) = (b : Nat)) => z (by omega))
theorem orderB_nats {o : List Nat} (h : OrdOk o.length o) (h1 : 1 ≤ o.length) (h2 : o.length ≤ 64) : orderB (natsV o) = true := by
  unfold orderB
  rw [natsV_len, decide_eq_true h1, decide_eq_true h2, decide_eq_true (nodup_natsV.mpr h.nd), List.all_eq_true.mpr]
  · rfl
  · intro x hx
    obtain ⟨n, hn, rfl⟩ := List.mem_map.mp hx
    have := h.lt n hn
    exact wi_in (by omega) (by omega)
theorem ordV_nats {a : Addr} {o : List Nat} (ha : LstAt K G M a (natsV o)) (h : OrdOk o.length o) (h1 : 1 ≤ o.length) (h2 : o.length ≤ 64) : ordV K G M (.ref a) true :=
  .inr ⟨a, _, rfl, ha, by rw [natsV_len]; omega, ints_ty, (orderB_nats h h1 h2).symm⟩
theorem natsV_flat (l : List Nat) : (natsV l).all flatV = true := List.all_eq_true.mpr fun x hx => by
  obtain ⟨n, _, rfl⟩ := List.mem_map.mp hx
  rfl
theorem idx_before {l : List Nat} {x m : Nat} (h : m < l.idxOf x) (hl : m < l.length) : l.getD m 0 ≠ x := fun e => by
  have := List.not_of_lt_findIdx (p := fun y => y == x) (xs := l) (i := m) h
  rw [getD_lt hl] at e
  rw [e] at this
  simp at this
theorem rep_zeros (n : Nat) : (List.replicate n [V.int 0]).flatten = natsV (List.replicate n 0) := by
  induction n with
  | zero => rfl
  | succ n ih => rw [List.replicate_succ, List.flatten_cons, ih]; rfl
end

section
variable {K : PySem.W.Frag} {vs : List V} {G : Hp} {M : Mem} {R : KR} {Z : KX}
theorem Fr.keys {M M' : Mem} {p : Addr} (h : Fr G M p) (e : M'.map (·.1) = M.map (·.1) := by rfl) : Fr G M' p := ⟨h.1, fun x hx z => by
  have : x.1 ∈ M'.map (·.1) := List.mem_map.mpr ⟨x, hx, rfl⟩
  rw [e] at this
  obtain ⟨y, hy, ey⟩ := List.mem_map.mp this
  exact h.2 y hy (ey.trans z)⟩
/-! ### cells that were just laid, frozen together -/
inductive Frs (G : Hp) (M : Mem) : Mem → Prop
  | nil : Frs G M []
  | cons {p : Addr} {o : HO} {Mx : Mem} : Fr G (Mx ++ M) p → Frs G M Mx → Frs G M ((p, o) :: Mx)
theorem Frs.key {Mx : Mem} (h : Frs G M Mx) : ∀ x, x ∈ Mx → G x.1 = none ∧ ∀ y, y ∈ M → y.1 ≠ x.1 := by
  induction h with
  | nil => intro x hx; cases hx
  | cons f _ ih =>
    intro x hx
    rcases List.mem_cons.mp hx with rfl | hx
    · exact ⟨f.1, fun y hy => f.2 y (List.mem_append.mpr (.inr hy))⟩
    · exact ih x hx
theorem Frs.upd {Mx : Mem} {p : Addr} {o : HO} (h : Frs G M Mx) (f : ∀ x, x ∈ Mx → x.1 ≠ p) : Frs (upd G p o) M Mx := by
  induction h with
  | nil => exact .nil
  | cons f1 _ ih => exact .cons ⟨by rw [upd_ne (f _ List.mem_cons_self)]; exact f1.1, f1.2⟩ (ih fun x hx => f x (List.mem_cons_of_mem _ hx))
theorem frz_pre {M : Mem} : ∀ {Mx : Mem} {G : Hp}, Frs G M Mx → ∃ G', Ex G G' ∧ (∀ x, x ∈ Mx → G' x.1 = some x.2) ∧ Wk G (Mx ++ M) G' M ∧ ∀ q, G q = none → (∀ x, x ∈ Mx → x.1 ≠ q) → G' q = none
  | [], G, _ => ⟨G, Ex.refl, fun _ h => (nomatch h), Wk.refl, fun _ h _ => h⟩
  | (p, o) :: Mx, G, h => by
    cases h with
    | cons f h =>
      have hp : ∀ x, x ∈ Mx → x.1 ≠ p := fun x hx => f.2 x (List.mem_append.mpr (.inl hx))
      obtain ⟨G', e, a, w, n⟩ := frz_pre (h.upd (o := o) hp)
      refine ⟨G', (Ex.new f).trans e, fun x hx => ?_, Wk.frz0.trans w, fun q hq hx => ?_⟩
      · rcases List.mem_cons.mp hx with rfl | hx
        · exact e p o upd_same
        · exact a x hx
      · exact n q (by rw [upd_ne (Ne.symm (hx (p, o) List.mem_cons_self))]; exact hq) fun x h2 => hx x (List.mem_cons_of_mem _ h2)
theorem Frs.more {Mx : Mem} {x : Addr × HO} (h : Frs G M Mx) (f : ∀ y, y ∈ Mx → x.1 ≠ y.1) : Frs G (x :: M) Mx := by
  induction h with
  | nil => exact .nil
  | @cons p o Mx f1 _ ih =>
    refine .cons ⟨f1.1, fun y hy => ?_⟩ (ih fun y hy => f y (List.mem_cons_of_mem _ hy))
    rcases List.mem_append.mp hy with hy | hy
    · exact f1.2 y (List.mem_append.mpr (.inl hy))
    · rcases List.mem_cons.mp hy with rfl | hy
      · exact f _ List.mem_cons_self
      · exact f1.2 y (List.mem_append.mpr (.inr hy))
/-- the same beneath one cell -/
theorem frz_pre1 {Mx : Mem} {s : Addr} {o : HO} (h : Frs G M Mx) (f : Fr G (Mx ++ M) s) : ∃ G', Ex G G' ∧ (∀ x, x ∈ Mx → G' x.1 = some x.2) ∧ Wk G ((s, o) :: (Mx ++ M)) G' ((s, o) :: M) ∧ Fr G' M s := by
  obtain ⟨G', a, b, c, d⟩ := frz_pre (h.more (x := (s, o)) fun y hy => Ne.symm (f.2 y (List.mem_append.mpr (.inl hy))))
  exact ⟨G', a, b, (Wk.perm List.perm_middle).trans c, d s f.1 fun x hx => f.2 x (List.mem_append.mpr (.inl hx)), fun x hx => f.2 x (List.mem_append.mpr (.inr hx))⟩
theorem kseq_wk {t u : KS} {D : Kd} {σ : St} {G G' : Hp} {M M' : Mem} (w : Wk G M G' M') (h : kSeq t u D σ G' M') : kSeq t u D σ G M := by
  obtain ⟨a, b, c, d⟩ := h
  exact ⟨a, b, w.trans c, d⟩
/-! ### things whose type is known -/
theorem ty_ex {G' : Hp} {x : V} {T : PT} (e : Ex G G') (h : ∀ M, TyK K G M x T) : ∀ M, TyK K G' M x T := fun M H hv => h M H (Wk.less e H hv)
theorem WOk.ex {G' : Hp} {w : V} (e : Ex G G') (h : WOk K G w) : WOk K G' w := by
  obtain ⟨S, h1, h2⟩ := h
  exact ⟨S, ty_ex e h1, h2⟩
theorem IOk.ex {G' : Hp} {w : V} (e : Ex G G') (h : IOk K G w) : IOk K G' w := by
  obtain ⟨S, h1, h2⟩ := h
  exact ⟨S, ty_ex e h1, h2⟩
theorem iok_int {i : Int} : IOk K G (.int i) := ⟨.int, fun _ => ty_int, rfl⟩
theorem iok_non : IOk K G .non := ⟨.non, fun _ => ty_non, rfl⟩
theorem iok_bl {b : Bool} : IOk K G (.bl b) := ⟨.bool, fun _ => ty_bl, rfl⟩
theorem iok_str {b : Str} : IOk K G (.str b) := ⟨.str, fun _ => ty_str, rfl⟩
theorem iok_tup {a : Addr} {xs : List V} (h : SqT K G a xs) : IOk K G (.ref a) := ⟨.tuple, fun _ => ty_tup h, rfl⟩
theorem iok_lst {a : Addr} {xs : List V} (h : SqL K G a xs) : IOk K G (.ref a) := ⟨.list, fun _ => ty_lst (.inr h), rfl⟩
theorem iok_dict {a : Addr} {xs : List (Key × V)} (h : G a = some (.dK xs)) : IOk K G (.ref a) := ⟨.dict, fun _ => ty_dict (.inr h), rfl⟩
theorem wok_str {b : Str} : WOk K G (.str b) := ⟨.str, fun _ => ty_str, rfl⟩
def boolsD (l : List Bool) : PyData := .list (l.map .bool)
theorem dp_bools : ∀ l : List Bool, DpAll K G (l.map V.bl) (l.map PyData.bool)
  | [] => .nil
  | b :: l => .cons (.bl b) (dp_bools l)
theorem shp_bools (l : List Bool) : Shp 1 (boolsD l) := .list fun d hd => by
  obtain ⟨b, _, rfl⟩ := List.mem_map.mp hd
  exact .bl
/-! ### slices of numbers -/
theorem cut_take {xs : List V} {k : Nat} : cutV xs none (some (k : Int)) = xs.take k := by
  unfold cutV
  rw [HT.sIx_none, HT.sIx_nat, List.drop_zero, Nat.sub_zero]
  rw [Nat.min_def]; split
  · rfl
  · rw [List.take_length, List.take_of_length_le (by omega)]
theorem cut_drop {xs : List V} {k : Nat} : cutV xs (some (k : Int)) none = xs.drop k := by
  unfold cutV
  rw [HT.sIx_none, HT.sIx_nat, Nat.min_def]; split
  · rw [List.take_of_length_le (by rw [List.length_drop]; exact Nat.le_refl _)]
  · rw [List.drop_length, List.take_nil, List.drop_of_length_le (by omega)]
theorem cut_init {xs : List V} : cutV xs none (some (-1)) = xs.dropLast := by
  unfold cutV
  rw [HT.sIx_none, List.drop_zero, Nat.sub_zero, List.dropLast_eq_take]
  have e : HT.sIx xs.length xs.length (some (-1)) = xs.length - 1 := by
    show (if (-1 : Int) < 0 then (-1 + (xs.length : Int)).toNat else min (-1 : Int).toNat xs.length) = _
    rw [if_pos (by decide)]; omega
  rw [e]
theorem natsV_take {l : List Nat} {k : Nat} : (natsV l).take k = natsV (l.take k) := by unfold natsV; rw [List.map_take]
theorem natsV_drop {l : List Nat} {k : Nat} : (natsV l).drop k = natsV (l.drop k) := by unfold natsV; rw [List.map_drop]
theorem natsV_app {l m : List Nat} : natsV l ++ natsV m = natsV (l ++ m) := by unfold natsV; rw [List.map_append]
/-- numbers as data -/
def natsD (l : List Nat) : List PyData := l.map fun (n : Nat) => PyData.int (n : Int)
theorem dp_nats : ∀ (l : List Nat), DpAll K G (natsV l) (natsD l)
  | [] => .nil
  | n :: l => .cons (.int _) (dp_nats l)
theorem shp_nats {n : Nat} (l : List Nat) : Shp (n + 1) (.list (natsD l)) := .list fun d hd => by
  obtain ⟨i, _, rfl⟩ := List.mem_map.mp hd
  exact .int
theorem dat_nats {a : Addr} {l : List Nat} (h : LstAt K G M a (natsV l)) : DatAt K G M (.ref a) (.list (natsD l)) := dat_list h (dats_g (dp_nats l))
theorem natsD_inj : ∀ {l m : List Nat}, natsD l = natsD m → l = m
  | [], [], _ => rfl
  | [], _ :: _, h => by cases h
  | _ :: _, [], h => by cases h
  | a :: l, b :: m, h => by
    have h1 := List.cons.inj h
    have := PyData.int.inj h1.1
    rw [natsD_inj h1.2]
    congr 1; omega
/-- something drawn from a written list -/
theorem pick {l : List V} {p : Addr} {n : Nat} {c s : Int} (hn : M[n]? = some (p, pool c s)) (hs : PoolOk s) (h0 : 0 < l.length) (h1 : l.length ≤ 1000)
    (q : ∀ y c' s' d, y ∈ l → PoolOk s' → Fr G M d → R y G ((d, .lst l) :: M.set n (p, pool c' s'))) :
    l.length ≤ sizeLine ∧ ∀ d, Fr G M d → S_law_take K [.ref p, .int (l.length : Int)] G ((d, .lst l) :: M) (fun y G M => kIx K (.ref d) y G M R) E0 := by
  refine ⟨sz (by omega), fun d fd => ⟨p, l.length, n + 1, c, s, rfl, rfl, hn, hs, by omega, ?_, fun r c' s' r0 r1 hs' => ?_⟩⟩
  · have : (l.length : Int) ≤ 1000 := by omega
    have : (1000 : Int) < 2 ^ 200 := by decide
    omega
  · obtain ⟨y, hy, hm⟩ := at_mem (l := l) r0 r1
    exact ⟨l, y, lst_n (n := 0) rfl, hy, q y c' s' d hm hs' fd⟩
end

section
variable {K : PySem.W.Frag} {vs : List V} {G : Hp} {M : Mem} {R : KR} {Z : KX}
end

section
theorem eqvA_ints : ∀ xs ys : List Int, PyData.eqvAll (xs.map .int) (ys.map .int) = decide (xs = ys)
  | [], [] => by simp [PyData.eqvAll]
  | [], _ :: _ => by simp [PyData.eqvAll]
  | _ :: _, [] => by simp [PyData.eqvAll]
  | x :: xs, y :: ys => by
    show (PyData.eqv (.int x) (.int y) && PyData.eqvAll (xs.map .int) (ys.map .int)) = _
    rw [eqvA_ints xs ys]
    have : PyData.eqv (.int x) (.int y) = decide (x = y) := by
      show (x == y) = _
      by_cases e : x = y <;> simp [e]
    rw [this]
    by_cases e1 : x = y <;> by_cases e2 : xs = ys <;> simp [e1, e2]
theorem eqvL_ints (xs ys : List Int) : PyData.eqv (.list (xs.map .int)) (.list (ys.map .int)) = decide (xs = ys) := eqvA_ints xs ys
theorem natsD_ints (l : List Nat) : natsD l = (l.map fun (n : Nat) => (n : Int)).map PyData.int := by unfold natsD; rw [List.map_map]; rfl
theorem eqvL_nats (l m : List Nat) : PyData.eqv (.list (natsD l)) (.list (natsD m)) = decide (l = m) := by
  rw [natsD_ints, natsD_ints, eqvL_ints]
  by_cases e : l = m
  · subst e; simp
  · rw [decide_eq_false e, decide_eq_false]
    intro z
    exact e (natsD_inj (by rw [natsD_ints, natsD_ints, z]))
theorem eqvL_nil (ds : List PyData) : PyData.eqv (.list ds) (.list []) = ds.isEmpty := by
  cases ds <;> rfl
end

section
variable {K : PySem.W.Frag} {vs : List V} {G : Hp} {M : Mem} {R : KR} {Z : KX}
theorem eq_ref {a b : Addr} {d : PyData} {n : Nat} {neg : Bool} (ha : DatAt K G M (.ref a) d) (hb : DatAt K G M (.ref b) d) (sh : Shp n d) (hn : n ≤ 64) (q : R (.bl (!neg)) G M) : kEqv neg K (.ref a) (.ref b) G M R := by
  refine ⟨d, d, ha, hb, sh.shaped hn, sh.shaped hn, ?_⟩
  rw [sh.refl]
  cases neg <;> exact q
theorem eq_bools {a b : Addr} {l : List Bool} {neg : Bool} (ha : LstAt K G M a (l.map V.bl)) (hb : LstAt K G M b (l.map V.bl)) (q : R (.bl (!neg)) G M) : kEqv neg K (.ref a) (.ref b) G M R :=
  eq_ref (d := boolsD l) (dat_list ha (dats_g (dp_bools l))) (dat_list hb (dats_g (dp_bools l))) (shp_bools l) (by decide) q
theorem eq_nats {a b : Addr} {l : List Nat} {neg : Bool} (ha : LstAt K G M a (natsV l)) (hb : LstAt K G M b (natsV l)) (q : R (.bl (!neg)) G M) : kEqv neg K (.ref a) (.ref b) G M R :=
  eq_ref (dat_nats ha) (dat_nats hb) (shp_nats (n := 0) l) (by decide) q
theorem shp_tchs (ts : List Tch) : Shp 2 (.list (ts.map tchD)) := .list fun d hd => by
  obtain ⟨t, _, rfl⟩ := List.mem_map.mp hd
  refine .tuple fun d hd => ?_
  simp only [List.mem_cons, List.not_mem_nil, or_false] at hd
  rcases hd with rfl | rfl | rfl
  · refine .str ?_
    unfold Tch.txt; split
    · exact (by decide +kernel : PyData.strOk ("lay" : Str) = true)
    · exact (by decide +kernel : PyData.strOk ("look" : Str) = true)
  · exact .int
  · exact .int
theorem neq_self {x : V} (h : (!decide (x = x)) = true) : False := by rw [decide_eq_true rfl] at h; cases h
end

section
variable {K : PySem.W.Frag} {vs : List V} {G : Hp} {M : Mem} {R : KR} {Z : KX}
theorem pf_law_pool (h : S_law_pool K vs G M R Z) : rd_law_pool K (ends R Z) (sta 4 vs) G M := by
  obtain ⟨_, _, rfl, a, ns, k, rfl, rfl, hS, k0, k1, hl, q⟩ := sp2_of h
  have rest : ∀ cell : Int, rd_law_pool_2 K (ends R Z) [some (.ref a), some (.int k), some (.int cell), none] G M := fun cell => by
    refine ⟨G, M, Wk.refl, (by show (0 : Int) < _; decide), mul_l (by decide) (by decide), mul_r (by decide) (by decide), (by show (0 : Int) < _; decide), ?_⟩
    refine ⟨G, M, Wk.refl, pow10_18, mul_r (b01 _).1 (b01 _).2, sz2, fun p fp => ?_⟩
    exact ret0 (q p _ _ fp ⟨Int.emod_nonneg _ (by decide), Int.emod_lt_of_pos _ (by decide)⟩)
  refine ⟨G, M, Wk.refl, _, lst_g hS, ?_⟩
  refine ⟨G, M, Wk.refl, _, lst_g hS, ite2' (fun e => ?_) (fun e => rest _)⟩
  have e1 : k < ((ns.map V.int).length : Int) := of_decide_eq_true e
  rw [List.length_map] at e1
  exact ⟨G, M, Wk.refl, _, _, lst_g hS, atI_int k0 e1, rest _⟩
end

section
theorem rowok_snoc {l : List Nat} {v : Nat} (h : RowOk l) (hv : v ≤ l.length) : RowOk (l ++ [v]) := fun i w e => by
  by_cases z : i < l.length
  · rw [List.getElem?_append_left z] at e; exact h i w e
  · rw [List.getElem?_append_right (by omega)] at e
    have : i - l.length = 0 := by
      apply Decidable.byContradiction
      intro hn
      rw [List.getElem?_eq_none (by show 1 ≤ _; omega)] at e; cases e
    rw [this] at e
    cases e
    omega
end

section
variable {K : PySem.W.Frag} {vs : List V} {G : Hp} {M : Mem} {R : KR} {Z : KX}
theorem Wk.of_eq {N : Mem} (e : M = N) : Wk G M G N := e ▸ Wk.refl
theorem get_app {B N : Mem} {n : Nat} {x : Addr × HO} (h : N[n]? = some x) : (B ++ N)[B.length + n]? = some x := by
  rw [List.getElem?_append_right (by omega), Nat.add_sub_cancel_left]; exact h
theorem set_app {B N : Mem} {n : Nat} {x : Addr × HO} : (B ++ N).set (B.length + n) x = B ++ N.set n x := by
  rw [List.set_append_right _ _ (by omega), Nat.add_sub_cancel_left]
theorem set_keys : ∀ {N : Mem} {n : Nat} {p : Addr} {o o' : HO}, N[n]? = some (p, o) → (N.set n (p, o')).map (·.1) = N.map (·.1)
  | [], _, _, _, _, h => by simp at h
  | _ :: _, 0, _, _, _, h => by cases h; rfl
  | x :: N, n + 1, p, o, o', h => by
    show x.1 :: (N.set n (p, o')).map (·.1) = x.1 :: N.map (·.1)
    rw [set_keys (by simpa using h)]
theorem natsV_app2 (a b : List Nat) : natsV (a ++ b) = natsV a ++ natsV b := by unfold natsV; rw [List.map_append]
theorem in_nats {c : Nat} {l : List Nat} : inV (.int (c : Int)) (natsV l) = decide (c ∈ l) := by
  induction l with
  | nil => rfl
  | cons x l ih =>
    show (((x : Int) == (c : Int)) || inV (.int (c : Int)) (natsV l)) = _
    rw [ih]
    by_cases e : x = c
    · subst e; simp
    · have : ¬ ((x : Int) = (c : Int)) := by omega
      have e2 : ¬ (c = x) := fun z => e z.symm
      simp [this, e2]
theorem flat_nats (l : List Nat) : (natsV l).all flatV = true := List.all_eq_true.mpr fun v hv => by
  obtain ⟨n, _, rfl⟩ := List.mem_map.mp hv; rfl
theorem ints_nats : ∀ {ys : List Int}, (∀ y, y ∈ ys → 0 ≤ y) → ∃ l : List Nat, ys = l.map fun (i : Nat) => (i : Int)
  | [], _ => ⟨[], rfl⟩
  | y :: ys, h => by
    obtain ⟨l, rfl⟩ := ints_nats fun z hz => h z (List.mem_cons_of_mem _ hz)
    obtain ⟨n, rfl⟩ := Int.eq_ofNat_of_zero_le (h y List.mem_cons_self)
    exact ⟨n :: l, rfl⟩
theorem natsV_ints (l : List Nat) : (l.map fun (i : Nat) => (i : Int)).map V.int = natsV l := by unfold natsV; rw [List.map_map]; rfl
theorem perm_nats {l m : List Nat} (h : (l.map fun (i : Nat) => (i : Int)).Perm (m.map fun (i : Nat) => (i : Int))) : l.Perm m := by
  have := h.map Int.toNat
  rw [List.map_map, List.map_map, List.map_congr_left (g := id) (fun _ _ => by simp), List.map_congr_left (l := m) (g := id) (fun _ _ => by simp), List.map_id, List.map_id] at this
  exact this
theorem nat_sorted_eq {a b : List Nat} (h : a.Perm b) (ha : a.Pairwise (· ≤ ·)) (hb : b.Pairwise (· ≤ ·)) : a = b := List.Perm.eq_of_pairwise (fun x y _ _ h1 h2 => by omega) ha hb h
end

/-! draws as data, for laws without lib/F_manyP -/
def drD : Dr → PyData
  | .leaf n => .int n
  | .row l => .list (natsD l)
theorem shp_drs (ds : List Dr) : Shp 2 (.list (ds.map drD)) := .list fun d hd => by
  obtain ⟨x, _, rfl⟩ := List.mem_map.mp hd
  cases x with
  | leaf n => exact .int
  | row l => exact shp_nats (n := 0) l

section
variable {K : PySem.W.Frag} {G : Hp} {M : Mem}
theorem dpall_of : ∀ {vs : List V} {ds : List PyData}, vs.length = ds.length → (∀ (i : Nat) (d : PyData), ds[i]? = some d → ∃ v, vs[i]? = some v ∧ Dp K G v d) → DpAll K G vs ds
  | [], [], _, _ => .nil
  | [], _ :: _, h, _ => by simp at h
  | _ :: _, [], h, _ => by simp at h
  | v :: vs, d :: ds, h, q => .cons (by obtain ⟨w, e, hd⟩ := q 0 d rfl; cases e; exact hd) (dpall_of (by simpa using h) fun i d e => by obtain ⟨w, e2, hd⟩ := q (i + 1) d (by simpa using e); exact ⟨w, by simpa using e2, hd⟩)
def rowsD (rows : List (List Nat)) : PyData := .list (rows.map fun r => .list (natsD r))
theorem shp_rows (rows : List (List Nat)) : Shp 2 (rowsD rows) := .list fun d hd => by
  obtain ⟨r, _, rfl⟩ := List.mem_map.mp hd
  exact shp_nats r
theorem drs_dat {p : Addr} {rows : List (List Nat)} (h : DrsG K G p (rows.map Dr.row)) : DatAt K G M (.ref p) (rowsD rows) := by
  obtain ⟨us, hu, hd⟩ := h
  refine dat_list (.inr hu) (dats_g ?_)
  refine dpall_of (by rw [hd.len, List.length_map, List.length_map]) fun i d e => ?_
  rw [List.getElem?_map] at e
  obtain ⟨r, hr, rfl⟩ := Option.map_eq_some_iff.mp e
  obtain ⟨v, hv, c, rfl, hc⟩ := hd.get (b := Dr.row r) (by rw [List.getElem?_map, hr]; rfl)
  refine ⟨_, hv, .lst ?_ (dp_nats r)⟩
  rcases hc with hc | hc
  · cases hc
  · exact hc
end

section
variable {K : PySem.W.Frag} {vs : List V} {G : Hp} {M : Mem} {R : KR} {Z : KX}
theorem dp_sg {T : Addr} {s : Sg} (h : SqT K G T s.vs) : Dp K G (.ref T) (sgD s) := by
  cases s with
  | room b s r => exact .tup h (.cons (.str _) (.cons (.str _) (.cons (.int _) (.cons (.int _) .nil))))
  | item b s d i => exact .tup h (.cons (.str _) (.cons (.str _) (.cons (.int _) (.cons (.int _) (.cons (.int _) .nil)))))
  | way b s d p e => exact .tup h (.cons (.str _) (.cons (.str _) (.cons (.int _) (.cons (.int _) (.cons (.int _) (.cons (.int _) .nil))))))
theorem sg_inv {v : V} {s : Sg} (h : Dp K G v (sgD s)) : ∃ T, v = .ref T ∧ SqT K G T s.vs := by
  cases s with
  | room b s r =>
    obtain ⟨T, xs, rfl, q, a⟩ := dp_tup_inv h
    cases a with | cons a1 a => cases a1; cases a with | cons a2 a => cases a2; cases a with | cons a3 a => cases a3; cases a with | cons a4 a => cases a4; cases a; exact ⟨T, rfl, q⟩
  | item b s d i =>
    obtain ⟨T, xs, rfl, q, a⟩ := dp_tup_inv h
    cases a with | cons a1 a => cases a1; cases a with | cons a2 a => cases a2; cases a with | cons a3 a => cases a3; cases a with | cons a4 a => cases a4; cases a with | cons a5 a => cases a5; cases a; exact ⟨T, rfl, q⟩
  | way b s d p e =>
    obtain ⟨T, xs, rfl, q, a⟩ := dp_tup_inv h
    cases a with | cons a1 a => cases a1; cases a with | cons a2 a => cases a2; cases a with | cons a3 a => cases a3; cases a with | cons a4 a => cases a4; cases a with | cons a5 a => cases a5; cases a with | cons a6 a => cases a6; cases a; exact ⟨T, rfl, q⟩
theorem deedS_ok (b : Bool) : PyData.strOk (deedS b) = true := by
  cases b
  · exact (by decide +kernel : PyData.strOk ("look" : Str) = true)
  · exact (by decide +kernel : PyData.strOk ("lay" : Str) = true)
theorem shp_sg (s : Sg) : Shp 1 (sgD s) := by
  cases s with
  | room b s r =>
    refine .tuple fun d hd => ?_
    simp only [List.mem_cons, List.not_mem_nil, or_false] at hd
    rcases hd with rfl | rfl | rfl | rfl
    · exact .str (by decide +kernel : PyData.strOk ("room" : Str) = true)
    · exact .str (deedS_ok b)
    · exact .int
    · exact .int
  | item b s d i =>
    refine .tuple fun d hd => ?_
    simp only [List.mem_cons, List.not_mem_nil, or_false] at hd
    rcases hd with rfl | rfl | rfl | rfl | rfl
    · exact .str (by decide +kernel : PyData.strOk ("item" : Str) = true)
    · exact .str (deedS_ok b)
    · exact .int
    · exact .int
    · exact .int
  | way b s d p e =>
    refine .tuple fun d hd => ?_
    simp only [List.mem_cons, List.not_mem_nil, or_false] at hd
    rcases hd with rfl | rfl | rfl | rfl | rfl | rfl
    · exact .str (by decide +kernel : PyData.strOk ("way" : Str) = true)
    · exact .str (deedS_ok b)
    · exact .int
    · exact .int
    · exact .int
    · exact .int
theorem shp_sgs (l : List Sg) : Shp 2 (.list (l.map sgD)) := .list fun d hd => by
  obtain ⟨s, _, rfl⟩ := List.mem_map.mp hd
  exact shp_sg s
end

section
def markI (tr : List Tri) : List Int := tr.map fun t => (t.mark : Int)
theorem markI_len (tr : List Tri) : (markI tr).length = tr.length := List.length_map _
theorem markI_getD {tr : List Tri} {i : Nat} (h : i < tr.length) : (markI tr).getD i 0 = ((tr.getD i Tri0).mark : Int) := by
  unfold markI
  rw [List.getD_eq_getElem?_getD, List.getD_eq_getElem?_getD, List.getElem?_map, List.getElem?_eq_getElem h]; rfl
theorem stepT_len {tr : List Tri} {p : Int × Int} : (stepT tr p).length = tr.length := by unfold stepT; split <;> simp
theorem rangeI_sorted (n : Nat) : ((List.range n).map fun (i : Nat) => (i : Int)).Pairwise (· ≤ ·) := List.pairwise_map.mpr (List.pairwise_lt_range.imp fun {a b} h => by omega)
/-- a list of different numbers below n, n long, is an arrangement of them -/
theorem ord_perm {n : Nat} {o : List Nat} (h : OrdOk n o) : (o.map fun (i : Nat) => (i : Int)).Perm ((List.range n).map fun (i : Nat) => (i : Int)) := by
  refine List.Perm.map _ ?_
  rw [List.perm_ext_iff_of_nodup h.nd List.nodup_range]
  intro x
  exact ⟨fun hx => List.mem_range.mpr (h.lt x hx), fun hx => ord_has h x (List.mem_range.mp hx)⟩
theorem laid_items {ord W : List Nat} {tr : List Tri} (ho : OrdOk ord.length ord) (h : Laid ord W tr) : ∀ r, r < tr.length → ∃ i, i < ord.length ∧ ord.getD i 0 = r ∧ tr[r]? = some ⟨r, i, W.getD i 0⟩ := fun r hr => by
  obtain ⟨i, hi, e⟩ := mem_getD.mp (ord_has ho r (by rw [← h.len]; exact hr))
  have := h.at_ i hi
  rw [e] at this
  exact ⟨i, hi, e, this⟩
/-- what is in hand, as a dict -/
theorem hand_val (h : List (Nat × Nat)) (c : Nat) : valV (handK h) (Sum.inl (c : Int)) = (hGet h c).map fun (w : Nat) => V.int (w : Int) := by
  induction h with
  | nil => rfl
  | cons p h ih =>
    by_cases e : p.1 = c
    · rw [show handK (p :: h) = (Sum.inl (p.1 : Int), V.int (p.2 : Int)) :: handK h from rfl, valV_pos (by rw [e])]
      unfold hGet
      rw [List.find?_cons_of_pos (by rw [decide_eq_true e])]; rfl
    · rw [show handK (p :: h) = (Sum.inl (p.1 : Int), V.int (p.2 : Int)) :: handK h from rfl, valV_neg (fun z => e (by have := Sum.inl.inj z; omega)), ih]
      unfold hGet
      rw [List.find?_cons_of_neg (by rw [decide_eq_false e]; exact Bool.false_ne_true)]
theorem hand_put (h : List (Nat × Nat)) (c w : Nat) : putK (handK h) (Sum.inl (c : Int)) (.int (w : Int)) = handK (hPut h c w) := by
  unfold putK hPut
  rw [valV_any, hand_val]
  have e : ((hGet h c).map fun (w : Nat) => V.int (w : Int)).isSome = (hGet h c).isSome := by cases hGet h c <;> rfl
  rw [e]
  by_cases z : (hGet h c).isSome = true
  · rw [if_pos z, if_pos z]
    unfold handK
    rw [List.map_map, List.map_map]
    refine List.map_congr_left fun p _ => ?_
    by_cases y : p.1 = c
    · simp [y]
    · have : ¬ ((p.1 : Int) = (c : Int)) := by omega
      simp [y, this]
  · rw [if_neg z, if_neg z]
    unfold handK
    rw [List.map_append]; rfl
theorem handK_len (h : List (Nat × Nat)) : (handK h).length = h.length := List.length_map _
theorem hGet_mem {h : List (Nat × Nat)} {c : Nat} : (hGet h c).isSome = true ↔ c ∈ h.map (·.1) := by
  unfold hGet
  rw [Option.isSome_map, List.find?_isSome, List.mem_map]
  constructor
  · rintro ⟨p, hp, e⟩; exact ⟨p, hp, of_decide_eq_true e⟩
  · rintro ⟨p, hp, e⟩; exact ⟨p, hp, decide_eq_true e⟩
theorem hand_ok_put {m : Nat} {h : List (Nat × Nat)} {c w : Nat} (hk : HandOk m h) (hc : c < m) : HandOk m (hPut h c w) := by
  unfold hPut
  split
  · have e : (h.map fun p => if p.1 = c then (p.1, w) else p).map (·.1) = h.map (·.1) := by
      rw [List.map_map]
      refine List.map_congr_left fun p _ => ?_
      show (if p.1 = c then (p.1, w) else p).1 = p.1
      split <;> rfl
    refine ⟨by rw [e]; exact hk.1, fun p hp => ?_⟩
    obtain ⟨q, hq, rfl⟩ := List.mem_map.mp hp
    have := hk.2 q hq
    split <;> exact this
  · rename_i hn
    refine ⟨?_, fun p hp => ?_⟩
    · rw [List.map_append, List.nodup_append]
      refine ⟨hk.1, by simp, fun a ha b hb e => ?_⟩
      have : b = c := by simpa using hb
      subst this; subst e
      exact hn (hGet_mem.mpr ha)
    · rcases List.mem_append.mp hp with hp | hp
      · exact hk.2 p hp
      · have : p = (c, w) := by simpa using hp
        subst this; exact hc
theorem hand_len {m : Nat} {h : List (Nat × Nat)} (hk : HandOk m h) : h.length ≤ m := by
  have := nodup_lt_len m (h.map (·.1)) hk.1 fun x hx => by
    obtain ⟨p, hp, rfl⟩ := List.mem_map.mp hx
    exact hk.2 p hp
  rwa [List.length_map] at this
end

section
variable {K : PySem.W.Frag} {vs : List V} {G : Hp} {M : Mem} {R : KR} {Z : KX}
theorem pf_node_at (h : S_node_at K vs G M R Z) : rd_node_at K (ends R Z) (sta 3 vs) G M := by
  obtain ⟨_, _, _, rfl, hg, d, l, rfl, rfl, rfl, hd, hh, q⟩ := sp3_of h
  clear h
  refine ⟨G, M, Wk.refl, ⟨by omega, by omega, by decide⟩, by show (0 : Int) ≤ (hg : Int) - (d : Int); omega, ret0 ?_⟩
  have e : (1 : Int) * 2 ^ ((d : Int)).toNat - 1 + (l : Int) / 2 ^ ((hg : Int) - (d : Int)).toNat = ((nodeN hg d l : Nat) : Int) := by
    unfold nodeN
    rw [Int.toNat_natCast, show ((hg : Int) - (d : Int)).toNat = hg - d by omega, Int.one_mul]
    have h1 : 1 ≤ 2 ^ d := Nat.one_le_two_pow
    rw [Int.natCast_add, Int.natCast_ediv, Int.natCast_sub h1]
    simp
  show R (.int ((1 : Int) * 2 ^ ((d : Int)).toNat - 1 + (l : Int) / 2 ^ ((hg : Int) - (d : Int)).toNat)) G M
  rw [e]
  exact q
theorem pf_room_of (h : S_room_of K vs G M R Z) : rd_room_of K (ends R Z) (sta 2 vs) G M := by
  obtain ⟨_, _, rfl, n, s, rfl, rfl, q⟩ := sp2_of h
  refine ⟨G, M, Wk.refl, mul_l (by decide) (by decide), ret0 ?_⟩
  have e : (2 : Int) * (n : Int) + (s : Int) = ((2 * n + s : Nat) : Int) := by omega
  show R (.int ((2 : Int) * (n : Int) + (s : Int))) G M
  rw [e]
  exact q
/-! hands -/
theorem HandF.ex {G' : Hp} {m : Nat} {hv : List (Key × V)} {f : HF} (e : Ex G G') (h : HandF K G m hv f) : HandF K G' m hv f :=
  ⟨h.nd, h.key, h.non, fun c p hc => by obtain ⟨v, h1, h2⟩ := h.val c p hc; exact ⟨v, h1, ex_d e _ h2⟩⟩
theorem HandF.nil {m : Nat} : HandF K G m [] (fun _ => none) := ⟨List.nodup_nil, fun _ z => (nomatch z), fun _ _ => rfl, fun _ _ z => nomatch z⟩
theorem inl_ne {a b : Nat} (h : ¬ a = b) : ¬ ((Sum.inl (a : Int) : Key) = Sum.inl (b : Int)) := fun z => h (by have := Sum.inl.inj z; omega)
theorem putK_keys (hv : List (Key × V)) (k : Key) (v : V) : (putK hv k v).map (·.1) = if (valV hv k).isSome = true then hv.map (·.1) else hv.map (·.1) ++ [k] := by
  unfold putK
  rw [valV_any]
  by_cases z : (valV hv k).isSome = true
  · rw [if_pos z, if_pos z, List.map_map]
    refine List.map_congr_left fun p _ => ?_
    show (if p.1 = k then (p.1, v) else p).1 = p.1
    split <;> rfl
  · rw [if_neg z, if_neg z, List.map_append]; rfl
theorem HandF.put {m : Nat} {hv : List (Key × V)} {f : HF} {c : Nat} {p : Nat × Nat} {v : V} (h : HandF K G m hv f) (hc : c < m) (hv2 : Dp K G v (.tuple [.int p.1, .int p.2])) : HandF K G m (putK hv (Sum.inl (c : Int)) v) (f.put c p) := by
  refine ⟨?_, fun q hq => ?_, fun x hx => ?_, fun x q hx => ?_⟩
  · rw [putK_keys]
    split
    · exact h.nd
    · rename_i z
      rw [List.nodup_append]
      refine ⟨h.nd, (List.nodup_cons.mpr ⟨fun z => (nomatch z), List.nodup_nil⟩), fun a ha b hb e => ?_⟩
      have hb : b = Sum.inl (c : Int) := by simpa using hb
      subst hb
      subst e
      have : valV hv (Sum.inl (c : Int)) = none := by
        cases q : valV hv (Sum.inl (c : Int)) with
        | none => rfl
        | some w => rw [q] at z; exact absurd rfl z
      exact valV_not this ha
  · have : q.1 ∈ (putK hv (Sum.inl (c : Int)) v).map (·.1) := List.mem_map.mpr ⟨q, hq, rfl⟩
    rw [putK_keys] at this
    split at this
    · obtain ⟨r, hr, e⟩ := List.mem_map.mp this
      obtain ⟨d, h1, h2⟩ := h.key r hr
      exact ⟨d, h1, by rw [← e]; exact h2⟩
    · rcases List.mem_append.mp this with this | this
      · obtain ⟨r, hr, e⟩ := List.mem_map.mp this
        obtain ⟨d, h1, h2⟩ := h.key r hr
        exact ⟨d, h1, by rw [← e]; exact h2⟩
      · exact ⟨c, hc, by simpa using this⟩
  · rw [valV_put]
    unfold HF.put at hx
    by_cases e : x = c
    · rw [if_pos e] at hx; cases hx
    · rw [if_neg e] at hx
      rw [if_neg (inl_ne e)]
      exact h.non x hx
  · rw [valV_put]
    unfold HF.put at hx
    by_cases e : x = c
    · rw [if_pos e] at hx
      cases hx
      rw [e, if_pos rfl]
      exact ⟨v, rfl, hv2⟩
    · rw [if_neg e] at hx
      rw [if_neg (inl_ne e)]
      exact h.val x q hx
theorem valV_drop (k j : Key) : ∀ hv : List (Key × V), valV (dropK hv k) j = if j = k then none else valV hv j
  | [] => by unfold dropK; rw [List.filter_nil, valV_nil]; split <;> rfl
  | p :: hv => by
    by_cases e : p.1 = k
    · rw [dropK_pos e, valV_drop k j hv]
      by_cases z : j = k
      · rw [if_pos z, if_pos z]
      · rw [if_neg z, if_neg z, valV_neg (fun y => z (by rw [← y, e]))]
    · rw [dropK_neg e]
      by_cases y : p.1 = j
      · rw [valV_pos y, if_neg (fun z => e (by rw [y, z])), valV_pos y]
      · rw [valV_neg y, valV_neg y, valV_drop k j hv]
theorem HandF.drop {m : Nat} {hv : List (Key × V)} {f : HF} {c : Nat} (h : HandF K G m hv f) : HandF K G m (dropK hv (Sum.inl (c : Int))) (fun x => if x = c then none else f x) := by
  refine ⟨?_, fun q hq => h.key q (List.mem_filter.mp hq).1, fun x hx => ?_, fun x q hx => ?_⟩
  · exact h.nd.sublist ((List.filter_sublist).map _)
  · rw [valV_drop]
    by_cases e : x = c
    · rw [e, if_pos rfl]
    · rw [if_neg (inl_ne e)]
      rw [if_neg e] at hx
      exact h.non x hx
  · rw [valV_drop]
    by_cases e : x = c
    · rw [if_pos e] at hx; cases hx
    · rw [if_neg (inl_ne e)]
      rw [if_neg e] at hx
      exact h.val x q hx
theorem HandF.in_ {m : Nat} {hv : List (Key × V)} {f : HF} (h : HandF K G m hv f) (c : Nat) : (valV hv (Sum.inl (c : Int))).isSome = (f c).isSome := by
  cases e : f c with
  | none => rw [h.non c e]; rfl
  | some p =>
    obtain ⟨v, h1, _⟩ := h.val c p e
    rw [h1]; rfl
/-- the keys of a hand, sorted -/
theorem HandF.keys {m : Nat} {hv : List (Key × V)} {f : HF} (h : HandF K G m hv f) : ∃ ks : List Nat, hv.map (·.1) = (ks.map fun (c : Nat) => (c : Int)).map Sum.inl ∧ ks.Nodup ∧ (∀ c, c ∈ ks → c < m) ∧ (∀ c, c ∈ ks ↔ (f c).isSome = true) ∧ ks.length ≤ m := by
  have hk : ∀ l : List (Key × V), (∀ p, p ∈ l → ∃ c : Nat, c < m ∧ p.1 = Sum.inl (c : Int)) → ∃ ks : List Nat, l.map (·.1) = (ks.map fun (c : Nat) => (c : Int)).map Sum.inl ∧ ∀ c, c ∈ ks → c < m := fun l => by
    induction l with
    | nil => exact fun _ => ⟨[], rfl, fun _ z => nomatch z⟩
    | cons p l ih =>
      intro q
      obtain ⟨ks, h1, h2⟩ := ih fun x hx => q x (List.mem_cons_of_mem _ hx)
      obtain ⟨c, h3, h4⟩ := q p List.mem_cons_self
      exact ⟨c :: ks, by rw [List.map_cons, h1, h4]; rfl, fun x hx => by rcases List.mem_cons.mp hx with rfl | hx; exact h3; exact h2 x hx⟩
  obtain ⟨ks, h1, h2⟩ := hk hv h.key
  have hn : ks.Nodup := by
    have := h.nd
    rw [h1, List.map_map] at this
    exact List.Pairwise.of_map _ (fun a b z e => z (by rw [e])) this
  have hm : ∀ c, c ∈ ks ↔ (f c).isSome = true := fun c => by
    rw [← h.in_ c]
    constructor
    · intro hc
      have : (Sum.inl (c : Int) : Key) ∈ hv.map (·.1) := by rw [h1, List.map_map]; exact List.mem_map.mpr ⟨c, hc, rfl⟩
      cases e : valV hv (Sum.inl (c : Int)) with
      | none => exact absurd this (valV_not e)
      | some v => rfl
    · intro hc
      obtain ⟨v, e⟩ := Option.isSome_iff_exists.mp hc
      have := valV_in e
      rw [h1, List.map_map] at this
      obtain ⟨d, hd, ed⟩ := List.mem_map.mp this
      have : d = c := by have : (d : Int) = (c : Int) := Sum.inl.inj ed; omega
      rw [← this]; exact hd
  exact ⟨ks, h1, hn, h2, hm, nodup_lt_len m ks hn h2⟩
theorem keys_sorted {m : Nat} {f : HF} {ks l : List Nat} (hn : ks.Nodup) (hm : ∀ c, c ∈ ks → c < m) (hf : ∀ c, c ∈ ks ↔ (f c).isSome = true) (hp : l.Perm ks) (hs : l.Pairwise (· ≤ ·)) : l = (List.range m).filter fun c => (f c).isSome := by
  refine nat_sorted_eq (hp.trans ?_) hs ((List.pairwise_lt_range).imp (fun h => Nat.le_of_lt h) |>.filter _)
  refine (List.perm_ext_iff_of_nodup hn (List.nodup_range.filter _)).mpr fun c => ?_
  rw [List.mem_filter, List.mem_range, hf]
  exact ⟨fun hc => ⟨hm c ((hf c).mpr hc), hc⟩, fun hc => hc.2⟩
/-- sorted(hand) -/
theorem sorted_hand {m : Nat} {hv : List (Key × V)} {f : HF} {a : Addr} {R : KR} (h : HandF K G m hv f) (ha : At G M a (.dK hv)) (hm : m ≤ 32) (q : ∀ p, Fr G M p → R (.ref p) G ((p, .lst (natsV ((List.range m).filter fun c => (f c).isSome))) :: M)) : kSortedD [.ref a] G M R := by
  obtain ⟨ks, h1, h2, h3, h4, h5⟩ := h.keys
  refine ⟨hv, ks.map fun (c : Nat) => (c : Int), ha, h1, by rw [List.length_map]; omega, fun ys p pm pw fp => ?_⟩
  obtain ⟨l, rfl⟩ := ints_nats (ys := ys) fun y hy => by
    obtain ⟨c, _, rfl⟩ := List.mem_map.mp (pm.mem_iff.mp hy)
    exact Int.natCast_nonneg _
  have e := keys_sorted h2 h3 h4 (perm_nats pm) ((List.pairwise_map.mp pw).imp fun {a b} h => by omega)
  rw [natsV_ints, e]
  exact q p fp
end
section
variable {K : PySem.W.Frag} {vs : List V} {G : Hp} {M : Mem} {R : KR} {Z : KX}
theorem BodyI.ex {G' : Hp} {A : BodyA} {m high : Nat} {fs : List Nat} {th : Th} {f : HF} {xs : List V} {hv : List (Key × V)} (e : Ex G G') (h : BodyI K G A m high fs th f xs hv) : BodyI K G' A m high fs th f xs hv :=
  ⟨ex_l e h.sf, h.fl, ex_ds e _ h.sx, h.sv.ex e, h.tl, h.tm, h.hi, h.m1⟩
theorem HandF.len {m : Nat} {hv : List (Key × V)} {f : HF} (h : HandF K G m hv f) : hv.length ≤ m := by
  obtain ⟨ks, h1, _, _, _, h5⟩ := h.keys
  have := congrArg List.length h1
  rw [List.length_map, List.length_map, List.length_map] at this
  omega
theorem filter_take_two {l : List V} : cutV l none (some 2) = l.take 2 := cut_take (k := 2)
theorem node_lt {high d leaf : Nat} (hd : d ≤ high) (hl : leaf < 2 ^ high) : 2 * nodeN high d leaf + 1 < 2 * (2 * 2 ^ high - 1) := by
  unfold nodeN
  have h1 : leaf / 2 ^ (high - d) < 2 ^ d := by
    rw [Nat.div_lt_iff_lt_mul (Nat.two_pow_pos _), ← Nat.pow_add, show d + (high - d) = high by omega]; exact hl
  have h2 : 2 ^ d ≤ 2 ^ high := Nat.pow_le_pow_right (by decide) hd
  have h3 : 1 ≤ 2 ^ d := Nat.one_le_two_pow
  omega
theorem ent_get {xs : List V} {th : Th} {r : Nat} (h : DpAll K G xs (th.map entD)) (hr : r < th.length) : ∃ v, xs[r]? = some v ∧ Dp K G v (entD (th.getD r none)) := by
  have e : th[r]? = some (th.getD r none) := by rw [List.getD_eq_getElem?_getD, List.getElem?_eq_getElem hr]; rfl
  exact dpall_get (d := entD (th.getD r none)) h (by rw [List.getElem?_map, e]; rfl)
theorem ent_none {v : V} (h : Dp K G v (entD none)) : v = .non := by cases h; rfl
theorem ent_some {v : V} {e : Nat × Nat × Nat} (h : Dp K G v (entD (some e))) : ∃ T, v = .ref T ∧ SqT K G T [.int e.1, .int e.2.1, .int e.2.2] := by
  obtain ⟨T, xs, rfl, s, a⟩ := dp_tup_inv h
  have e2 : xs = [V.int e.1, V.int e.2.1, V.int e.2.2] := dpall_ints_inv (ns := [(e.1 : Int), e.2.1, e.2.2]) a
  subst e2
  exact ⟨T, rfl, s⟩
theorem lookW_succ (th : Th) (high leaf : Nat) (f : HF) (k : Nat) : lookW th high leaf f (k + 1) = lookR th (lookR th (lookW th high leaf f k) (2 * nodeN high k leaf)) (2 * nodeN high k leaf + 1) := by
  unfold lookW; rw [List.range_succ, List.foldl_append]; rfl
theorem lookT_succ (num high leaf k : Nat) : lookT num high leaf (k + 1) = lookT num high leaf k ++ [⟨false, num, 2 * nodeN high k leaf⟩, ⟨false, num, 2 * nodeN high k leaf + 1⟩] := by
  unfold lookT; rw [List.range_succ, List.flatMap_append]; simp
theorem lookT_len (num high leaf k : Nat) : (lookT num high leaf k).length = 2 * k := by
  induction k with
  | zero => rfl
  | succ k ih => rw [lookT_succ, List.length_append, ih]; show 2 * k + 2 = _; omega
theorem layT_succ (num high leaf k : Nat) : layT num high leaf (k + 1) = layT num high leaf k ++ [⟨true, num, 2 * nodeN high (high - k) leaf⟩, ⟨true, num, 2 * nodeN high (high - k) leaf + 1⟩] := by
  unfold layT; rw [List.range_succ, List.flatMap_append]; simp
theorem layT_len (num high leaf k : Nat) : (layT num high leaf k).length = 2 * k := by
  induction k with
  | zero => rfl
  | succ k ih => rw [layT_succ, List.length_append, ih]; show 2 * k + 2 = _; omega
theorem layW_succ (m high leaf : Nat) (s : Th × HF) (k : Nat) : layW m high leaf s (k + 1) = layD m high leaf (layW m high leaf s k) (high - k) := by
  unfold layW; rw [List.range_succ, List.foldl_append]; rfl
def rmC (f : HF) : Option Nat → HF
  | some c => fun x => if x = c then none else f x
  | none => f
theorem dpall_setT : ∀ {vs : List V} {ds : List PyData} {i : Nat} {v : V} {d : PyData}, DpAll K G vs ds → Dp K G v d → DpAll K G (vs.set i v) (ds.set i d)
  | _, _, _, _, _, .nil, _ => .nil
  | _, _, 0, _, _, .cons _ b, h => .cons h b
  | _, _, i + 1, _, _, .cons a b, h => .cons a (dpall_setT b h)
theorem BodyI.lay {A : BodyA} {m high r : Nat} {fs : List Nat} {th : Th} {f f' : HF} {xs : List V} {hv hv' : List (Key × V)} {e : Option (Nat × Nat × Nat)} {v : V} (hi : BodyI K G A m high fs th f xs hv) (hv2 : HandF K G m hv' f') (hd : Dp K G v (entD e)) (he : ∀ x, e = some x → x.1 < m) : BodyI K G A m high fs (th.set r e) f' (xs.set r v) hv' :=
  ⟨hi.sf, hi.fl, by rw [List.map_set]; exact dpall_setT hi.sx hd, hv2, by rw [List.length_set]; exact hi.tl, fun r' x hx => by
    rw [List.getElem?_set] at hx
    split at hx
    · split at hx
      · exact he x (Option.some.inj hx)
      · cases hx
    · exact hi.tm r' x hx, hi.hi, hi.m1⟩
theorem fits_mem {m high d node : Nat} {f : HF} {c : Nat} (h : c ∈ fitsN m high d node f) : c < m ∧ (f c).isSome = true := by
  have := List.mem_of_mem_take h
  rw [List.mem_filter, List.mem_range] at this
  refine ⟨this.1, ?_⟩
  have h2 := this.2
  unfold fitB at h2
  cases e : f c with
  | none => rw [e] at h2; cases h2
  | some p => rfl
theorem fits_nodup {m high d node : Nat} {f : HF} : (fitsN m high d node f).Nodup := (List.nodup_range.filter _).sublist (List.take_sublist _ _)
theorem fits_len {m high d node : Nat} {f : HF} : (fitsN m high d node f).length ≤ 2 := by unfold fitsN; rw [List.length_take]; omega
end

/-! all rows of draws -/
section
open PySem.W
theorem alike_nats : ∀ l m : List Nat, alikeAll (natsD l) (natsD m) = true
  | [], _ => by unfold natsD; rw [List.map_nil, alikeAll]
  | _ :: _, [] => by unfold natsD; rw [List.map_cons, List.map_nil, alikeAll]
  | x :: l, y :: m => by
    show (alike (.int x) (.int y) && alikeAll (natsD l) (natsD m)) = true
    rw [alike_nats l m]; rfl
theorem alike_dr {k : Kn} {a b : Dr} (ha : DrOk k a) (hb : DrOk k b) : alike (drD a) (drD b) = true := by
  cases a with
  | leaf i =>
    cases b with
    | leaf j => rfl
    | row l =>
      have h1 : k.leaf = true := ha.1
      have h2 : k.leaf = false := hb.1
      rw [h1] at h2; cases h2
  | row l =>
    cases b with
    | leaf j =>
      have h1 : k.leaf = false := ha.1
      have h2 : k.leaf = true := hb.1
      rw [h1] at h2; cases h2
    | row m => exact alike_nats l m
theorem alike_drs : ∀ {ks : List Kn} {ds es : List Dr}, A2 DrOk ks ds → A2 DrOk ks es → alikeAll (ds.map drD) (es.map drD) = true
  | _, _, _, .nil, .nil => by rw [List.map_nil, alikeAll]
  | _, _, _, .cons a t, .cons b u => by
    rw [List.map_cons, List.map_cons, alikeAll, alike_dr a b, alike_drs t u]; rfl
theorem alike_tchs : ∀ ts us : List Tch, alikeAll (ts.map tchD) (us.map tchD) = true
  | [], _ => by rw [List.map_nil, alikeAll]
  | _ :: _, [] => by rw [List.map_cons, List.map_nil, alikeAll]
  | x :: ts, y :: us => by
    rw [List.map_cons, List.map_cons, alikeAll, alike_tchs ts us]; rfl
end
theorem snoc_of : ∀ {l : List Nat} {s : Nat}, l.length = s + 1 → ∃ (l' : List Nat) (v : Nat), l = l' ++ [v] ∧ l'.length = s := fun {l s} h => by
  refine ⟨l.dropLast, l.getLast (by intro z; rw [z] at h; cases h), (List.dropLast_concat_getLast _).symm, by rw [List.length_dropLast, h]; rfl⟩
theorem rowAt_step (s n v : Nat) (h : v < s + 1) : rowAt (s + 1) (n * (s + 1) + v) = rowAt s n ++ [v] := by
  show rowAt s ((n * (s + 1) + v) / (s + 1)) ++ [(n * (s + 1) + v) % (s + 1)] = _
  rw [Nat.mul_comm, Nat.mul_add_div (by omega), Nat.div_eq_of_lt h, Nat.mul_add_mod, Nat.mod_eq_of_lt h]; rfl
theorem rowAt_surj : ∀ (s : Nat) (l : List Nat), l.length = s → (∀ (i v : Nat), l[i]? = some v → v ≤ i) → ∃ n, n < fac s ∧ rowAt s n = l
  | 0, l, h, _ => ⟨0, Nat.one_pos, by rw [List.length_eq_zero_iff.mp h]; rfl⟩
  | s + 1, l, h, hr => by
    obtain ⟨l', v, rfl, hl⟩ := snoc_of h
    obtain ⟨n, h1, h2⟩ := rowAt_surj s l' hl fun i x hx => hr i x (by rw [List.getElem?_append_left (List.getElem?_eq_some_iff.mp hx).1]; exact hx)
    have hv : v < s + 1 := by
      have := hr s v (by rw [List.getElem?_append_right (by omega), hl, Nat.sub_self]; rfl)
      omega
    refine ⟨n * (s + 1) + v, ?_, by rw [rowAt_step s n v hv, h2]⟩
    show n * (s + 1) + v < (s + 1) * fac s
    have : (n + 1) * (s + 1) ≤ fac s * (s + 1) := Nat.mul_le_mul_right _ h1
    rw [Nat.add_mul] at this
    rw [Nat.mul_comm (s + 1)]; omega
theorem rowAt_inj : ∀ (s n m : Nat), n < fac s → m < fac s → rowAt s n = rowAt s m → n = m
  | 0, n, m, h1, h2, _ => by
    have h1 : n < 1 := h1
    have h2 : m < 1 := h2
    omega
  | s + 1, n, m, h1, h2, h => by
    have h : rowAt s (n / (s + 1)) ++ [n % (s + 1)] = rowAt s (m / (s + 1)) ++ [m % (s + 1)] := h
    have h1 : n < (s + 1) * fac s := h1
    have h2 : m < (s + 1) * fac s := h2
    obtain ⟨e1, e2⟩ := List.append_inj' h rfl
    have e3 : n % (s + 1) = m % (s + 1) := by simpa using e2
    have e4 := rowAt_inj s _ _ (Nat.div_lt_of_lt_mul h1) (Nat.div_lt_of_lt_mul h2) e1
    rw [← Nat.div_add_mod n (s + 1), ← Nat.div_add_mod m (s + 1), e3, e4]
theorem dOf_surj {k : Kn} {d : Dr} (h : DrOk k d) : ∃ n, n < manyK k ∧ dOf k n = d := by
  unfold dOf manyK
  cases d with
  | leaf n =>
    have e : k.leaf = true := h.1
    exact ⟨n, by rw [if_pos e]; exact h.2, by rw [if_pos e]⟩
  | row l =>
    have e : k.leaf = false := h.1
    obtain ⟨n, h1, h2⟩ := rowAt_surj k.n l h.2.1 h.2.2
    exact ⟨n, by rw [if_neg (by rw [e]; decide)]; exact h1, by rw [if_neg (by rw [e]; decide), h2]⟩
theorem dOf_inj {k : Kn} {n m : Nat} (h1 : n < manyK k) (h2 : m < manyK k) (h : dOf k n = dOf k m) : n = m := by
  unfold dOf at h; unfold manyK at h1 h2
  cases e : k.leaf with
  | true =>
    rw [e] at h
    have h : Dr.leaf n = Dr.leaf m := h
    exact Dr.leaf.inj h
  | false =>
    rw [e] at h h1 h2
    have h : Dr.row (rowAt k.n n) = .row (rowAt k.n m) := h
    exact rowAt_inj k.n n m h1 h2 (Dr.row.inj h)
theorem dm_lt {a b n m : Nat} (h1 : n < b) (h2 : m < a) : n * a + m < a * b := by
  have : (n + 1) * a ≤ b * a := Nat.mul_le_mul_right _ h1
  rw [Nat.add_mul] at this
  rw [Nat.mul_comm a]; omega
theorem drR_surj : ∀ {ks : List Kn} {ds : List Dr}, A2 DrOk ks ds → ∃ n, n < prK ks ∧ drR ks n = ds
  | _, _, .nil => ⟨0, Nat.one_pos, rfl⟩
  | _, _, .cons (a := k) (as := ks) a t => by
    obtain ⟨m, h1, h2⟩ := dOf_surj a
    obtain ⟨n, h3, h4⟩ := drR_surj t
    refine ⟨n * manyK k + m, dm_lt h3 h1, ?_⟩
    show dOf k ((n * manyK k + m) % manyK k) :: drR ks ((n * manyK k + m) / manyK k) = _
    rw [Nat.mul_comm, Nat.mul_add_mod, Nat.mod_eq_of_lt h1, Nat.mul_add_div (by omega), Nat.div_eq_of_lt h1, Nat.add_zero, h2, h4]
theorem drR_inj : ∀ (ks : List Kn) {n m : Nat}, n < prK ks → m < prK ks → drR ks n = drR ks m → n = m
  | [], n, m, h1, h2, _ => by
    have h1 : n < 1 := h1
    have h2 : m < 1 := h2
    omega
  | k :: ks, n, m, h1, h2, h => by
    have h1 : n < manyK k * prK ks := h1
    have h2 : m < manyK k * prK ks := h2
    have h : dOf k (n % manyK k) :: drR ks (n / manyK k) = dOf k (m % manyK k) :: drR ks (m / manyK k) := h
    have hp := manyK_pos k
    obtain ⟨e1, e2⟩ := List.cons.inj h
    have e3 := dOf_inj (Nat.mod_lt _ hp) (Nat.mod_lt _ hp) e1
    have e4 := drR_inj ks (Nat.div_lt_of_lt_mul h1) (Nat.div_lt_of_lt_mul h2) e2
    rw [← Nat.div_add_mod n (manyK k), ← Nat.div_add_mod m (manyK k), e3, e4]
theorem prK_revK (ks : List Kn) : prK ks.reverse = prK ks := by
  induction ks with
  | nil => rfl
  | cons k ks ih => rw [List.reverse_cons, prK_snoc, ih]; show _ = manyK k * prK ks; rw [Nat.mul_comm]
theorem drawsAt_surj {ks : List Kn} {ds : List Dr} (h : A2 DrOk ks ds) : ∃ n, n < prK ks ∧ drawsAt ks n = ds := by
  obtain ⟨n, h1, h2⟩ := drR_surj h.rev
  rw [prK_revK] at h1
  exact ⟨n, h1, by unfold drawsAt; rw [h2, List.reverse_reverse]⟩
theorem drawsAt_inj {ks : List Kn} {n m : Nat} (h1 : n < prK ks) (h2 : m < prK ks) (h : drawsAt ks n = drawsAt ks m) : n = m := by
  unfold drawsAt at h
  exact drR_inj ks.reverse (by rw [prK_revK]; exact h1) (by rw [prK_revK]; exact h2) (List.reverse_inj.mp h)
theorem rowAt_lenA : ∀ s n, (rowAt s n).length = s
  | 0, _ => rfl
  | s + 1, n => by rw [rowAt, List.length_append, rowAt_lenA s]; rfl
theorem rowAt_leA : ∀ (s n i v : Nat), (rowAt s n)[i]? = some v → v ≤ i
  | 0, _, i, v, h => by cases h
  | s + 1, n, i, v, h => by
    by_cases e : i < s
    · rw [rowAt, List.getElem?_append_left (by rw [rowAt_lenA]; exact e)] at h
      exact rowAt_leA s _ i v h
    · have hl : i < (rowAt (s + 1) n).length := (List.getElem?_eq_some_iff.mp h).1
      rw [rowAt_lenA] at hl
      have ei : i = s := by omega
      subst ei
      rw [rowAt, List.getElem?_append_right (by rw [rowAt_lenA]; omega), rowAt_lenA, Nat.sub_self] at h
      have h : n % (i + 1) = v := by simpa using h
      have := Nat.mod_lt n (show 0 < i + 1 by omega)
      omega
theorem dOf_okA {k : Kn} {n : Nat} (h : n < manyK k) : DrOk k (dOf k n) := by
  unfold manyK at h; unfold dOf
  cases e : k.leaf with
  | true => rw [e] at h; exact ⟨e, h⟩
  | false => exact ⟨e, rowAt_lenA _ _, rowAt_leA _ _⟩
theorem drR_okA : ∀ (ks : List Kn) (n : Nat), A2 DrOk ks (drR ks n)
  | [], _ => .nil
  | k :: ks, n => .cons (dOf_okA (Nat.mod_lt _ (manyK_pos k))) (drR_okA ks _)
theorem drawsAt_okA (ks : List Kn) (n : Nat) : A2 DrOk ks (drawsAt ks n) := by
  have := (drR_okA ks.reverse n).rev
  rw [List.reverse_reverse] at this
  exact this
/-- all rows of draws -/
def allR (ks : List Kn) : List (List Dr) := (List.range (prK ks)).map (drawsAt ks)
theorem nodup_mapA {α β : Type} {f : α → β} : ∀ {l : List α}, (∀ a, a ∈ l → ∀ b, b ∈ l → f a = f b → a = b) → l.Nodup → (l.map f).Nodup
  | [], _, _ => List.nodup_nil
  | a :: l, h, hn => by
    rw [List.nodup_cons] at hn
    rw [List.map_cons, List.nodup_cons]
    refine ⟨fun z => ?_, nodup_mapA (fun x hx y hy => h x (List.mem_cons_of_mem _ hx) y (List.mem_cons_of_mem _ hy)) hn.2⟩
    obtain ⟨b, hb, e⟩ := List.mem_map.mp z
    have := h b (List.mem_cons_of_mem _ hb) a List.mem_cons_self e
    subst this
    exact hn.1 hb
theorem allR_nodup (ks : List Kn) : (allR ks).Nodup := nodup_mapA (fun a ha b hb h => drawsAt_inj (List.mem_range.mp ha) (List.mem_range.mp hb) h) List.nodup_range
theorem allR_mem {ks : List Kn} {ds : List Dr} : ds ∈ allR ks ↔ A2 DrOk ks ds := by
  constructor
  · intro h
    obtain ⟨n, _, rfl⟩ := List.mem_map.mp h
    exact drawsAt_okA ks n
  · intro h
    obtain ⟨n, h1, rfl⟩ := drawsAt_surj h
    exact List.mem_map.mpr ⟨n, List.mem_range.mpr h1, rfl⟩
/-- what goes one to one from draws to draws goes through all of them -/
theorem allR_perm {ks : List Kn} {f g : List Dr → List Dr} (hf : ∀ ds, A2 DrOk ks ds → A2 DrOk ks (f ds)) (hg : ∀ ds, A2 DrOk ks ds → A2 DrOk ks (g ds)) (gf : ∀ ds, A2 DrOk ks ds → g (f ds) = ds) (fg : ∀ ds, A2 DrOk ks ds → f (g ds) = ds) : ((allR ks).map f).Perm (allR ks) := by
  refine (List.perm_ext_iff_of_nodup (nodup_mapA (fun a ha b hb h => ?_) (allR_nodup ks)) (allR_nodup ks)).mpr fun ds => ⟨fun h => ?_, fun h => ?_⟩
  · rw [← gf a (allR_mem.mp ha), ← gf b (allR_mem.mp hb), h]
  · obtain ⟨a, ha, rfl⟩ := List.mem_map.mp h
    exact allR_mem.mpr (hf a (allR_mem.mp ha))
  · have := allR_mem.mp h
    exact List.mem_map.mpr ⟨g ds, allR_mem.mpr (hg ds this), fg ds this⟩
/-- what is one to one and stays within a list goes through all of it -/
theorem sub_back {α : Type} : ∀ (l1 l2 : List α), l1.Nodup → (∀ x, x ∈ l1 → x ∈ l2) → l2.length ≤ l1.length → ∀ x, x ∈ l2 → x ∈ l1
  | [], l2, _, _, hl, x, hx => by
    have : l2 = [] := List.length_eq_zero_iff.mp (Nat.le_zero.mp hl)
    rw [this] at hx; exact hx
  | a :: l1, l2, hn, hs, hl, x, hx => by
    classical
    rw [List.nodup_cons] at hn
    have ha : a ∈ l2 := hs a List.mem_cons_self
    have ih := sub_back l1 (l2.erase a) hn.2 (fun y hy => (List.mem_erase_of_ne (fun e => hn.1 (by rw [← e]; exact hy))).mpr (hs y (List.mem_cons_of_mem _ hy))) (by rw [List.length_erase_of_mem ha]; rw [List.length_cons] at hl; omega)
    by_cases e : x = a
    · rw [e]; exact List.mem_cons_self
    · exact List.mem_cons_of_mem _ (ih x ((List.mem_erase_of_ne e).mpr hx))
theorem inj_perm {α : Type} {l : List α} {f : α → α} (hn : l.Nodup) (hf : ∀ a, a ∈ l → f a ∈ l) (hi : ∀ a, a ∈ l → ∀ b, b ∈ l → f a = f b → a = b) : (l.map f).Perm l := by
  have h1 : (l.map f).Nodup := nodup_mapA hi hn
  have h2 : ∀ x, x ∈ l.map f → x ∈ l := fun x hx => by
    obtain ⟨a, ha, rfl⟩ := List.mem_map.mp hx
    exact hf a ha
  exact (List.perm_ext_iff_of_nodup h1 hn).mpr fun x => ⟨h2 x, sub_back _ _ h1 h2 (by rw [List.length_map]; exact Nat.le_refl _) x⟩

section
/-! orders with some items laid -/
theorem sub_len {α : Type} : ∀ (l1 l2 : List α), l1.Nodup → (∀ x, x ∈ l1 → x ∈ l2) → l1.length ≤ l2.length
  | [], _, _, _ => Nat.zero_le _
  | a :: l1, l2, hn, hs => by
    classical
    rw [List.nodup_cons] at hn
    have ha : a ∈ l2 := hs a List.mem_cons_self
    have ih := sub_len l1 (l2.erase a) hn.2 fun y hy => (List.mem_erase_of_ne (fun e => hn.1 (by rw [← e]; exact hy))).mpr (hs y (List.mem_cons_of_mem _ hy))
    rw [List.length_erase_of_mem ha] at ih
    have : 0 < l2.length := List.length_pos_of_mem ha
    rw [List.length_cons]; omega
theorem part_len {α : Type} {g : α → Nat} : ∀ {F : List Nat} {L : List α}, F.Nodup → (∀ x, x ∈ L → g x ∈ F) → L.length = (F.map fun r => (L.filter fun x => decide (g x = r)).length).sum
  | [], L, _, h => by
    cases L with
    | nil => rfl
    | cons a L => exact absurd (h a List.mem_cons_self) List.not_mem_nil
  | r :: F, L, hn, h => by
    rw [List.nodup_cons] at hn
    have ih := part_len (g := g) (F := F) (L := L.filter fun x => !decide (g x = r)) hn.2 fun x hx => by
      obtain ⟨h1, h2⟩ := List.mem_filter.mp hx
      have h2 : g x ≠ r := by simpa using h2
      rcases List.mem_cons.mp (h x h1) with z | z
      · exact absurd z h2
      · exact z
    have e : ∀ r', r' ∈ F → ((L.filter fun x => !decide (g x = r)).filter fun x => decide (g x = r')) = L.filter fun x => decide (g x = r') := fun r' hr' => by
      rw [List.filter_filter]
      refine List.filter_congr fun x _ => ?_
      by_cases z : g x = r'
      · have : g x ≠ r := fun y => hn.1 (by rw [← y, z]; exact hr')
        simp [z, this]
        intro y; exact this (by rw [z, y])
      · simp [z]
    have hs : L.length = (L.filter fun x => decide (g x = r)).length + (L.filter fun x => !decide (g x = r)).length := by
      clear ih e h
      induction L with
      | nil => rfl
      | cons a L ihL =>
        by_cases z : g a = r
        · simp [z]; omega
        · simp [z]; omega
    rw [List.map_cons, List.sum_cons, hs, ih]
    congr 2
    exact List.map_congr_left fun r' hr' => by rw [e r' hr']
def ordsN (n : Nat) : List (List Nat) := (List.range (fac n)).map fun x => orderOf (rowAt n x)
theorem ordsN_nodup (n : Nat) : (ordsN n).Nodup := nodup_mapA (fun a ha b hb h => by
  have ea := row_order (l := rowAt n a) (rowAt_leA n a)
  have eb := row_order (l := rowAt n b) (rowAt_leA n b)
  have h : orderOf (rowAt n a) = orderOf (rowAt n b) := h
  rw [h, eb] at ea
  exact rowAt_inj n a b (List.mem_range.mp ha) (List.mem_range.mp hb) ea.symm) List.nodup_range
theorem ordsN_mem {n : Nat} {o : List Nat} : o ∈ ordsN n ↔ OrdOk n o := by
  constructor
  · intro h
    obtain ⟨x, _, rfl⟩ := List.mem_map.mp h
    have := order_ok (rowAt_leA n x)
    rw [rowAt_lenA] at this; exact this
  · intro h
    have hl := h.len
    subst hl
    have hr := row_ok h
    obtain ⟨x, h1, h2⟩ := rowAt_surj o.length (rowOf o) hr.1 hr.2
    exact List.mem_map.mpr ⟨x, List.mem_range.mpr h1, by rw [h2, order_row h]⟩
def agr (S : List (Nat × Nat)) (o : List Nat) : Bool := S.all fun x => decide (o.getD x.1 0 = x.2)
theorem agr_iff {S : List (Nat × Nat)} {o : List Nat} : agr S o = true ↔ ∀ x, x ∈ S → o.getD x.1 0 = x.2 := by
  unfold agr; rw [List.all_eq_true]
  exact ⟨fun h x hx => of_decide_eq_true (h x hx), fun h x hx => decide_eq_true (h x hx)⟩
structure SOk (n : Nat) (S : List (Nat × Nat)) : Prop where
  kn : (S.map (·.1)).Nodup
  vn : (S.map (·.2)).Nodup
  kl : ∀ x, x ∈ S → x.1 < n
  vl : ∀ x, x ∈ S → x.2 < n
theorem SOk.len {n : Nat} {S : List (Nat × Nat)} (h : SOk n S) : S.length ≤ n := by
  have := sub_len (S.map (·.1)) (List.range n) h.kn fun x hx => by
    obtain ⟨y, hy, rfl⟩ := List.mem_map.mp hx
    exact List.mem_range.mpr (h.kl y hy)
  rwa [List.length_map, List.length_range] at this
theorem find_key : ∀ {S : List (Nat × Nat)} {i : Nat}, i ∈ S.map (·.1) → ∃ r, (i, r) ∈ S
  | S, i, h => by
    obtain ⟨y, hy, rfl⟩ := List.mem_map.mp h
    exact ⟨y.2, hy⟩
theorem key_val : ∀ {S : List (Nat × Nat)}, (S.map (·.1)).Nodup → ∀ {i r r' : Nat}, (i, r) ∈ S → (i, r') ∈ S → r = r'
  | [], _, _, _, _, h, _ => nomatch h
  | x :: S, hn, i, r, r', h, h' => by
    rw [List.map_cons, List.nodup_cons] at hn
    rcases List.mem_cons.mp h with e | h
    · rcases List.mem_cons.mp h' with e' | h'
      · rw [← e] at e'; exact (Prod.mk.inj e').2.symm
      · exact absurd (List.mem_map.mpr ⟨(i, r'), h', by rw [← e]⟩) hn.1
    · rcases List.mem_cons.mp h' with e' | h'
      · exact absurd (List.mem_map.mpr ⟨(i, r), h, by rw [← e']⟩) hn.1
      · exact key_val hn.2 h h'
theorem val_key {S : List (Nat × Nat)} (h : (S.map (·.2)).Nodup) {i j r : Nat} (h1 : (i, r) ∈ S) (h2 : (j, r) ∈ S) : i = j := by
  have := key_val (S := S.map fun x => (x.2, x.1)) (by rw [List.map_map]; exact h) (i := r) (r := i) (r' := j) (List.mem_map.mpr ⟨(i, r), h1, rfl⟩) (List.mem_map.mpr ⟨(j, r), h2, rfl⟩)
  exact this
theorem cnt_ext (n : Nat) : ∀ (m : Nat) (S : List (Nat × Nat)), SOk n S → n - S.length = m → ((ordsN n).filter (agr S)).length = fac m
  | 0, S, h, hm => by
    classical
    have hl := h.len
    have hall : ∀ i, i < n → i ∈ S.map (·.1) := fun i hi => sub_back (S.map (·.1)) (List.range n) h.kn (fun x hx => by
      obtain ⟨y, hy, rfl⟩ := List.mem_map.mp hx
      exact List.mem_range.mpr (h.kl y hy)) (by rw [List.length_map, List.length_range]; omega) i (List.mem_range.mpr hi)
    have hex : ∀ i, ∃ r, i < n → (i, r) ∈ S := fun i => by
      by_cases z : i < n
      · obtain ⟨r, hr⟩ := find_key (hall i z)
        exact ⟨r, fun _ => hr⟩
      · exact ⟨0, fun y => absurd y z⟩
    obtain ⟨f, hf⟩ := Classical.axiomOfChoice hex
    have ho : OrdOk n ((List.range n).map f) := by
      refine ⟨by rw [List.length_map, List.length_range], nodup_mapA (fun a ha b hb e => ?_) List.nodup_range, fun x hx => ?_⟩
      · have h1 := hf a (List.mem_range.mp ha)
        have h2 := hf b (List.mem_range.mp hb)
        rw [e] at h1
        exact val_key h.vn h1 h2
      · obtain ⟨a, ha, rfl⟩ := List.mem_map.mp hx
        exact h.vl _ (hf a (List.mem_range.mp ha))
    have hg : ∀ i, i < n → ((List.range n).map f).getD i 0 = f i := fun i hi => by
      rw [List.getD_eq_getElem?_getD, List.getElem?_map, List.getElem?_range hi]; rfl
    have hin : (List.range n).map f ∈ (ordsN n).filter (agr S) := List.mem_filter.mpr ⟨ordsN_mem.mpr ho, agr_iff.mpr fun x hx => by
      have hk := h.kl x hx
      rw [hg _ hk]
      exact key_val h.kn (hf _ hk) hx⟩
    have huq : ∀ o, o ∈ (ordsN n).filter (agr S) → o = (List.range n).map f := fun o hoo => by
      obtain ⟨h1, h2⟩ := List.mem_filter.mp hoo
      have h1 := ordsN_mem.mp h1
      refine ext_getD (by rw [h1.len, ho.len]) fun i hi => ?_
      rw [h1.len] at hi
      rw [hg i hi]
      exact agr_iff.mp h2 _ (hf i hi)
    have hn2 : ((ordsN n).filter (agr S)).Nodup := (ordsN_nodup n).sublist List.filter_sublist
    have l1 := sub_len _ [(List.range n).map f] hn2 fun x hx => List.mem_singleton.mpr (huq x hx)
    have l2 := List.length_pos_of_mem hin
    have l1 : ((ordsN n).filter (agr S)).length ≤ 1 := l1
    show _ = 1
    omega
  | m + 1, S, h, hm => by
    have hl := h.len
    obtain ⟨i, hi, hni⟩ : ∃ i, i < n ∧ i ∉ S.map (·.1) := by
      classical
      refine Classical.byContradiction fun z => ?_
      have := sub_len (List.range n) (S.map (·.1)) List.nodup_range fun x hx => Classical.byContradiction fun y => z ⟨x, List.mem_range.mp hx, y⟩
      rw [List.length_map, List.length_range] at this
      omega
    obtain ⟨F, hF⟩ : ∃ F, F = (List.range n).filter fun r => !decide (r ∈ S.map (·.2)) := ⟨_, rfl⟩
    have hFm : ∀ r, r ∈ F ↔ r < n ∧ r ∉ S.map (·.2) := fun r => by rw [hF, List.mem_filter, List.mem_range]; simp
    have hFn : F.Nodup := by rw [hF]; exact List.nodup_range.sublist List.filter_sublist
    have hFl : F.length = m + 1 := by
      have hp : (S.map (·.2) ++ F).Perm (List.range n) := by
        refine (List.perm_ext_iff_of_nodup (List.nodup_append.mpr ⟨h.vn, hFn, fun a ha b hb e => ?_⟩) List.nodup_range).mpr fun x => ?_
        · rw [← e] at hb; exact ((hFm a).mp hb).2 ha
        · rw [List.mem_append, hFm, List.mem_range]
          constructor
          · rintro (z | z)
            · obtain ⟨y, hy, rfl⟩ := List.mem_map.mp z
              exact h.vl y hy
            · exact z.1
          · intro z
            by_cases y : x ∈ S.map (·.2)
            · exact .inl y
            · exact .inr ⟨z, y⟩
      have := hp.length_eq
      rw [List.length_append, List.length_map, List.length_range] at this
      omega
    have hpart := part_len (g := fun o : List Nat => o.getD i 0) (F := F) (L := (ordsN n).filter (agr S)) hFn fun o ho => by
      obtain ⟨h1, h2⟩ := List.mem_filter.mp ho
      have h1 := ordsN_mem.mp h1
      have hlt : i < o.length := by rw [h1.len]; exact hi
      refine (hFm _).mpr ⟨h1.lt _ (mem_getD.mpr ⟨i, hlt, rfl⟩), fun z => ?_⟩
      obtain ⟨y, hy, e⟩ := List.mem_map.mp z
      have := agr_iff.mp h2 y hy
      have hyl : y.1 < o.length := by rw [h1.len]; exact h.kl y hy
      have e2 := nodup_getD.mp h1.nd i y.1 hlt hyl (by rw [this]; exact e.symm)
      exact hni (List.mem_map.mpr ⟨y, hy, e2.symm⟩)
    rw [hpart]
    have hterm : ∀ r, r ∈ F → (((ordsN n).filter (agr S)).filter fun o => decide (o.getD i 0 = r)).length = fac m := fun r hr => by
      have hr := (hFm r).mp hr
      have e : (((ordsN n).filter (agr S)).filter fun o => decide (o.getD i 0 = r)) = (ordsN n).filter (agr ((i, r) :: S)) := by
        rw [List.filter_filter]; rfl
      rw [e]
      refine cnt_ext n m ((i, r) :: S) ⟨?_, ?_, fun x hx => ?_, fun x hx => ?_⟩ (by rw [List.length_cons]; omega)
      · rw [List.map_cons, List.nodup_cons]; exact ⟨hni, h.kn⟩
      · rw [List.map_cons, List.nodup_cons]; exact ⟨hr.2, h.vn⟩
      · rcases List.mem_cons.mp hx with rfl | hx
        · exact hi
        · exact h.kl x hx
      · rcases List.mem_cons.mp hx with rfl | hx
        · exact hr.1
        · exact h.vl x hx
    have : (F.map fun r => (((ordsN n).filter (agr S)).filter fun o => decide (o.getD i 0 = r)).length) = F.map fun _ => fac m := List.map_congr_left hterm
    rw [this]
    have hs : ∀ l : List Nat, (l.map fun _ => fac m).sum = l.length * fac m := fun l => by
      induction l with
      | nil => simp
      | cons a l ih => rw [List.map_cons, List.sum_cons, ih, List.length_cons, Nat.add_mul]; omega
    rw [hs, hFl]; rfl
def ordFit (o : List Nat) (x : Sg × Nat) : Bool := decide (o.getD (itOf x.1) 0 = x.2)
theorem ordGo_count (n : Nat) : ∀ (rows : List (Sg × Nat)) (S : List (Nat × Nat)), (S.map (·.1)).Nodup → (∀ x, x ∈ S → x.1 < n ∧ x.2 < n) → (∀ x, x ∈ rows → itOf x.1 < n) →
    ordGo n S rows = ((ordsN n).filter fun o => agr S o && rows.all (ordFit o)).length
  | [], S, hk, hl, _ => by
    have e : ((ordsN n).filter fun o => agr S o && [].all (ordFit o)) = (ordsN n).filter (agr S) := List.filter_congr fun o _ => by simp
    rw [e]
    show (if (S.map (·.2)).Nodup then fac (n - S.length) else 0) = _
    by_cases z : (S.map (·.2)).Nodup
    · rw [if_pos z]
      exact (cnt_ext n _ S ⟨hk, z, fun x hx => (hl x hx).1, fun x hx => (hl x hx).2⟩ rfl).symm
    · rw [if_neg z]
      symm
      rw [List.length_eq_zero_iff, List.filter_eq_nil_iff]
      intro o ho ha
      have h1 := ordsN_mem.mp ho
      have ha := agr_iff.mp ha
      refine z (List.pairwise_map.mpr ?_)
      have hk2 := List.pairwise_map.mp hk
      refine List.Pairwise.imp_of_mem (fun {a b} hma hmb hab e => hab ?_) hk2
      refine nodup_getD.mp h1.nd a.1 b.1 (by rw [h1.len]; exact (hl a hma).1) (by rw [h1.len]; exact (hl b hmb).1) ?_
      rw [ha a hma, ha b hmb]; exact e
  | x :: t, S, hk, hl, hi => by
    have hx := hi x List.mem_cons_self
    have ht := fun y hy => hi y (List.mem_cons_of_mem _ hy)
    have zero : (∀ o, OrdOk n o → agr S o = true → ordFit o x = true → False) → 0 = ((ordsN n).filter fun o => agr S o && (x :: t).all (ordFit o)).length := fun hz => by
      symm
      rw [List.length_eq_zero_iff, List.filter_eq_nil_iff]
      intro o ho ha
      rw [List.all_cons, Bool.and_eq_true, Bool.and_eq_true] at ha
      exact hz o (ordsN_mem.mp ho) ha.1 ha.2.1
    have big : ¬ x.2 < n → ∀ o, OrdOk n o → agr S o = true → ordFit o x = true → False := fun hn o ho _ hf => by
      have hf := of_decide_eq_true hf
      have := ho.lt (o.getD (itOf x.1) 0) (mem_getD.mpr ⟨_, by rw [ho.len]; exact hx, rfl⟩)
      omega
    show (match S.lookup (itOf x.1) with
      | some r => if r = x.2 ∧ x.2 < n then ordGo n S t else 0
      | none => if x.2 < n then ordGo n (S ++ [(itOf x.1, x.2)]) t else 0) = _
    cases e : S.lookup (itOf x.1) with
    | some r =>
      have hm : (itOf x.1, r) ∈ S := by
        clear zero big hk hl
        induction S with
        | nil => cases e
        | cons y S ih =>
          obtain ⟨a, b⟩ := y
          rw [List.lookup_cons] at e
          split at e
          · rename_i h
            have h : itOf x.1 = a := by simpa using h
            cases e
            rw [h]; exact List.mem_cons_self
          · exact List.mem_cons_of_mem _ (ih e)
      show (if r = x.2 ∧ x.2 < n then ordGo n S t else 0) = _
      by_cases z : r = x.2 ∧ x.2 < n
      · rw [if_pos z, ordGo_count n t S hk hl ht]
        congr 1
        refine List.filter_congr fun o _ => ?_
        rw [List.all_cons]
        cases ha : agr S o with
        | false => rfl
        | true =>
          have : ordFit o x = true := decide_eq_true (by rw [agr_iff.mp ha _ hm]; exact z.1)
          rw [this]; rfl
      · rw [if_neg z]
        refine zero fun o ho ha hf => ?_
        by_cases y : x.2 < n
        · have h1 := of_decide_eq_true hf
          rw [agr_iff.mp ha _ hm] at h1
          exact z ⟨h1, y⟩
        · exact big y o ho ha hf
    | none =>
      show (if x.2 < n then ordGo n (S ++ [(itOf x.1, x.2)]) t else 0) = _
      by_cases z : x.2 < n
      · rw [if_pos z]
        have hnk : itOf x.1 ∉ S.map (·.1) := by
          intro h
          obtain ⟨y, hy, e2⟩ := List.mem_map.mp h
          have := List.lookup_eq_none_iff.mp e y hy
          simp [e2] at this
        rw [ordGo_count n t (S ++ [(itOf x.1, x.2)]) ?_ ?_ ht]
        · congr 1
          refine List.filter_congr fun o _ => ?_
          rw [List.all_cons]
          have : agr (S ++ [(itOf x.1, x.2)]) o = (agr S o && ordFit o x) := by
            unfold agr ordFit; rw [List.all_append]; simp
          rw [this, Bool.and_assoc]
        · rw [List.map_append, List.nodup_append]
          refine ⟨hk, by simp, fun a ha b hb e2 => ?_⟩
          have : b = itOf x.1 := by simpa using hb
          rw [e2, this] at ha
          exact hnk ha
        · intro y hy
          rcases List.mem_append.mp hy with hy | hy
          · exact hl y hy
          · rw [List.mem_singleton.mp hy]; exact ⟨hx, z⟩
      · rw [if_neg z]
        exact zero (big z)
theorem orders_count {n : Nat} {rows : List (Sg × Nat)} (h : ∀ x, x ∈ rows → itOf x.1 < n) : ordersLeft n rows = ((ordsN n).filter fun o => rows.all (ordFit o)).length := by
  unfold ordersLeft
  rw [ordGo_count n rows [] List.nodup_nil (fun _ z => nomatch z) h]
  congr 1
/-! rows of draws, draw by draw -/
def allK (k : Kn) : List Dr := (List.range (manyK k)).map (dOf k)
def cart : List Kn → List (List Dr)
  | [] => [[]]
  | k :: ks => (allK k).flatMap fun d => (cart ks).map (d :: ·)
theorem allK_mem {k : Kn} {d : Dr} : d ∈ allK k ↔ DrOk k d := by
  constructor
  · intro h
    obtain ⟨n, hn, rfl⟩ := List.mem_map.mp h
    exact dOf_okA (List.mem_range.mp hn)
  · intro h
    obtain ⟨n, h1, rfl⟩ := dOf_surj h
    exact List.mem_map.mpr ⟨n, List.mem_range.mpr h1, rfl⟩
theorem allK_nodup (k : Kn) : (allK k).Nodup := nodup_mapA (fun a ha b hb h => dOf_inj (List.mem_range.mp ha) (List.mem_range.mp hb) h) List.nodup_range
theorem cart_mem : ∀ {ks : List Kn} {ds : List Dr}, ds ∈ cart ks ↔ A2 DrOk ks ds
  | [], ds => by
    constructor
    · intro h
      rw [List.mem_singleton.mp h]; exact .nil
    · intro h
      cases h; exact List.mem_singleton.mpr rfl
  | k :: ks, ds => by
    constructor
    · intro h
      obtain ⟨d, hd, h2⟩ := List.mem_flatMap.mp h
      obtain ⟨e, he, rfl⟩ := List.mem_map.mp h2
      exact .cons (allK_mem.mp hd) (cart_mem.mp he)
    · intro h
      cases h with
      | cons a t => exact List.mem_flatMap.mpr ⟨_, allK_mem.mpr a, List.mem_map.mpr ⟨_, cart_mem.mpr t, rfl⟩⟩
theorem cart_nodup : ∀ ks : List Kn, (cart ks).Nodup
  | [] => by show [[]].Nodup; simp
  | k :: ks => by
    have ih := cart_nodup ks
    show List.Pairwise _ ((allK k).flatMap fun d => (cart ks).map (d :: ·))
    rw [List.pairwise_flatMap]
    refine ⟨fun d _ => nodup_mapA (fun a _ b _ h => (List.cons.inj h).2) ih, ?_⟩
    refine List.Pairwise.imp (fun {a b} hab x hx y hy e => hab ?_) (allK_nodup k)
    obtain ⟨x', _, rfl⟩ := List.mem_map.mp hx
    obtain ⟨y', _, rfl⟩ := List.mem_map.mp hy
    exact (List.cons.inj e).1
theorem allR_cart (ks : List Kn) : (allR ks).Perm (cart ks) := (List.perm_ext_iff_of_nodup (allR_nodup ks) (cart_nodup ks)).mpr fun _ => allR_mem.trans cart_mem.symm
def allP (p : Nat → Dr → Bool) : Nat → List Dr → Bool
  | _, [] => true
  | j, d :: ds => p j d && allP p (j + 1) ds
def prodC (p : Nat → Dr → Bool) : Nat → List Kn → Nat
  | _, [] => 1
  | j, k :: ks => ((allK k).filter (p j)).length * prodC p (j + 1) ks
theorem flat_count {p : Dr → Bool} {q : List Dr → Bool} {r : List Dr → Bool} (C : List (List Dr)) (h : ∀ d ds, r (d :: ds) = (p d && q ds)) : ∀ A : List Dr, ((A.flatMap fun d => C.map (d :: ·)).filter r).length = (A.filter p).length * (C.filter q).length
  | [] => by simp
  | d :: A => by
    rw [List.flatMap_cons, List.filter_append, List.length_append, flat_count C h A]
    have e : ((C.map (d :: ·)).filter r).length = if p d = true then (C.filter q).length else 0 := by
      rw [List.filter_map, List.length_map]
      have : (r ∘ (d :: ·)) = fun ds => p d && q ds := funext fun ds => h d ds
      rw [this]
      cases z : p d with
      | true => rw [if_pos rfl]; congr 1
      | false => rw [if_neg (by decide), List.length_eq_zero_iff, List.filter_eq_nil_iff]; intro a _ b; cases b
    rw [e]
    cases z : p d with
    | true => rw [if_pos rfl, List.filter_cons_of_pos z, List.length_cons, Nat.add_mul]; omega
    | false => rw [if_neg (by decide), List.filter_cons_of_neg (by rw [z]; decide)]; omega
theorem cart_count (p : Nat → Dr → Bool) : ∀ (ks : List Kn) (j : Nat), ((cart ks).filter (allP p j)).length = prodC p j ks
  | [], _ => rfl
  | k :: ks, j => by
    show (((allK k).flatMap fun d => (cart ks).map (d :: ·)).filter (allP p j)).length = _ * prodC p (j + 1) ks
    rw [flat_count (cart ks) (p := p j) (q := allP p (j + 1)) (fun _ _ => rfl) (allK k), cart_count p ks (j + 1)]
/-! touches of signs, draw by draw -/
def fitS (k : Kn) (d : Dr) (x : Sg × Nat) : Bool := match x.1 with
  | .room _ _ _ => false
  | .item _ _ _ i => decide ((orderOf (rowD d)).getD i 0 = x.2)
  | .way _ _ _ p e => decide (2 * nodeN k.n p (leafD d) + e = x.2)
theorem tch_iff {ks : List Kn} {ds : List Dr} {s : Sg} {t : Tch} : tchOf ks ds s = t ↔ okP (s, t) = true ∧ ∀ j, drI s = some j → fitS (ks.getD j ⟨true, 0⟩) (ds.getD j (.leaf 0)) (s, t.room) = true := by
  obtain ⟨tl, ts, tr⟩ := t
  cases s with
  | room b s r =>
    constructor
    · intro h
      have h : Tch.mk b s r = ⟨tl, ts, tr⟩ := h
      cases h
      exact ⟨by simp [okP], fun j z => nomatch z⟩
    · rintro ⟨h, _⟩
      simp [okP] at h
      obtain ⟨⟨rfl, rfl⟩, rfl⟩ := h
      rfl
  | item b s d i =>
    constructor
    · intro h
      have h : Tch.mk b s ((orderOf (rowD (ds.getD d (.leaf 0)))).getD i 0) = ⟨tl, ts, tr⟩ := h
      cases h
      exact ⟨by simp [okP], fun j z => by cases z; exact decide_eq_true rfl⟩
    · rintro ⟨h, h2⟩
      simp [okP] at h
      obtain ⟨rfl, rfl⟩ := h
      have := of_decide_eq_true (h2 d rfl)
      show Tch.mk _ _ ((orderOf (rowD (ds.getD d (.leaf 0)))).getD i 0) = _
      rw [this]
  | way b s d p e =>
    constructor
    · intro h
      have h : Tch.mk b s (2 * nodeN (ks.getD d ⟨true, 0⟩).n p (leafD (ds.getD d (.leaf 0))) + e) = ⟨tl, ts, tr⟩ := h
      cases h
      exact ⟨by simp [okP], fun j z => by cases z; exact decide_eq_true rfl⟩
    · rintro ⟨h, h2⟩
      simp [okP] at h
      obtain ⟨rfl, rfl⟩ := h
      have := of_decide_eq_true (h2 d rfl)
      show Tch.mk _ _ (2 * nodeN (ks.getD d ⟨true, 0⟩).n p (leafD (ds.getD d (.leaf 0))) + e) = _
      rw [this]
theorem map_zip {α β : Type} {f : α → β} : ∀ {l : List α} {m : List β}, l.map f = m ↔ l.length = m.length ∧ ∀ x, x ∈ l.zip m → f x.1 = x.2
  | [], [] => by simp
  | [], _ :: _ => by simp
  | _ :: _, [] => by simp
  | a :: l, b :: m => by
    rw [List.map_cons, List.cons.injEq, map_zip (l := l) (m := m), List.zip_cons_cons, List.length_cons, List.length_cons]
    constructor
    · rintro ⟨h1, h2, h3⟩
      refine ⟨by omega, fun x hx => ?_⟩
      rcases List.mem_cons.mp hx with rfl | hx
      · exact h1
      · exact h3 x hx
    · rintro ⟨h1, h2⟩
      exact ⟨h2 _ List.mem_cons_self, by omega, fun x hx => h2 x (List.mem_cons_of_mem _ hx)⟩
theorem allP_iff {p : Nat → Dr → Bool} : ∀ {ds : List Dr} {j : Nat}, allP p j ds = true ↔ ∀ i d, ds[i]? = some d → p (j + i) d = true
  | [], j => by
    constructor
    · intro _ i d h; cases h
    · intro _; rfl
  | d :: ds, j => by
    show (p j d && allP p (j + 1) ds) = true ↔ _
    rw [Bool.and_eq_true, allP_iff]
    constructor
    · rintro ⟨h1, h2⟩ i x hx
      cases i with
      | zero => cases hx; exact h1
      | succ i =>
        have := h2 i x (by simpa using hx)
        rw [show j + (i + 1) = j + 1 + i by omega]; exact this
    · intro h
      refine ⟨h 0 d rfl, fun i x hx => ?_⟩
      have := h (i + 1) x (by simpa using hx)
      rw [show j + 1 + i = j + (i + 1) by omega]; exact this
theorem rows_mem {j : Nat} {ps : List (Sg × Tch)} {y : Sg × Nat} : y ∈ rowsFor j ps ↔ ∃ x, x ∈ ps ∧ drI x.1 = some j ∧ y = (x.1, x.2.room) := by
  unfold rowsFor
  rw [List.mem_map]
  constructor
  · rintro ⟨x, hx, rfl⟩
    obtain ⟨h1, h2⟩ := List.mem_filter.mp hx
    exact ⟨x, h1, of_decide_eq_true h2, rfl⟩
  · rintro ⟨x, h1, h2, rfl⟩
    exact ⟨x, List.mem_filter.mpr ⟨h1, decide_eq_true h2⟩, rfl⟩
theorem sg_draw {ks : List Kn} {s : Sg} {j : Nat} (h : SgOk ks s) (e : drI s = some j) : j < ks.length := by
  cases s with
  | room => cases e
  | item b s d i =>
    cases e
    obtain ⟨n, h1, _⟩ := h
    exact (List.getElem?_eq_some_iff.mp h1).1
  | way b s d p q =>
    cases e
    obtain ⟨n, h1, _⟩ := h
    exact (List.getElem?_eq_some_iff.mp h1).1
def pOf (ks : List Kn) (ps : List (Sg × Tch)) (j : Nat) (d : Dr) : Bool := (rowsFor j ps).all (fitS (ks.getD j ⟨true, 0⟩) d)
theorem seen_iff {ks : List Kn} {ds : List Dr} {sgs : List Sg} {ts : List Tch} (hd : A2 DrOk ks ds) (hs : ∀ s, s ∈ sgs → SgOk ks s) : sgs.map (tchOf ks ds) = ts ↔ (sgs.length = ts.length ∧ (sgs.zip ts).all okP = true) ∧ allP (pOf ks (sgs.zip ts)) 0 ds = true := by
  have hl := hd.len
  rw [map_zip, allP_iff, List.all_eq_true]
  constructor
  · rintro ⟨h1, h2⟩
    refine ⟨⟨h1, fun x hx => (tch_iff.mp (h2 x hx)).1⟩, fun i d hi => ?_⟩
    rw [Nat.zero_add]
    unfold pOf
    rw [List.all_eq_true]
    intro y hy
    obtain ⟨x, hx, e, rfl⟩ := rows_mem.mp hy
    have := (tch_iff.mp (h2 x hx)).2 i e
    rw [List.getD_eq_getElem?_getD (l := ds), hi] at this
    exact this
  · rintro ⟨⟨h1, h2⟩, h3⟩
    refine ⟨h1, fun x hx => tch_iff.mpr ⟨h2 x hx, fun j e => ?_⟩⟩
    have hj : j < ds.length := by rw [← hl]; exact sg_draw (hs x.1 (List.of_mem_zip hx).1) e
    have := h3 j _ (List.getElem?_eq_getElem hj)
    rw [Nat.zero_add] at this
    unfold pOf at this
    have := List.all_eq_true.mp this (x.1, x.2.room) (rows_mem.mpr ⟨x, hx, e, rfl⟩)
    rw [List.getD_eq_getElem?_getD (l := ds), List.getElem?_eq_getElem hj]
    exact this
theorem filter_map_len {α β : Type} (f : α → β) (p : β → Bool) (l : List α) : ((l.map f).filter p).length = (l.filter fun x => p (f x)).length := by
  rw [List.filter_map, List.length_map]; rfl
/-- one draw alone -/
theorem cntK_count {ks : List Kn} {sgs : List Sg} {ts : List Tch} {j : Nat} {k : Kn} (hk : ks[j]? = some k) (hs : ∀ s, s ∈ sgs → SgOk ks s) : cntK k (rowsFor j (sgs.zip ts)) = ((allK k).filter (pOf ks (sgs.zip ts) j)).length := by
  have hg : ks.getD j ⟨true, 0⟩ = k := by rw [List.getD_eq_getElem?_getD, hk]; rfl
  unfold cntK allK
  rw [filter_map_len]
  unfold pOf
  rw [hg]
  have hrow : ∀ y, y ∈ rowsFor j (sgs.zip ts) → SgOk ks y.1 ∧ drI y.1 = some j := fun y hy => by
    obtain ⟨x, hx, e, rfl⟩ := rows_mem.mp hy
    exact ⟨hs x.1 (List.of_mem_zip hx).1, e⟩
  revert hrow
  generalize rowsFor j (sgs.zip ts) = rows
  intro hrow
  cases el : k.leaf with
  | true =>
    rw [if_pos rfl]
    have hm : manyK k = 2 ^ k.n := by unfold manyK; rw [if_pos el]
    unfold leavesLeft
    rw [hm]
    congr 1
    refine List.filter_congr fun x _ => ?_
    have hd : dOf k x = .leaf x := by unfold dOf; rw [if_pos el]
    rw [hd, Bool.eq_iff_iff, List.all_eq_true, List.all_eq_true]
    refine ⟨fun h y hy => ?_, fun h y hy => ?_⟩
    · have h1 := h y hy
      obtain ⟨h2, h3⟩ := hrow y hy
      obtain ⟨s, r⟩ := y
      cases s with
      | room => cases h3
      | item b s d i => cases h1
      | way b s d p q => exact h1
    · have h1 := h y hy
      obtain ⟨h2, h3⟩ := hrow y hy
      obtain ⟨s, r⟩ := y
      cases s with
      | room => cases h3
      | item b s d i =>
        cases h3
        obtain ⟨n, e, _⟩ := h2
        rw [hk] at e
        cases e
        cases el
      | way b s d p q => exact h1
  | false =>
    rw [if_neg (by decide)]
    have hm : manyK k = fac k.n := by unfold manyK; rw [if_neg (by rw [el]; decide)]
    have hit : ∀ y, y ∈ rows → ∃ b s d i, y.1 = Sg.item b s d i ∧ i < k.n := fun y hy => by
      obtain ⟨h2, h3⟩ := hrow y hy
      obtain ⟨s, r⟩ := y
      cases s with
      | room => cases h3
      | item b s d i =>
        cases h3
        obtain ⟨n, e, h4⟩ := h2
        rw [hk] at e
        cases e
        exact ⟨b, s, _, i, rfl, h4⟩
      | way b s d p q =>
        cases h3
        obtain ⟨n, e, _⟩ := h2
        rw [hk] at e
        cases e
        cases el
    rw [orders_count fun y hy => by obtain ⟨b, s, d, i, e, h4⟩ := hit y hy; rw [e]; exact h4]
    unfold ordsN
    rw [filter_map_len, hm]
    congr 1
    refine List.filter_congr fun x _ => ?_
    have hd : dOf k x = .row (rowAt k.n x) := by unfold dOf; rw [if_neg (by rw [el]; decide)]
    rw [hd, Bool.eq_iff_iff, List.all_eq_true, List.all_eq_true]
    refine ⟨fun h y hy => ?_, fun h y hy => ?_⟩
    · have h1 := h y hy
      obtain ⟨b, s, d, i, e, _⟩ := hit y hy
      obtain ⟨s', r⟩ := y
      have e : s' = Sg.item b s d i := e
      subst e
      exact h1
    · have h1 := h y hy
      obtain ⟨b, s, d, i, e, _⟩ := hit y hy
      obtain ⟨s', r⟩ := y
      have e : s' = Sg.item b s d i := e
      subst e
      exact h1
theorem prod_count {ks : List Kn} {sgs : List Sg} {ts : List Tch} (hs : ∀ s, s ∈ sgs → SgOk ks s) : ∀ (k2 : List Kn) (j : Nat), ks.drop j = k2 → prodFrom (sgs.zip ts) j k2 = prodC (pOf ks (sgs.zip ts)) j k2
  | [], _, _ => rfl
  | k :: k2, j, e => by
    have hk : ks[j]? = some k := by
      have := List.getElem?_drop (xs := ks) (i := j) (j := 0)
      rw [e, Nat.add_zero] at this
      exact this.symm
    have e2 : ks.drop (j + 1) = k2 := by
      rw [← List.drop_drop, e]; rfl
    show cntK k (rowsFor j (sgs.zip ts)) * prodFrom (sgs.zip ts) (j + 1) k2 = ((allK k).filter (pOf ks (sgs.zip ts) j)).length * prodC (pOf ks (sgs.zip ts)) (j + 1) k2
    rw [cntK_count hk hs, prod_count hs k2 (j + 1) e2]
/-- what is told is how many rows of draws bring just these touches -/
theorem comes_count {ks : List Kn} {sgs : List Sg} {ts : List Tch} (hs : ∀ s, s ∈ sgs → SgOk ks s) : comesF ks sgs ts = ((allR ks).filter fun d => decide (sgs.map (tchOf ks d) = ts)).length := by
  have hp := ((allR_cart ks).filter fun d => decide (sgs.map (tchOf ks d) = ts)).length_eq
  rw [hp]
  unfold comesF
  by_cases z : sgs.length = ts.length ∧ (sgs.zip ts).all okP = true
  · rw [if_pos z, prod_count hs ks 0 rfl, ← cart_count]
    congr 1
    refine List.filter_congr fun d hd => ?_
    rw [Bool.eq_iff_iff, decide_eq_true_iff, seen_iff (cart_mem.mp hd) hs]
    exact ⟨fun h => ⟨z, h⟩, fun h => h.2⟩
  · rw [if_neg z]
    symm
    rw [List.length_eq_zero_iff, List.filter_eq_nil_iff]
    intro d hd h
    exact z ((seen_iff (cart_mem.mp hd) hs).mp (of_decide_eq_true h)).1
end

section
variable {K : PySem.W.Frag} {vs : List V} {G : Hp} {M : Mem} {R : KR} {Z : KX}
theorem dec_nat (a b : Nat) : decide (V.int (a : Int) = V.int (b : Int)) = decide (a = b) := by
  by_cases h : a = b
  · subst h; rw [decide_eq_true rfl, decide_eq_true rfl]
  · rw [decide_eq_false h, decide_eq_false (fun z => h (by have := V.int.inj z; omega))]
theorem sr_inv {v : V} {x : Sg × Nat} (h : Dp K G v (srD x)) : ∃ T Ts, v = .ref T ∧ SqT K G T [.ref Ts, .int (x.2 : Nat)] ∧ SqT K G Ts x.1.vs := by
  obtain ⟨T, xs, rfl, hT, hxs⟩ := dp_tup_inv h
  cases hxs with
  | cons a t =>
    cases t with
    | cons b u =>
      cases u
      obtain ⟨Ts, rfl, hTs⟩ := sg_inv a
      obtain rfl := dp_int_inv b
      exact ⟨T, Ts, rfl, hT, hTs⟩
theorem pf_leaves_left (h : S_leaves_left K vs G M R Z) : rd_leaves_left K (ends R Z) (sta 7 vs) G M := by
  obtain ⟨_, _, rfl, hg, b, us, rows, rfl, hh, rfl, hb, hus, hl, hr, q⟩ := sp2_of h
  have h64 : 2 ^ hg ≤ 2 ^ 6 := Nat.pow_le_pow_right (by decide) hh
  have hul : us.length = rows.length := by rw [dpall_len hus, List.length_map]
  refine ⟨G, M, Wk.refl, G, M, Wk.refl, hg, rfl, by omega, ⟨Int.le_trans (by decide) (Int.natCast_nonneg (2 ^ hg)), Int.lt_of_le_of_lt (Int.ofNat_le.mpr h64) (by decide)⟩, fun i σ G' M' => ∃ y3 y4, σ = [some (.int hg), some (.ref b), some (.int (((List.range i).filter fun leaf => rows.all (leafFit hg leaf)).length : Nat)), y3, y4, none, none] ∧ G' = G ∧ M' = M, ⟨none, none, rfl, rfl, rfl⟩, fun _ _ _ _ _ _ => trivial, ?_, ?_⟩
  · rintro i σ G' M' hi ⟨y3, y4, rfl, hG, hM⟩
    subst hG; subst hM
    refine asg_R (v := (i : Int)) (by omega) ?_
    refine ⟨G', M', Wk.refl, us, .inr hb, sz (by show us.length ≤ _; omega), fun j acc G2 M2 => acc = (((rows.take j).filter fun x => !leafFit hg i x).map fun x => ((x.2 : Nat) : Int)).map V.int ∧ G2 = G' ∧ M2 = M', ⟨rfl, rfl, rfl⟩, ?_, ?_, ?_⟩
    · rintro j acc G2 M2 _ ⟨rfl, rfl, rfl⟩; exact .inr hb
    · rintro j acc G2 M2 D hj hacc ⟨rfl, hG, hM⟩ fD
      subst hG; subst hM
      have hj : j < us.length := hj
      obtain ⟨x, hx⟩ : ∃ x, rows[j]? = some x := ⟨_, List.getElem?_eq_getElem (by omega)⟩
      obtain ⟨v, hv, hvd⟩ := dpall_get (d := srD x) hus (by rw [List.getElem?_map, hx]; rfl)
      obtain ⟨T, Ts, rfl, hT, hTs⟩ := sr_inv hvd
      obtain ⟨a, s, d, p, e, hxe, hp⟩ := hr x (List.mem_of_getElem? hx)
      obtain ⟨sg, r⟩ := x
      have hxe : sg = Sg.way a s d p e := hxe
      subst hxe
      refine asg_L hv ⟨_, hT, rfl, _, _, tup_g hTs, rfl, hg, p, i, rfl, rfl, rfl, hp, hh, _, _, tup_g hTs, rfl, nodeN hg p i, e, rfl, rfl, ?_⟩
      have hfit : leafFit hg i (Sg.way a s d p e, r) = decide (V.int ((2 * nodeN hg p i + e : Nat) : Int) = V.int (r : Nat)) := by rw [dec_nat]; rfl
      refine ite2' (c := !decide (V.int ((2 * nodeN hg p i + e : Nat) : Int) = V.int (r : Nat))) (fun z => ?_) (fun z => ?_)
      · refine ⟨_, _, Wk.refl, ?_, rfl, rfl⟩
        rw [take_succ' hx, List.filter_append, List.filter_cons_of_pos (by rw [hfit]; exact z), List.map_append, List.map_append]; rfl
      · refine ⟨_, _, Wk.refl, ?_, rfl, rfl⟩
        rw [take_succ' hx, List.filter_append, List.filter_cons_of_neg (by rw [hfit]; rw [z]; decide), List.filter_nil, List.append_nil]
    · rintro acc G2 M2 p ⟨rfl, hG, hM⟩ hacc fp
      subst hG; subst hM
      have e0 : rows.take us.length = rows := by rw [hul, List.take_length]
      obtain ⟨ns, hns⟩ : ∃ ns, ns = ((rows.take us.length).filter fun x => !leafFit hg i x).map fun x => ((x.2 : Nat) : Int) := ⟨_, rfl⟩
      refine ⟨G2, (p, .lst (ns.map V.int)) :: M2, by rw [hns]; exact Wk.refl, sz0, fun z fz => ?_⟩
      refine ⟨.list (ns.map .int), .list [], dat_ints (lat_cons lat_0), dat_ints (ns := []) lat_0, (shp_ints (n := 0) _).shaped (by decide), (shp_ints (n := 0) []).shaped (by decide), ?_⟩
      have hb2 : PyData.eqv (.list (ns.map .int)) (.list []) = rows.all (leafFit hg i) := by
        rw [eqvL_nil, hns, e0]
        cases c : rows.all (leafFit hg i) with
        | true =>
          have : (rows.filter fun x => !leafFit hg i x) = [] := List.filter_eq_nil_iff.mpr fun x hx => by
            have := List.all_eq_true.mp c x hx
            simp [this]
          rw [this]; rfl
        | false =>
          obtain ⟨x, hx, hx2⟩ := List.all_eq_false.mp c
          have : x ∈ rows.filter fun x => !leafFit hg i x := List.mem_filter.mpr ⟨hx, by simpa using hx2⟩
          cases y : (rows.filter fun x => !leafFit hg i x) with
          | nil => rw [y] at this; cases this
          | cons u l => rfl
      refine ⟨G2, M2, Wk.drop0.trans Wk.drop0, some (.int i), some (.ref p), ?_, rfl, rfl⟩
      show ([some (V.int (hg : Int)), some (V.ref b), some (V.int ((((List.range i).filter fun leaf => rows.all (leafFit hg leaf)).length : Nat) + (if PyData.eqv (.list (ns.map .int)) (.list []) = true then 1 else 0))), some (V.int i), some (V.ref p), none, none] : St) = _
      rw [hb2, List.range_succ, List.filter_append, List.length_append]
      cases c : rows.all (leafFit hg i) with
      | true => rw [List.filter_cons_of_pos (p := fun leaf => rows.all (leafFit hg leaf)) c]; rfl
      | false => rw [List.filter_cons_of_neg (p := fun leaf => rows.all (leafFit hg leaf)) (by rw [c]; decide)]; rfl
  · rintro σ G' M' ⟨y3, y4, rfl, rfl, rfl⟩
    refine ⟨_, _, Wk.refl, ret0 ?_⟩
    have q : R (.int (((List.range (2 ^ hg)).filter fun leaf => rows.all (leafFit hg leaf)).length : Nat)) G' M' := q
    show R (.int (((List.range ((2 ^ hg : Nat) : Int).toNat).filter fun leaf => rows.all (leafFit hg leaf)).length : Nat)) G' M'
    rw [Int.toNat_natCast]; exact q
/-! orders -/
theorem hget_lookup : ∀ (S : List (Nat × Nat)) (i : Nat), hGet S i = S.lookup i
  | [], _ => rfl
  | (a, r) :: S, i => by
    have ih := hget_lookup S i
    unfold hGet at ih ⊢
    rw [List.lookup_cons]
    by_cases e : a = i
    · rw [List.find?_cons_of_pos (by rw [decide_eq_true e])]
      have : (i == a) = true := by simp [e]
      rw [this]; rfl
    · rw [List.find?_cons_of_neg (by rw [decide_eq_false e]; exact Bool.false_ne_true), ih]
      have : (i == a) = false := by simp; exact fun z => e z.symm
      rw [this]
theorem pf_orders_left (h : S_orders_left K vs G M R Z) : rd_orders_left K (ends R Z) (sta 5 vs) G M := by
  obtain ⟨_, _, rfl, n, b, us, rows, rfl, hn, rfl, hb, hus, hl, hr, q⟩ := sp2_of h
  have hul : us.length = rows.length := by rw [dpall_len hus, List.length_map]
  refine ⟨G, M, Wk.refl, fun p fp => ?_⟩
  refine ⟨G, (p, .dK (handK [])) :: M, Wk.refl, us, .inr hb, fun i σ G' M' => ∃ (S : List (Nat × Nat)) (y3 y4 : Option V), σ = [some (.int n), some (.ref b), some (.ref p), y3, y4] ∧ G' = G ∧ M' = (p, .dK (handK S)) :: M ∧ ordersLeft n rows = ordGo n S (rows.drop i) ∧ (S.map (·.1)).Nodup ∧ (∀ x, x ∈ S → x.1 < n ∧ x.2 < n), ⟨[], none, none, rfl, rfl, rfl, rfl, List.nodup_nil, fun _ z => nomatch z⟩, ?_, ?_, ?_⟩
  · rintro i σ G' M' _ ⟨S, y3, y4, rfl, rfl, rfl, _⟩; exact .inr hb
  · rintro i σ G' M' hi ⟨S, y3, y4, rfl, hG, rfl, hS, hk, hv⟩
    subst hG
    have hi : i < us.length := hi
    obtain ⟨x, hx⟩ : ∃ x, rows[i]? = some x := ⟨_, List.getElem?_eq_getElem (by omega)⟩
    obtain ⟨v, hv1, hvd⟩ := dpall_get (d := srD x) hus (by rw [List.getElem?_map, hx]; rfl)
    obtain ⟨T, Ts, rfl, hT, hTs⟩ := sr_inv hvd
    obtain ⟨a, s, d, it, hxe, hit⟩ := hr x (List.mem_of_getElem? hx)
    obtain ⟨sg, r⟩ := x
    have hxe : sg = Sg.item a s d it := hxe
    subst hxe
    rw [drop_get hx] at hS
    have hSl : S.length ≤ n := by
      have := sub_len (S.map (·.1)) (List.range n) hk fun x hx => by
        obtain ⟨y, hy, rfl⟩ := List.mem_map.mp hx
        exact List.mem_range.mpr (hv y hy).1
      rwa [List.length_map, List.length_range] at this
    have hval : valV (handK S) (Sum.inl (it : Int)) = (S.lookup it).map fun (w : Nat) => V.int (w : Int) := by rw [hand_val, hget_lookup]
    have hS : ordersLeft n rows = (match S.lookup it with
      | some r' => if r' = r ∧ r < n then ordGo n S (rows.drop (i + 1)) else 0
      | none => if r < n then ordGo n (S ++ [(it, r)]) (rows.drop (i + 1)) else 0) := hS
    refine asg_L hv1 ⟨_, hT, G', _, Wk.refl, ⟨_, at_n (n := 0) rfl⟩, _, _, tup_g hTs, rfl, 0, handK S, .inl (it : Int), rfl, rfl, Nat.lt_of_le_of_lt (m := 64) (by rw [handK_len]; omega) (by decide), fun w hw => ?_, fun hw => ?_⟩
    · rw [hval] at hw
      obtain ⟨r', hr', rfl⟩ := Option.map_eq_some_iff.mp hw
      rw [hr'] at hS
      refine ite2' (c := !decide (V.int (r' : Int) = V.int (r : Int))) (fun z => ?_) (fun z => ?_)
      · rw [dec_nat] at z
        have z : r' ≠ r := by simpa using z
        refine ⟨G', _, Wk.refl, retW Wk.drop0 ?_⟩
        have := q G' Ex.refl
        rw [hS] at this
        have h0 : (if r' = r ∧ r < n then ordGo n S (rows.drop (i + 1)) else 0) = 0 := if_neg fun y => z y.1
        show R (.int ((0 : Nat) : Int)) G' M
        rw [← h0]; exact this
      · rw [dec_nat] at z
        have z : r' = r := by simpa using z
        subst z
        refine ite2' (c := decide ((n : Int) ≤ (r' : Int))) (fun y => ?_) (fun y => ?_)
        · have y := of_decide_eq_true y
          refine ⟨G', _, Wk.refl, retW Wk.drop0 ?_⟩
          have := q G' Ex.refl
          rw [hS] at this
          have h0 : (if r' = r' ∧ r' < n then ordGo n S (rows.drop (i + 1)) else 0) = 0 := if_neg fun y => by omega
          show R (.int ((0 : Nat) : Int)) G' M
          rw [← h0]; exact this
        · have y := of_decide_eq_false y
          refine ⟨G', _, Wk.refl, S, _, _, rfl, rfl, rfl, ?_, hk, hv⟩
          rw [hS]; exact if_pos ⟨rfl, by omega⟩
    · rw [hval] at hw
      have hw : S.lookup it = none := by
        cases e : S.lookup it with
        | none => rfl
        | some _ => rw [e] at hw; cases hw
      rw [hw] at hS
      refine ite2' (c := !decide (V.int (r : Int) = V.int (r : Int))) (fun z => (neq_self z).elim) (fun _ => ?_)
      refine ite2' (c := decide ((n : Int) ≤ (r : Int))) (fun y => ?_) (fun y => ?_)
      · have y := of_decide_eq_true y
        refine ⟨G', _, Wk.refl, retW (Wk.drop0 (x := (p, _))) ?_⟩
        have := q G' Ex.refl
        rw [hS] at this
        have h0 : (if r < n then ordGo n (S ++ [(it, r)]) (rows.drop (i + 1)) else 0) = 0 := if_neg (by omega)
        show R (.int ((0 : Nat) : Int)) G' M
        rw [← h0]; exact this
      · have y := of_decide_eq_false y
        have hput : putK (handK S) (Sum.inl (it : Int)) (.int (r : Int)) = handK (S ++ [(it, r)]) := by
          rw [hand_put]
          unfold hPut
          rw [hget_lookup, hw]; rfl
        refine ⟨G', (p, .dK (handK (S ++ [(it, r)]))) :: M, by rw [← hput]; exact Wk.refl, S ++ [(it, r)], _, _, rfl, rfl, rfl, ?_, ?_, fun z hz => ?_⟩
        · rw [hS]; exact if_pos (by omega)
        · rw [List.map_append, List.nodup_append]
          refine ⟨hk, by simp, fun c hc d hd e2 => ?_⟩
          have : d = it := by simpa using hd
          rw [e2, this] at hc
          obtain ⟨y, hy, e3⟩ := List.mem_map.mp hc
          have := List.lookup_eq_none_iff.mp hw y hy
          simp [e3] at this
        · rcases List.mem_append.mp hz with hz | hz
          · exact hv z hz
          · rw [List.mem_singleton.mp hz]; exact ⟨hit, by show r < n; omega⟩
  · rintro σ G' M' ⟨S, y3, y4, rfl, hG, rfl, hS, hk, hv⟩
    subst hG
    have hS : ordersLeft n rows = ordGo n S (rows.drop us.length) := hS
    rw [hul, List.drop_length] at hS
    have hS : ordersLeft n rows = if (S.map (·.2)).Nodup then fac (n - S.length) else 0 := hS
    have hSl : S.length ≤ n := by
      have := sub_len (S.map (·.1)) (List.range n) hk fun x hx => by
        obtain ⟨y, hy, rfl⟩ := List.mem_map.mp hx
        exact List.mem_range.mpr (hv y hy).1
      rwa [List.length_map, List.length_range] at this
    have hnv : (handK S).map (·.2) = (S.map fun x => ((x.2 : Nat) : Int)).map V.int := by unfold handK; rw [List.map_map, List.map_map]; rfl
    have hnl : (S.map fun x => ((x.2 : Nat) : Int)).length = S.length := List.length_map _
    have hnd : (S.map fun x => ((x.2 : Nat) : Int)).Nodup ↔ (S.map (·.2)).Nodup := by
      constructor
      · intro y
        exact List.pairwise_map.mpr ((List.pairwise_map.mp y).imp fun {a b} z e => z (by rw [e]))
      · intro y
        exact List.pairwise_map.mpr ((List.pairwise_map.mp y).imp fun {a b} z e => z (by omega))
    refine ⟨G', _, Wk.refl, handK S, at_n (n := 0) rfl, fun p2 fp2 => ⟨S.map fun x => ((x.2 : Nat) : Int), by rw [← hnv]; exact lat_0, by omega, fun m m1 m2 => ⟨handK S, at_n (n := 1) rfl, ?_⟩⟩⟩
    rw [hnl] at m1 m2
    refine ite2' (c := decide ((m : Int) < ((handK S).length : Nat))) (fun z => ?_) (fun z => ?_)
    · have z := of_decide_eq_true z
      rw [handK_len] at z
      have hno : ¬ (S.map (·.2)).Nodup := fun y => by have := m2.mpr (hnd.mpr y); omega
      refine ⟨G', _, Wk.refl, retW (Wk.drop0.trans Wk.drop0) ?_⟩
      have := q G' Ex.refl
      rw [hS, if_neg hno] at this
      exact this
    · have z := of_decide_eq_false z
      rw [handK_len] at z
      have hyes : (S.map (·.2)).Nodup := hnd.mp (m2.mp (by omega))
      refine ⟨G', (p, .dK (handK S)) :: M, Wk.drop0, handK S, at_n (n := 0) rfl, sz2, fun T fT => ?_⟩
      have e : ((n : Int) - ((handK S).length : Nat)) = ((n - S.length : Nat) : Int) := by rw [handK_len]; omega
      have hT : SqT K (upd G' T (.tup [.str "shuffle", .int ((n : Int) - ((handK S).length : Nat))])) T [.str (Kn.txt ⟨false, n - S.length⟩), .int ((n - S.length : Nat) : Int)] := by rw [← e]; exact sqt_new
      refine ⟨⟨false, n - S.length⟩, dp_kn (k := ⟨false, n - S.length⟩) hT, by show n - S.length ≤ 64; omega, retW Wk.drop0 ?_⟩
      have := q _ (Ex.new fT (o := .tup [.str "shuffle", .int ((n : Int) - ((handK S).length : Nat))]))
      rw [hS, if_pos hyes] at this
      exact this
/-! signs by draws -/
theorem deed_eqv (b : Bool) (sh : Nat) (t : Tch) : PyData.eqv (.tuple [.str (deedS b), .int (sh : Int)]) (.tuple [.str t.txt, .int (t.shelf : Int)]) = (decide (t.lay = b) && decide (t.shelf = sh)) := by
  have e1 : PyData.eqv (.str (deedS b)) (.str t.txt) = decide (t.lay = b) := by
    unfold Tch.txt deedS
    cases b <;> cases t.lay <;> decide +kernel
  have e2 : PyData.eqv (.int (sh : Int)) (.int (t.shelf : Int)) = decide (t.shelf = sh) := by
    have h := eqvA_ints [(sh : Int)] [(t.shelf : Int)]
    rw [List.map_cons, List.map_nil, List.map_cons, List.map_nil] at h
    have h2 : PyData.eqvAll [.int (sh : Int)] [.int (t.shelf : Int)] = (PyData.eqv (.int (sh : Int)) (.int (t.shelf : Int)) && PyData.eqvAll [] []) := by rw [PySem.W.eqv_all_cons]
    have h3 : PyData.eqvAll [] [] = true := by rw [PyData.eqvAll]
    rw [h2, h3, Bool.and_true] at h
    rw [h]
    by_cases z : t.shelf = sh
    · rw [decide_eq_true z, decide_eq_true (by rw [z])]
    · rw [decide_eq_false z, decide_eq_false (fun y => z (by have := (List.cons.inj y).1; omega))]
  have h1 : PyData.eqv (.tuple [.str (deedS b), .int (sh : Int)]) (.tuple [.str t.txt, .int (t.shelf : Int)]) = PyData.eqvAll [.str (deedS b), .int (sh : Int)] [.str t.txt, .int (t.shelf : Int)] := by rw [PyData.eqv]
  have h2 : PyData.eqvAll [.str (deedS b), .int (sh : Int)] [.str t.txt, .int (t.shelf : Int)] = (PyData.eqv (.str (deedS b)) (.str t.txt) && (PyData.eqv (.int (sh : Int)) (.int (t.shelf : Int)) && PyData.eqvAll [] [])) := by rw [PySem.W.eqv_all_cons, PySem.W.eqv_all_cons]
  have h3 : PyData.eqvAll [] [] = true := by rw [PyData.eqvAll]
  rw [h1, h2, h3, e1, e2, Bool.and_true]
def Sg.bs : Sg → Bool × Nat
  | .room b s _ => (b, s)
  | .item b s _ _ => (b, s)
  | .way b s _ _ _ => (b, s)
theorem cells_at {cs : List (Addr × List V)} {j : Nat} {c : Addr × List V} {X : Addr × HO} (h : cs[j]? = some c) : (X :: ((cs.map fun c => (c.1, HO.lst c.2)) ++ M))[j + 1]? = some (c.1, .lst c.2) := by
  rw [List.getElem?_cons_succ, List.getElem?_append_left (by rw [List.length_map]; exact (List.getElem?_eq_some_iff.mp h).1), List.getElem?_map, h]; rfl
theorem rowsFor_snoc {j : Nat} {ps : List (Sg × Tch)} {s : Sg} {t : Tch} : rowsFor j (ps ++ [(s, t)]) = rowsFor j ps ++ if drI s = some j then [(s, t.room)] else [] := by
  unfold rowsFor
  rw [List.filter_append, List.map_append]
  congr 1
  by_cases z : drI s = some j
  · rw [if_pos z, List.filter_cons_of_pos (by rw [decide_eq_true z])]; rfl
  · rw [if_neg z, List.filter_cons_of_neg (by rw [decide_eq_false z]; exact Bool.false_ne_true)]; rfl
theorem pf_grouped (h : S_grouped K vs G M R Z) : rd_grouped K (ends R Z) (sta 7 vs) G M := by
  obtain ⟨_, _, _, rfl, a, o, t, us, ut, ks, sgs, ts, rfl, ⟨uk, huk, hkd, hk1, hk2⟩, rfl, ho, hus, rfl, ht, hut, hlen, hlm, hsg, q0, q1⟩ := sp3_of h
  clear h
  have hukl : uk.length = ks.length := by rw [dpall_len hkd, List.length_map]
  have husl : us.length = sgs.length := by rw [dpall_len hus, List.length_map]
  have hutl : ut.length = ts.length := by rw [dpall_len hut, List.length_map]
  refine ⟨G, M, Wk.refl, uk, huk, sz (by show uk.length ≤ _; omega), fun i acc G' M' => ∃ bs : List Addr, acc = bs.map V.ref ∧ bs.length = i ∧ G' = G ∧ M' = (bs.map fun b => (b, HO.lst [])) ++ M, ⟨[], rfl, rfl, rfl, rfl⟩, ?_, ?_, ?_⟩
  · rintro i acc G' M' _ ⟨bs, rfl, hb, rfl, rfl⟩
    exact lat_app huk
  · rintro i acc G' M' D hi hacc ⟨bs, rfl, hb, hG, rfl⟩ fD
    subst hG
    have hi : i < uk.length := hi
    obtain ⟨v, hv⟩ : ∃ v, uk[i]? = some v := ⟨_, List.getElem?_eq_getElem hi⟩
    refine asg_L hv ⟨rfl, sz0, fun p fp => ?_⟩
    refine ⟨G', ((bs ++ [p]).map fun b => (b, HO.lst [])) ++ M, Wk.perm ?_, bs ++ [p], by rw [List.map_append]; rfl, by rw [List.length_append, hb]; rfl, rfl, rfl⟩
    rw [List.map_append, List.append_assoc]
    show List.Perm ((D, HO.lst (bs.map V.ref)) :: ((bs.map fun b => (b, HO.lst [])) ++ ((p, HO.lst []) :: M))) _
    exact (List.Perm.cons _ List.perm_middle).trans (List.Perm.swap _ _ _)
  rintro acc G' M' f ⟨bs, rfl, hb, hG, rfl⟩ hacc ff
  subst hG
  have hb : bs.length = uk.length := hb
  obtain ⟨ps, hps⟩ : ∃ ps, ps = sgs.zip ts := ⟨_, rfl⟩
  rw [← hps] at q0 q1
  have hpl : ps.length = sgs.length := by rw [hps, List.length_zip]; omega
  refine ⟨G', (f, .lst ((bs.map fun b => (b, ([] : List V))).map fun c => V.ref c.1)) :: (((bs.map fun b => (b, ([] : List V))).map fun c => (c.1, HO.lst c.2)) ++ M), ?_, us, ut, lat_cons (lat_app ho), lat_cons (lat_app ht),
    fun i σ G2 M2 => ∃ (cs : List (Addr × List V)) (y5 y6 : Option V), σ = [some (.ref a), some (.ref o), some (.ref t), some (.ref f), none, y5, y6] ∧ Ex G' G2 ∧ M2 = (f, .lst (cs.map fun c => V.ref c.1)) :: ((cs.map fun c => (c.1, HO.lst c.2)) ++ M) ∧ cs.length = ks.length ∧ (∀ (j : Nat) c, cs[j]? = some c → DpAll K G2 c.2 ((rowsFor j (ps.take i)).map srD)) ∧ (ps.take i).all okP = true, ?_, ?_, ?_, ?_⟩
  · rw [List.map_map, List.map_map]; exact Wk.refl
  · refine ⟨bs.map fun b => (b, []), none, none, rfl, Ex.refl, rfl, by rw [List.length_map]; omega, fun j c hc => ?_, rfl⟩
    rw [List.getElem?_map] at hc
    obtain ⟨b, _, rfl⟩ := Option.map_eq_some_iff.mp hc
    exact .nil
  · rintro i σ G2 M2 _ ⟨cs, y5, y6, rfl, ex, rfl, _⟩
    exact ⟨lat_cons (lat_app (lat_ex ex ho)), lat_cons (lat_app (lat_ex ex ht))⟩
  · rintro i σ G2 M2 hi ⟨cs, y5, y6, rfl, ex, rfl, hcl, hcs, hok⟩
    have hi : i < min us.length ut.length := hi
    obtain ⟨s, hs⟩ : ∃ s, sgs[i]? = some s := ⟨_, List.getElem?_eq_getElem (by omega)⟩
    obtain ⟨tc, htc⟩ : ∃ tc, ts[i]? = some tc := ⟨_, List.getElem?_eq_getElem (by omega)⟩
    have hpi : ps[i]? = some (s, tc) := by rw [hps]; exact List.getElem?_zip_eq_some.mpr ⟨hs, htc⟩
    obtain ⟨v1, hv1, hvd1⟩ := dpall_get (d := sgD s) hus (by rw [List.getElem?_map, hs]; rfl)
    obtain ⟨v2, hv2, hvd2⟩ := dpall_get (d := tchD tc) hut (by rw [List.getElem?_map, htc]; rfl)
    obtain ⟨Ts, rfl, hTs⟩ := sg_inv hvd1
    obtain ⟨Tt, xt, rfl, hTt, hxt⟩ := dp_tup_inv hvd2
    have hxt : xt = tchV tc := by
      cases hxt with
      | cons a u =>
        cases u with
        | cons b w =>
          cases w with
          | cons c z =>
            cases z
            cases a; cases b; cases c; rfl
    subst hxt
    have hTs := ex_t ex hTs
    have hTt := ex_t ex hTt
    have hsok := hsg s (List.mem_of_getElem? hs)
    have htk : ps.take (i + 1) = ps.take i ++ [(s, tc)] := take_succ' hpi
    have hcut : ∃ n, s.vs.length = n + 4 ∧ cutV s.vs (some 1) (some 3) = [.str (deedS s.bs.1), .int (s.bs.2 : Nat)] := by
      cases s with
      | room b sh r => exact ⟨0, rfl, rfl⟩
      | item b sh d i => exact ⟨1, rfl, rfl⟩
      | way b sh d p e => exact ⟨2, rfl, rfl⟩
    obtain ⟨n4, hn4, hcut⟩ := hcut
    -- what is told where a touch can't be
    have bad : okP (s, tc) = false → ps.all okP = false := fun z => List.all_eq_false.mpr ⟨(s, tc), List.mem_of_getElem? hpi, by rw [z]; decide⟩
    have wkb : ∀ {G3 : Hp}, Ex G2 G3 → okP (s, tc) = false → wkR R .non G3 ((f, .lst (cs.map fun c => V.ref c.1)) :: ((cs.map fun c => (c.1, HO.lst c.2)) ++ M)) := fun e3 z => retW (Wk.drop0.trans (Wk.dropP _)) (q0 (bad z) _ (ex.trans e3))
    refine asg_Z hv1 hv2 ⟨G2, _, Wk.refl, s.vs, hTs, fun z => absurd z.1 (by rw [hn4]; show ¬ ((1 : Nat) = 0); decide), fun _ p1 f1 => ?_⟩
    have e1 := Ex.new (o := .tup (cutV s.vs (some 1) (some 3))) f1
    refine ⟨tchV tc, ex_t e1 hTt, fun z => absurd z (by show ¬ (HT.sIx 3 0 none = 0 ∧ HT.sIx 3 3 (some 2) = 3); decide), fun _ p2 f2 => ?_⟩
    have e2 := Ex.new (o := .tup (cutV (tchV tc) none (some 2))) f2
    have e12 := e1.trans e2
    obtain ⟨G3, hG3⟩ : ∃ g, g = upd (upd G2 p1 (.tup (cutV s.vs (some 1) (some 3)))) p2 (.tup (cutV (tchV tc) none (some 2))) := ⟨_, rfl⟩
    have hp1 : SqT K G3 p1 [.str (deedS s.bs.1), .int (s.bs.2 : Nat)] := by rw [hG3, ← hcut]; exact ex_t e2 sqt_new
    have hp2 : SqT K G3 p2 [.str tc.txt, .int (tc.shelf : Nat)] := by
      rw [hG3]
      show SqT K (upd _ p2 (.tup [.str tc.txt, .int (tc.shelf : Nat)])) p2 _
      exact sqt_new
    rw [← hG3] at e12 ⊢
    have strk : ∀ (x : Str) (y : Int), PyData.strOk x = true → Shp 1 (.tuple [.str x, .int y]) := fun x y hx => .tuple fun d hd => by
      simp only [List.mem_cons, List.not_mem_nil, or_false] at hd
      rcases hd with rfl | rfl
      · exact .str hx
      · exact .int
    have s1 : PyData.strOk (deedS s.bs.1) = true := by cases s.bs.1 <;> decide +kernel
    have s2 : PyData.strOk tc.txt = true := by unfold Tch.txt; cases tc.lay <;> decide +kernel
    refine ⟨.tuple [.str (deedS s.bs.1), .int (s.bs.2 : Nat)], .tuple [.str tc.txt, .int (tc.shelf : Nat)], dat_tup hp1 (dats_cons dat_str (dats_cons dat_int dats_nil)), dat_tup hp2 (dats_cons dat_str (dats_cons dat_int dats_nil)), (strk _ _ s1).shaped (by decide), (strk _ _ s2).shaped (by decide), ?_⟩
    obtain ⟨A, hA⟩ : ∃ A, A = PyData.eqv (.tuple [.str (deedS s.bs.1), .int (s.bs.2 : Nat)]) (.tuple [.str tc.txt, .int (tc.shelf : Nat)]) := ⟨_, rfl⟩
    show if (!PyData.eqv (.tuple [.str (deedS s.bs.1), .int (s.bs.2 : Nat)]) (.tuple [.str tc.txt, .int (tc.shelf : Nat)])) = true then _ else _
    rw [← hA]
    rw [deed_eqv] at hA
    refine ite2' (c := !A) (fun z => ?_) (fun z => ?_)
    · have hbad : okP (s, tc) = false := by
        have z : A = false := by simpa using z
        rw [z] at hA
        cases s with
        | room b sh r =>
          show (decide (tc.lay = b) && decide (tc.shelf = sh) && decide (tc.room = r)) = false
          have hA : false = (decide (tc.lay = b) && decide (tc.shelf = sh)) := hA
          rw [← hA]; rfl
        | item b sh d i => exact hA.symm
        | way b sh d p e => exact hA.symm
      exact ⟨G3, _, Wk.refl, wkb e12 hbad⟩
    have z : A = true := by simpa using z
    rw [z] at hA
    have hTs3 := ex_t e12 hTs
    have hTt3 := ex_t e12 hTt
    have ex3 := ex.trans e12
    have hcs3 : ∀ (j : Nat) c, cs[j]? = some c → DpAll K G3 c.2 ((rowsFor j (ps.take i)).map srD) := fun j c hc => ex_ds e12 _ (hcs j c hc)
    have add : ∀ d, drI s = some d → okP (s, tc) = true → ∀ T G4, Ex G3 G4 → SqT K G4 T [.ref Ts, .int (tc.room : Nat)] → ∀ c, cs[d]? = some c →
        ∃ cs' : List (Addr × List V), cs' = cs.set d (c.1, c.2 ++ [.ref T]) ∧ cs'.length = ks.length ∧ (∀ (j : Nat) c, cs'[j]? = some c → DpAll K G4 c.2 ((rowsFor j (ps.take (i + 1))).map srD)) ∧ (ps.take (i + 1)).all okP = true := fun d hd hgood T G4 e4 hT c hc => by
      refine ⟨_, rfl, by rw [List.length_set]; exact hcl, fun j c' hc' => ?_, by rw [htk, List.all_append, hok]; simp [hgood]⟩
      rw [htk, rowsFor_snoc]
      by_cases y : j = d
      · subst y
        rw [List.getElem?_set_self (List.getElem?_eq_some_iff.mp hc).1] at hc'
        cases hc'
        rw [if_pos hd, List.map_append]
        exact dpall_snoc (ex_ds e4 _ (hcs3 _ _ hc)) (.tup hT (.cons (dp_sg (ex_t e4 hTs3)) (.cons (.int _) .nil)))
      · rw [List.getElem?_set_ne (Ne.symm y)] at hc'
        rw [if_neg (fun w => y (by rw [hd] at w; exact (Option.some.inj w).symm)), List.append_nil]
        exact ex_ds e4 _ (hcs3 _ _ hc')
    have setc : ∀ d c (T : Addr), cs[d]? = some c → (((f, HO.lst (cs.map fun c => V.ref c.1)) :: ((cs.map fun c => (c.1, HO.lst c.2)) ++ M)).set (d + 1) (c.1, .lst (c.2 ++ [.ref T]))) = (f, HO.lst ((cs.set d (c.1, c.2 ++ [.ref T])).map fun c => V.ref c.1)) :: (((cs.set d (c.1, c.2 ++ [.ref T])).map fun c => (c.1, HO.lst c.2)) ++ M) := fun d c T hc => by
      have hd := (List.getElem?_eq_some_iff.mp hc).1
      rw [List.set_cons_succ, List.set_append_left _ _ (by rw [List.length_map]; exact hd), List.map_set, List.map_set]
      congr 3
      symm
      exact set_self (by rw [List.getElem?_map, hc]; rfl)
    have rl : ∀ j, (rowsFor j (ps.take i)).length ≤ 1000000 := fun j => by
      unfold rowsFor
      rw [List.length_map]
      refine Nat.le_trans (List.length_filter_le _ _) ?_
      rw [List.length_take]; omega
    cases s with
    | room b sh r =>
      have hA : true = (decide (tc.lay = b) && decide (tc.shelf = sh)) := hA
      refine ⟨_, _, tup_g hTs3, rfl, ?_⟩
      refine ⟨_, .int (r : Nat), tup_g hTs3, rfl, _, .int (tc.room : Nat), tup_g hTt3, rfl, ?_⟩
      refine ite2' (c := !decide (V.int (r : Nat) = V.int (tc.room : Nat))) (fun y => ?_) (fun y => ?_)
      · rw [dec_nat] at y
        have y : r ≠ tc.room := by simpa using y
        refine ⟨G3, _, Wk.refl, wkb e12 ?_⟩
        show (decide (tc.lay = b) && decide (tc.shelf = sh) && decide (tc.room = r)) = false
        rw [decide_eq_false (p := tc.room = r) (fun w => y w.symm), Bool.and_false]
      · rw [dec_nat] at y
        have y : r = tc.room := by simpa using y
        have hgood : okP (Sg.room b sh r, tc) = true := by
          show (decide (tc.lay = b) && decide (tc.shelf = sh) && decide (tc.room = r)) = true
          rw [← hA, y]; simp
        refine ⟨G3, _, Wk.refl, _, _, tup_g hTs3, rfl, ?_⟩
        refine ⟨G3, _, Wk.refl, cs, _, _, rfl, ex3, rfl, hcl, fun j c hc => ?_, by rw [htk, List.all_append, hok]; simp [hgood]⟩
        rw [htk, rowsFor_snoc, if_neg (by intro w; cases w), List.append_nil]
        exact hcs3 j c hc
    | item b sh d it =>
      have hd := sg_draw hsok (j := d) rfl
      obtain ⟨c, hc⟩ : ∃ c, cs[d]? = some c := ⟨_, List.getElem?_eq_getElem (by omega)⟩
      have hclen := dpall_len (hcs3 d c hc)
      rw [List.length_map] at hclen
      have hr := rl d
      refine ⟨_, _, tup_g hTs3, rfl, ?_⟩
      refine ⟨G3, _, Wk.refl, _, _, tup_g hTs3, rfl, ?_⟩
      refine ⟨G3, _, Wk.refl, _, .int (d : Nat), tup_g hTs3, rfl, _, .ref c.1, lst_n (n := 0) rfl, atI_nat (by rw [List.getElem?_map, hc]; rfl), tyl_n (cells_at hc), _, .int (tc.room : Nat), tup_g hTt3, rfl, sz2, fun T fT => ?_⟩
      have e4 := Ex.new (o := .tup [.ref Ts, .int (tc.room : Nat)]) fT
      obtain ⟨cs', hcs', h1, h2, h3⟩ := add d rfl hA.symm T _ e4 sqt_new c hc
      refine ⟨d + 1, c.2, cells_at hc, Nat.lt_of_le_of_lt (m := 1000000) (by omega) (by decide), ?_⟩
      rw [setc d c T hc, ← hcs']
      exact ⟨_, _, Wk.refl, cs', _, _, rfl, ex3.trans e4, rfl, h1, h2, h3⟩
    | way b sh d dp e =>
      have hd := sg_draw hsok (j := d) rfl
      obtain ⟨c, hc⟩ : ∃ c, cs[d]? = some c := ⟨_, List.getElem?_eq_getElem (by omega)⟩
      have hclen := dpall_len (hcs3 d c hc)
      rw [List.length_map] at hclen
      have hr := rl d
      refine ⟨_, _, tup_g hTs3, rfl, ?_⟩
      refine ⟨G3, _, Wk.refl, _, _, tup_g hTs3, rfl, ?_⟩
      refine ⟨G3, _, Wk.refl, _, .int (d : Nat), tup_g hTs3, rfl, _, .ref c.1, lst_n (n := 0) rfl, atI_nat (by rw [List.getElem?_map, hc]; rfl), tyl_n (cells_at hc), _, .int (tc.room : Nat), tup_g hTt3, rfl, sz2, fun T fT => ?_⟩
      have e4 := Ex.new (o := .tup [.ref Ts, .int (tc.room : Nat)]) fT
      obtain ⟨cs', hcs', h1, h2, h3⟩ := add d rfl hA.symm T _ e4 sqt_new c hc
      refine ⟨d + 1, c.2, cells_at hc, Nat.lt_of_le_of_lt (m := 1000000) (by omega) (by decide), ?_⟩
      rw [setc d c T hc, ← hcs']
      exact ⟨_, _, Wk.refl, cs', _, _, rfl, ex3.trans e4, rfl, h1, h2, h3⟩
  · rintro σ G2 M2 ⟨cs, y5, y6, rfl, ex, rfl, hcl, hcs, hok⟩
    have en : (srcZ K o t us ut).n = ps.length := by show min us.length ut.length = _; omega
    rw [en, List.take_length] at hcs hok
    refine ⟨G2, _, Wk.refl, ?_⟩
    intro H hv
    obtain ⟨Mx, hMx⟩ : ∃ Mx : Mem, Mx = (f, HO.lst (cs.map fun c => V.ref c.1)) :: (cs.map fun c => (c.1, HO.lst c.2)) := ⟨_, rfl⟩
    have hm : (f, HO.lst (cs.map fun c => V.ref c.1)) :: ((cs.map fun c => (c.1, HO.lst c.2)) ++ M) = Mx ++ M := by rw [hMx]; rfl
    have hv : Hv G2 ((f, HO.lst (cs.map fun c => V.ref c.1)) :: ((cs.map fun c => (c.1, HO.lst c.2)) ++ M)) H := hv
    rw [hm] at hv
    have nc := Hv.newc ⟨H, hv⟩
    have ex3 := frzA_ex nc
    refine ⟨frzA G2 Mx, M, frzA_wk Mx G2 M H hv, q1 hok f _ (ex.trans ex3) (.lst (sql_of (frzA_at nc.2 (f, _) (by rw [hMx]; exact List.mem_cons_self))) ?_)⟩
    refine dpall_of (by rw [List.length_map, List.length_map, List.length_range]; exact hcl) fun j d hd => ?_
    have hj : j < ks.length := by
      have := (List.getElem?_eq_some_iff.mp hd).1
      rwa [List.length_map, List.length_range] at this
    rw [List.getElem?_map, List.getElem?_range hj] at hd
    cases hd
    obtain ⟨c, hc⟩ : ∃ c, cs[j]? = some c := ⟨_, List.getElem?_eq_getElem (by omega)⟩
    refine ⟨.ref c.1, by rw [List.getElem?_map, hc]; rfl, .lst (sql_of (frzA_at nc.2 (c.1, HO.lst c.2) (by rw [hMx]; exact List.mem_cons_of_mem _ (List.mem_map.mpr ⟨c, List.mem_of_getElem? hc, rfl⟩)))) (ex_ds ex3 _ (hcs j c hc))⟩
/-! the number of rows of draws -/
theorem ordGo_le (n : Nat) : ∀ (rows : List (Sg × Nat)) (S : List (Nat × Nat)), ordGo n S rows ≤ fac n
  | [], S => by
    show (if (S.map (·.2)).Nodup then fac (n - S.length) else 0) ≤ _
    split
    · exact fac_mono (by omega)
    · exact Nat.zero_le _
  | x :: t, S => by
    show (match S.lookup (itOf x.1) with
      | some r => if r = x.2 ∧ x.2 < n then ordGo n S t else 0
      | none => if x.2 < n then ordGo n (S ++ [(itOf x.1, x.2)]) t else 0) ≤ _
    split <;> split
    · exact ordGo_le n t S
    · exact Nat.zero_le _
    · exact ordGo_le n t _
    · exact Nat.zero_le _
theorem cntK_lt {k : Kn} (h : KnOk k) (rows : List (Sg × Nat)) : cntK k rows < 2 ^ 300 := by
  refine Nat.lt_of_le_of_lt ?_ (manyK_lt h)
  unfold cntK manyK
  split
  · unfold leavesLeft
    refine Nat.le_trans (List.length_filter_le _ _) ?_
    rw [List.length_range]; exact Nat.le_refl _
  · exact ordGo_le _ _ _
theorem pf_comes_of (h : S_comes_of K vs G M R Z) : rd_comes_of K (ends R Z) (sta 7 vs) G M := by
  obtain ⟨_, _, _, rfl, a, o, t, us, ut, ks, sgs, ts, rfl, hka, rfl, ho, hus, rfl, ht, hut, hl1, hl2, hsg, q⟩ := sp3_of h
  clear h
  obtain ⟨uk, huk, hkd, hk1, hk2⟩ := id hka
  have hukl : uk.length = ks.length := by rw [dpall_len hkd, List.length_map]
  have husl : us.length = sgs.length := by rw [dpall_len hus, List.length_map]
  have hutl : ut.length = ts.length := by rw [dpall_len hut, List.length_map]
  refine ⟨G, M, Wk.refl, us, .inl ho, ut, .inl ht, ?_⟩
  refine ite2' (c := !decide (V.int (us.length : Nat) = V.int (ut.length : Nat))) (fun z => ?_) (fun z => ?_)
  · rw [dec_nat] at z
    have z : us.length ≠ ut.length := by simpa using z
    have h0 : comesF ks sgs ts = 0 := if_neg fun w => z (by rw [husl, hutl]; exact w.1)
    rw [h0] at q
    exact ⟨G, M, Wk.refl, ret0 (q G Ex.refl)⟩
  rw [dec_nat] at z
  have z : us.length = ut.length := by simpa using z
  have hlen : sgs.length = ts.length := by omega
  obtain ⟨ps, hps⟩ : ∃ ps, ps = sgs.zip ts := ⟨_, rfl⟩
  refine ⟨G, M, Wk.refl, a, o, t, us, ut, ks, sgs, ts, rfl, hka, rfl, ho, hus, rfl, ht, hut, hlen, hl1, hsg, fun hbad G1 ex1 => ?_, fun hgood p G1 ex1 hp => ?_⟩
  · have h0 : comesF ks sgs ts = 0 := if_neg fun w => by rw [w.2] at hbad; cases hbad
    rw [h0] at q
    refine ⟨G1, M, Wk.refl, ?_⟩
    show kSeq (kRet (kC (.int 0))) kNext _ _ G1 M
    exact ⟨G1, M, Wk.refl, ret0 (q G1 ex1)⟩
  have hq : comesF ks sgs ts = prodFrom ps 0 ks := by rw [hps]; exact if_pos ⟨hlen, hgood⟩
  rw [hq] at q
  obtain ⟨p', rws, hpe, hpl, hrw⟩ := dp_list_inv hp
  cases hpe
  rw [← hps] at hrw
  have hrwl : rws.length = ks.length := by rw [dpall_len hrw, List.length_map, List.length_range]
  have hrow : ∀ j x, x ∈ rowsFor j ps → SgOk ks x.1 ∧ drI x.1 = some j := fun j x hx => by
    obtain ⟨y, hy, e, rfl⟩ := rows_mem.mp hx
    rw [hps] at hy
    exact ⟨hsg y.1 (List.of_mem_zip hy).1, e⟩
  have hrl : ∀ j, (rowsFor j ps).length ≤ 1000000 := fun j => by
    unfold rowsFor
    rw [List.length_map]
    refine Nat.le_trans (List.length_filter_le _ _) ?_
    rw [hps, List.length_zip]; omega
  refine ⟨G1, M, Wk.refl, ?_⟩
  show rd_comes_of_3 K (ends R Z) _ G1 M
  refine ⟨G1, M, Wk.refl, G1, M, Wk.refl, uk, rws, lat_ex ex1 huk, .inr hpl, fun i σ G2 M2 => ∃ (P : Nat) (y5 y6 : Option V), σ = [some (.ref a), some (.ref o), some (.ref t), some (.ref p), some (.int (P : Nat)), y5, y6] ∧ Ex G1 G2 ∧ M2 = M ∧ P * prodFrom ps i (ks.drop i) = prodFrom ps 0 ks ∧ P < 2 ^ (300 * i + 1), ⟨1, none, none, rfl, Ex.refl, rfl, by rw [List.drop_zero, Nat.one_mul], by decide⟩, ?_, ?_, ?_⟩
  · rintro i σ G2 M2 _ ⟨P, y5, y6, rfl, ex, rfl, _⟩
    exact ⟨lat_ex (ex1.trans ex) huk, .inr (ex_l ex hpl)⟩
  · rintro i σ G2 M2 hi ⟨P, y5, y6, rfl, ex, hM, hP, hPl⟩
    subst hM
    have hi : i < min uk.length rws.length := hi
    obtain ⟨k, hk⟩ : ∃ k, ks[i]? = some k := ⟨_, List.getElem?_eq_getElem (by omega)⟩
    have hok := hk1 k (List.mem_of_getElem? hk)
    obtain ⟨v1, hv1, hvd1⟩ := dpall_get (d := knD k) hkd (by rw [List.getElem?_map, hk]; rfl)
    obtain ⟨v2, hv2, hvd2⟩ := dpall_get (i := i) (d := .list ((rowsFor i ps).map srD)) hrw (by rw [List.getElem?_map, List.getElem?_range (by omega)]; rfl)
    obtain ⟨T, rfl, hT0⟩ := dp_kn_inv hvd1
    obtain ⟨b, rw_, rfl, hb0, hrb0⟩ := dp_list_inv hvd2
    have hT := ex_t (ex1.trans ex) hT0
    have hb := ex_l ex hb0
    have hrb := ex_ds ex _ hrb0
    rw [drop_get hk] at hP
    have hP : P * (cntK k (rowsFor i ps) * prodFrom ps (i + 1) (ks.drop (i + 1))) = prodFrom ps 0 ks := hP
    have hc := cntK_lt hok (rowsFor i ps)
    have hmul : ∀ c : Nat, c < 2 ^ 300 → MulOk (P : Nat) (c : Nat) := fun c hc => .inr (wide_mul (a := 300 * i + 1) (b := 300) hPl hc (by omega) (by decide) (by omega))
    have fin : ∀ (G3 : Hp) (y : Int), Ex G2 G3 → y = ((P * cntK k (rowsFor i ps) : Nat) : Int) → ∃ G' M', Wk G3 M2 G' M' ∧ ∃ (P : Nat) (y5 y6 : Option V), [some (V.ref a), some (.ref o), some (.ref t), some (.ref p), some (.int y), some (.ref T), some (.ref b)] = [some (V.ref a), some (.ref o), some (.ref t), some (.ref p), some (.int (P : Nat)), y5, y6] ∧ Ex G1 G' ∧ M' = M2 ∧ P * prodFrom ps (i + 1) (ks.drop (i + 1)) = prodFrom ps 0 ks ∧ P < 2 ^ (300 * (i + 1) + 1) := fun G3 y e3 hy => by
      refine ⟨G3, M2, Wk.refl, P * cntK k (rowsFor i ps), _, _, by rw [hy], ex.trans e3, rfl, by rw [Nat.mul_assoc]; exact hP, ?_⟩
      have : P * cntK k (rowsFor i ps) < 2 ^ (300 * i + 1) * 2 ^ 300 := Nat.mul_lt_mul'' hPl hc
      rw [← Nat.pow_add] at this
      rw [show 300 * (i + 1) + 1 = 300 * i + 1 + 300 by omega]; exact this
    refine asg_Z hv1 hv2 ⟨G2, _, Wk.refl, _, _, tup_g hT, rfl, ?_⟩
    show if decide (V.str k.txt = .str "leaf") = true then _ else _
    rw [txt_leaf]
    refine ite2' (fun el => ?_) (fun el => ?_)
    · have ec : cntK k (rowsFor i ps) = leavesLeft k.n (rowsFor i ps) := if_pos el
      refine ⟨G2, _, Wk.refl, _, _, tup_g hT, rfl, k.n, b, rw_, rowsFor i ps, rfl, hok.2.1 el, rfl, hb, hrb, hrl i, fun x hx => ?_, ?_⟩
      · obtain ⟨h2, h3⟩ := hrow i x hx
        obtain ⟨s, r⟩ := x
        cases s with
        | room => cases h3
        | item b s d it =>
          cases h3
          obtain ⟨n, e, _⟩ := h2
          rw [hk] at e
          cases e
          cases el
        | way b s d dp e =>
          cases h3
          obtain ⟨n, e2, h4, _⟩ := h2
          rw [hk] at e2
          cases e2
          exact ⟨b, s, _, dp, e, rfl, h4⟩
      · refine ⟨by rw [← ec]; exact hmul _ hc, ?_⟩
        exact fin G2 _ Ex.refl (by rw [ec]; exact (Int.natCast_mul _ _).symm)
    · have ec : cntK k (rowsFor i ps) = ordersLeft k.n (rowsFor i ps) := if_neg (by rw [el]; decide)
      refine ⟨G2, _, Wk.refl, _, _, tup_g hT, rfl, k.n, b, rw_, rowsFor i ps, rfl, hok.1, rfl, hb, hrb, hrl i, fun x hx => ?_, fun G3 ex3 => ?_⟩
      · obtain ⟨h2, h3⟩ := hrow i x hx
        obtain ⟨s, r⟩ := x
        cases s with
        | room => cases h3
        | item b s d it =>
          cases h3
          obtain ⟨n, e, h4⟩ := h2
          rw [hk] at e
          cases e
          exact ⟨b, s, _, it, rfl, h4⟩
        | way b s d dp e =>
          cases h3
          obtain ⟨n, e2, _⟩ := h2
          rw [hk] at e2
          cases e2
          cases el
      · refine ⟨by rw [← ec]; exact hmul _ hc, ?_⟩
        exact fin G3 _ ex3 (by rw [ec]; exact (Int.natCast_mul _ _).symm)
  · rintro σ G2 M2 ⟨P, y5, y6, rfl, ex, rfl, hP, _⟩
    have en : (srcZ K a p uk rws).n = ks.length := by show min uk.length rws.length = _; omega
    rw [en, List.drop_length] at hP
    have hP : P * 1 = prodFrom ps 0 ks := hP
    rw [Nat.mul_one] at hP
    refine ⟨G2, _, Wk.refl, ret0 ?_⟩
    show R (.int (P : Nat)) G2 M2
    rw [hP]; exact q G2 (ex1.trans ex)
end

section
theorem allKl_mem {k : Kn} {d : Dr} : d ∈ allKl k ↔ DrOk k d := allK_mem
theorem allKl_nodup (k : Kn) : (allKl k).Nodup := allK_nodup k
theorem a2_snoc {α β : Type} {r : α → β → Prop} {as : List α} {a : α} {bs : List β} : A2 r (as ++ [a]) bs ↔ ∃ bs' b, bs = bs' ++ [b] ∧ A2 r as bs' ∧ r a b := by
  induction as generalizing bs with
  | nil =>
    constructor
    · intro h
      cases h with
      | cons h t => cases t; exact ⟨[], _, rfl, .nil, h⟩
    · rintro ⟨bs', b, rfl, h1, h2⟩
      cases h1
      exact .cons h2 .nil
  | cons x as ih =>
    constructor
    · intro h
      cases h with
      | cons h t =>
        obtain ⟨bs', b, rfl, h1, h2⟩ := ih.mp t
        exact ⟨_ :: bs', b, rfl, .cons h h1, h2⟩
    · rintro ⟨bs', b, rfl, h1, h2⟩
      cases h1 with
      | cons h t => exact .cons h (ih.mpr ⟨_, _, rfl, t, h2⟩)
theorem lawAll_snoc (ks : List Kn) (k : Kn) : lawAll (ks ++ [k]) = (lawAll ks).flatMap fun d => (allKl k).map fun x => d ++ [x] := by
  unfold lawAll; rw [List.foldl_append]; rfl
theorem snoc_list {α : Type} {P : List α → Prop} (h0 : P []) (h1 : ∀ l a, P l → P (l ++ [a])) : ∀ l, P l := fun l => by
  have : ∀ n (l : List α), l.length = n → P l := fun n => by
    induction n with
    | zero => intro l hl; rw [List.length_eq_zero_iff.mp hl]; exact h0
    | succ n ih =>
      intro l hl
      have hne : l ≠ [] := fun z => by rw [z] at hl; cases hl
      rw [← List.dropLast_concat_getLast hne]
      exact h1 _ _ (ih _ (by rw [List.length_dropLast, hl]; rfl))
  exact this _ l rfl
theorem lawAll_mem : ∀ (ks : List Kn) (ds : List Dr), ds ∈ lawAll ks ↔ A2 DrOk ks ds := snoc_list (fun ds => by
  constructor
  · intro h
    rw [List.mem_singleton.mp h]; exact .nil
  · intro h; cases h; exact List.mem_singleton.mpr rfl) fun ks k ih ds => by
  rw [lawAll_snoc, a2_snoc]
  constructor
  · intro h
    obtain ⟨d, hd, h2⟩ := List.mem_flatMap.mp h
    obtain ⟨x, hx, rfl⟩ := List.mem_map.mp h2
    exact ⟨d, x, rfl, (ih d).mp hd, allKl_mem.mp hx⟩
  · rintro ⟨d, x, rfl, h1, h2⟩
    exact List.mem_flatMap.mpr ⟨d, (ih d).mpr h1, List.mem_map.mpr ⟨x, allKl_mem.mpr h2, rfl⟩⟩
theorem lawAll_nodup : ∀ ks : List Kn, (lawAll ks).Nodup := snoc_list (by show [[]].Nodup; simp) fun ks k ih => by
  rw [lawAll_snoc]
  show List.Pairwise _ _
  rw [List.pairwise_flatMap]
  refine ⟨fun d _ => nodup_mapA (fun a _ b _ h => by simpa using h) (allKl_nodup k), ?_⟩
  refine List.Pairwise.imp (fun {a b} hab x hx y hy e => hab ?_) ih
  obtain ⟨x', _, rfl⟩ := List.mem_map.mp hx
  obtain ⟨y', _, rfl⟩ := List.mem_map.mp hy
  exact (List.append_inj' e rfl).1
theorem lawAll_perm (ks : List Kn) : (lawAll ks).Perm (allR ks) := (List.perm_ext_iff_of_nodup (lawAll_nodup ks) (allR_nodup ks)).mpr fun ds => (lawAll_mem ks ds).trans allR_mem.symm
theorem law_count {ks : List Kn} {sgs : List Sg} {ts : List Tch} (hs : ∀ s, s ∈ sgs → SgOk ks s) : comesF ks sgs ts = ((lawAll ks).filter fun d => decide (sgs.map (tchOf ks d) = ts)).length := by
  rw [comes_count hs]
  exact ((lawAll_perm ks).filter _).length_eq.symm
/-! the product that the law reckons -/
def roomsOk (ps : List (Sg × Tch)) : Bool := (ps.filter fun x => decide (drI x.1 = none)).all okP
def fitP (ks : List Kn) (ps : List (Sg × Tch)) : Nat → Nat
  | 0 => 1
  | j + 1 => fitP ks ps j * fitF ks j ps
theorem prod_snoc (ps : List (Sg × Tch)) (ks : List Kn) : ∀ (k2 : List Kn) (j : Nat), ks.drop j = k2 → (∀ i, i < ks.length → ((ps.filter fun x => decide (drI x.1 = some i)).all okP) = true) → fitP ks ps j * prodFrom ps j k2 = fitP ks ps ks.length ∨ ks.length < j
  | [], j, e, _ => by
    have hl : ks.length ≤ j := List.drop_eq_nil_iff.mp e
    by_cases z : ks.length = j
    · left; rw [z]; show fitP ks ps j * 1 = _; rw [Nat.mul_one]
    · right; omega
  | k :: k2, j, e, h => by
    have hk : ks[j]? = some k := by
      have := List.getElem?_drop (xs := ks) (i := j) (j := 0)
      rw [e, Nat.add_zero] at this
      exact this.symm
    have e2 : ks.drop (j + 1) = k2 := by
      rw [← List.drop_drop, e]; rfl
    have hj : j < ks.length := (List.getElem?_eq_some_iff.mp hk).1
    have hg : ks.getD j ⟨true, 0⟩ = k := by rw [List.getD_eq_getElem?_getD, hk]; rfl
    rcases prod_snoc ps ks k2 (j + 1) e2 h with z | z
    · left
      rw [← z]
      show fitP ks ps j * (cntK k (rowsFor j ps) * prodFrom ps (j + 1) k2) = fitP ks ps j * fitF ks j ps * prodFrom ps (j + 1) k2
      have : fitF ks j ps = cntK k (rowsFor j ps) := by unfold fitF; rw [if_pos (h j hj), hg]
      rw [this, Nat.mul_assoc]
    · omega
theorem fitP_zero {ks : List Kn} {ps : List (Sg × Tch)} {i : Nat} (h : fitF ks i ps = 0) : ∀ j, i < j → fitP ks ps j = 0
  | 0, z => by omega
  | j + 1, z => by
    show fitP ks ps j * fitF ks j ps = 0
    by_cases e : i = j
    · rw [← e, h, Nat.mul_zero]
    · rw [fitP_zero h j (by omega), Nat.zero_mul]
theorem fit_eq {ks : List Kn} {sgs : List Sg} {ts : List Tch} (hs : ∀ s, s ∈ sgs → SgOk ks s) : (if ts.length = sgs.length ∧ roomsOk (sgs.zip ts) = true then fitP ks (sgs.zip ts) ks.length else 0) = comesF ks sgs ts := by
  unfold comesF
  obtain ⟨ps, hps⟩ : ∃ ps, ps = sgs.zip ts := ⟨_, rfl⟩
  rw [← hps]
  have hin : ∀ x, x ∈ ps → SgOk ks x.1 := fun x hx => by rw [hps] at hx; exact hs _ (List.of_mem_zip hx).1
  by_cases hl : sgs.length = ts.length
  · by_cases ha : ps.all okP = true
    · rw [if_pos ⟨hl.symm, List.all_eq_true.mpr fun x hx => List.all_eq_true.mp ha x (List.mem_filter.mp hx).1⟩, if_pos ⟨hl, ha⟩]
      have := prod_snoc ps ks ks 0 rfl fun i _ => List.all_eq_true.mpr fun x hx => List.all_eq_true.mp ha x (List.mem_filter.mp hx).1
      rcases this with z | z
      · rw [← z]; show 1 * _ = _; rw [Nat.one_mul]
      · omega
    · rw [if_neg (c := sgs.length = ts.length ∧ ps.all okP = true) (fun z => ha z.2)]
      have ha : ps.all okP = false := by simpa using ha
      obtain ⟨x, hx, hx2⟩ := List.all_eq_false.mp ha
      cases e : drI x.1 with
      | none =>
        refine if_neg fun z => ?_
        exact hx2 (List.all_eq_true.mp z.2 x (List.mem_filter.mpr ⟨hx, decide_eq_true e⟩))
      | some i =>
        have hi := sg_draw (hin x hx) e
        have : fitF ks i ps = 0 := if_neg fun z => hx2 (List.all_eq_true.mp z x (List.mem_filter.mpr ⟨hx, decide_eq_true e⟩))
        rw [fitP_zero this ks.length hi]
        split <;> rfl
  · rw [if_neg (fun z => hl z.1.symm), if_neg (fun z => hl z.1)]
end
section
variable {K : PySem.W.Frag} {vs : List V} {G : Hp} {M : Mem} {R : KR} {Z : KX}
theorem pf_law_kind (h : S_law_kind K vs G M R Z) : rd_law_kind K (ends R Z) (sta 1 vs) G M := by
  obtain ⟨_, rfl, p, n, c, s, rfl, hn, hs, q⟩ := sp1_of h
  clear h
  have h100 : (100 : Int) < 2 ^ 200 := by decide
  refine ⟨G, M, Wk.refl, p, 2, n, c, s, rfl, rfl, hn, hs, by decide, by decide, fun r c1 s1 r0 r1 hs1 => ?_⟩
  show if decide (V.int r = .int 0) = true then _ else _
  refine ite2' (fun e => ?_) (fun e => ?_)
  · refine ⟨G, _, Wk.refl, p, 3, n, c1, s1, rfl, rfl, set_n hn, hs1, by decide, by decide, fun r2 c2 s2 a0 a1 hs2 => ⟨sz2, fun T fT => ?_⟩⟩
    obtain ⟨x, rfl⟩ := Int.eq_ofNat_of_zero_le a0
    rw [List.set_set] at fT ⊢
    exact ret0 (q T ⟨true, x⟩ c2 s2 _ (Ex.new fT) sqt_new ⟨by show x ≤ 64; omega, fun _ => by show x ≤ 6; omega, fun z => by cases z⟩ (by show x ≤ 3; omega) hs2)
  · refine ⟨G, _, Wk.refl, p, 3, n, c1, s1, rfl, rfl, set_n hn, hs1, by decide, by decide, fun r2 c2 s2 a0 a1 hs2 => ⟨sz2, fun T fT => ?_⟩⟩
    obtain ⟨x, rfl⟩ := Int.eq_ofNat_of_zero_le a0
    rw [List.set_set] at fT ⊢
    have e : (1 : Int) + (x : Int) = ((1 + x : Nat) : Int) := by omega
    rw [e]
    exact ret0 (q T ⟨false, 1 + x⟩ c2 s2 _ (Ex.new fT) sqt_new ⟨by show 1 + x ≤ 64; omega, (fun z => by cases z), fun _ => by show 1 ≤ 1 + x; omega⟩ (by show 1 + x ≤ 3; omega) hs2)
theorem pf_law_great_kind (h : S_law_great_kind K vs G M R Z) : rd_law_great_kind K (ends R Z) (sta 1 vs) G M := by
  obtain ⟨_, rfl, p, n, c, s, rfl, hn, hs, q⟩ := sp1_of h
  clear h
  have h100 : (100 : Int) < 2 ^ 200 := by decide
  refine ⟨G, M, Wk.refl, p, 2, n, c, s, rfl, rfl, hn, hs, by decide, by decide, fun r c1 s1 r0 r1 hs1 => ?_⟩
  show if decide (V.int r = .int 0) = true then _ else _
  refine ite2' (fun e => ?_) (fun e => ?_)
  · refine ⟨G, _, Wk.refl, p, 7, n, c1, s1, rfl, rfl, set_n hn, hs1, by decide, by decide, fun r2 c2 s2 a0 a1 hs2 => ⟨sz2, fun T fT => ?_⟩⟩
    obtain ⟨x, rfl⟩ := Int.eq_ofNat_of_zero_le a0
    rw [List.set_set] at fT ⊢
    exact ret0 (q T ⟨true, x⟩ c2 s2 _ (Ex.new fT) sqt_new ⟨by show x ≤ 64; omega, fun _ => by show x ≤ 6; omega, fun z => by cases z⟩ (by show x ≤ 12; omega) hs2)
  · refine ⟨G, _, Wk.refl, p, 12, n, c1, s1, rfl, rfl, set_n hn, hs1, by decide, by decide, fun r2 c2 s2 a0 a1 hs2 => ⟨sz2, fun T fT => ?_⟩⟩
    obtain ⟨x, rfl⟩ := Int.eq_ofNat_of_zero_le a0
    rw [List.set_set] at fT ⊢
    have e : (1 : Int) + (x : Int) = ((1 + x : Nat) : Int) := by omega
    rw [e]
    exact ret0 (q T ⟨false, 1 + x⟩ c2 s2 _ (Ex.new fT) sqt_new ⟨by show 1 + x ≤ 64; omega, (fun z => by cases z), fun _ => by show 1 ≤ 1 + x; omega⟩ (by show 1 + x ≤ 12; omega) hs2)
theorem pf_law_great_draw (h : S_law_great_draw K vs G M R Z) : rd_law_great_draw K (ends R Z) (sta 3 vs) G M := by
  obtain ⟨_, _, rfl, p, n, c, s, k, rfl, hn, hs, hd, hk, hk12, q⟩ := sp2_of h
  obtain ⟨t, rfl, ht⟩ := dp_kn_inv hd
  have hk1 := hk.1
  refine ⟨G, M, Wk.refl, _, _, tup_g ht, rfl, ?_⟩
  show if decide (V.str k.txt = .str "leaf") = true then _ else _
  rw [txt_leaf]
  refine ite2' (fun e => ?_) (fun e => ?_)
  · have h6 := hk.2.1 e
    have e2 : (1 : Int) * 2 ^ (k.n : Int).toNat = ((2 ^ k.n : Nat) : Int) := by simp
    have p0 : 0 < 2 ^ k.n := Nat.pow_pos (by decide)
    have p6 : 2 ^ k.n ≤ 64 := Nat.pow_le_pow_right (n := 2) (by decide) h6
    refine ⟨G, M, Wk.refl, _, _, tup_g ht, rfl, ⟨by omega, by omega, by decide⟩, p, _, n, c, s, rfl, rfl, hn, hs, ?_, ?_, fun r c1 s1 r0 r1 hs1 => ?_⟩
    · rw [e2]; omega
    · rw [e2]
      have : (64 : Int) < 2 ^ 200 := by decide
      omega
    · rw [e2] at r1
      obtain ⟨v, rfl⟩ := Int.eq_ofNat_of_zero_le r0
      exact ret0 (q _ (.leaf v) c1 s1 G Ex.refl rfl ⟨e, by omega⟩ hs1)
  · refine ⟨G, M, Wk.refl, ?_⟩
    refine ⟨_, _, tup_g ht, rfl, ⟨by omega, by omega⟩, sz (by show (k.n : Int).toNat ≤ _; omega), fun i acc G' M' => ∃ (l : List Nat) (c' s' : Int), G' = G ∧ M' = M.set n (p, pool c' s') ∧ PoolOk s' ∧ l.length = i ∧ acc = natsV l ∧ RowOk l,
      ⟨[], c, s, rfl, (set_self hn).symm, hs, rfl, rfl, fun i v e => by simp at e⟩, fun _ _ _ _ _ _ => trivial, ?_, ?_⟩
    · rintro i acc G' M' D hi hacc ⟨l, c1, s1, rfl, rfl, hs1, rfl, rfl, hl⟩ fD
      have hi : l.length < (k.n : Int).toNat := hi
      have e0 : (0 : Int) + (l.length : Int) = (l.length : Int) := by omega
      refine ⟨rfl, p, (0 : Int) + (l.length : Int) + 1, n + 1, c1, s1, rfl, rfl, set_n hn, hs1, by omega, ?_, fun r c2 s2 r0 r1 hs2 => ?_⟩
      · have : (100 : Int) < 2 ^ 200 := by decide
        omega
      · obtain ⟨v, rfl⟩ := Int.eq_ofNat_of_zero_le r0
        refine ⟨G', M.set n (p, pool c2 s2), Wk.of_eq (by rw [List.set_cons_succ, List.set_set]), l ++ [v], c2, s2, rfl, rfl, hs2, by rw [List.length_append]; rfl, by rw [natsV_app2]; rfl, rowok_snoc hl (by omega)⟩
    · rintro acc G' M' w ⟨l, c1, s1, rfl, rfl, hs1, hl, rfl, hlr⟩ hacc fw
      have hl : l.length = (k.n : Int).toNat := hl
      refine retW (Wk.frz0 (M := M.set n (p, pool c1 s1))) (q _ (.row l) c1 s1 _ (Ex.new fw) ⟨w, rfl, .inr sql_new⟩ ⟨?_, by omega, hlr⟩ hs1)
      cases e3 : k.leaf with
      | false => rfl
      | true => rw [e3] at e; cases e
theorem pf_law_order (h : S_law_order K vs G M R Z) : rd_law_order K (ends R Z) (sta 4 vs) G M := by
  obtain ⟨_, rfl, a, l, rfl, ha, hr, hl, q⟩ := sp1_of h
  refine ⟨G, M, Wk.refl, _, .inl ha, RgOk.of_le (by omega) (by rw [natsV_len]; omega) (by omega) (by omega), fun t ft => ?_⟩
  rw [natsV_len, rgV_nats]
  refine ⟨G, _, Wk.refl, _, .inl (lat_cons ha), _, rg_down (by rw [natsV_len]; omega) (by rw [natsV_len]; omega) (by omega) (by omega), fun i σ G' M' => ∃ (o : List Nat) (y2 y3 : Option V), σ = [some (.ref a), some (.ref t), y2, y3] ∧ G' = G ∧ M' = (t, .lst (natsV o)) :: M ∧ o.length = l.length ∧ walkO (fun i => l.getD i 0) (l.length - 1 - i) o = orderOf l,
    ⟨List.range l.length, none, none, rfl, rfl, rfl, List.length_range, rfl⟩, fun _ _ _ _ _ _ => trivial, ?_, ?_⟩
  · rintro i σ G' M' hi ⟨o, y2, y3, rfl, rfl, rfl, ho, hw⟩
    have hi : i < (((natsV l).length : Int) - 1 - 0).toNat := hi
    rw [natsV_len] at hi
    obtain ⟨m, hm⟩ : ∃ m, l.length - 1 - i = m + 1 := ⟨l.length - 1 - i - 1, by omega⟩
    rw [hm] at hw
    have hr1 := rowok_getD hr (m + 1) (by omega)
    refine asg_C (v := ((m + 1 : Nat) : Int)) (by rw [natsV_len]; omega) ?_
    refine ⟨G', _, Wk.refl, _, _, .inl (lat_cons ha), atI_natD (by omega), ?_⟩
    refine ⟨G', _, Wk.refl, _, _, lst_n (n := 0) rfl, atI_natD (by omega), _, _, lst_n (n := 0) rfl, atI_natD (by omega), sz2, fun t2 ft2 => ⟨_, sqt_new, 0, _, m + 1, rfl, ixN_nat (by rw [natsV_len]; omega), 0, _, l.getD (m + 1) 0, rfl, ixN_nat (by rw [List.length_set, natsV_len]; omega), ?_⟩⟩
    refine ⟨G', _, Wk.less (Ex.new ft2), swapL o (m + 1) (l.getD (m + 1) 0), _, _, rfl, rfl, ?_, by rw [swap_len]; exact ho, by rw [show l.length - 1 - (i + 1) = m by omega]; exact hw⟩
    show (t, HO.lst _) :: M = _
    rw [natsV_set, natsV_set]; rfl
  · rintro σ G' M' ⟨o, y2, y3, rfl, rfl, rfl, ho, hw⟩
    have hw : walkO (fun i => l.getD i 0) (l.length - 1 - (((natsV l).length : Int) - 1 - 0).toNat) o = orderOf l := hw
    rw [show l.length - 1 - (((natsV l).length : Int) - 1 - 0).toNat = 0 by rw [natsV_len]; omega] at hw
    have hw : o = orderOf l := hw
    subst hw
    exact ⟨_, _, Wk.refl, ret0 (q t ft)⟩
theorem txt_shuf0 (k : Kn) : decide ((V.str k.txt) = (.str "shuffle")) = !k.leaf := by
  obtain ⟨b, n⟩ := k
  cases b
  · exact decide_eq_true rfl
  · exact decide_eq_false (by intro h; injection h with h; exact absurd (show ("leaf" : Str) = "shuffle" from h) (by decide))
theorem kn_etab {k : Kn} {b : Bool} (h : k.leaf = b) : k = ⟨b, k.n⟩ := by
  obtain ⟨x, y⟩ := k
  have h : x = b := h
  rw [h]
theorem deed_pick {y : V} (h : y ∈ [V.str "look", .str "lay"]) : ∃ b : Bool, y = .str (deedS b) := by
  simp only [List.mem_cons, List.not_mem_nil, or_false] at h
  rcases h with rfl | rfl
  · exact ⟨false, rfl⟩
  · exact ⟨true, rfl⟩
theorem dp_all {f : Kn → PyData} {us : List V} {ks : List Kn} {d : Nat} {k : Kn} (h : DpAll K G us (ks.map f)) (e : ks[d]? = some k) : ∃ v, us[d]? = some v ∧ Dp K G v (f k) :=
  dpall_get h (by rw [List.getElem?_map, e]; rfl)
theorem pf_law_sign (h : S_law_sign K vs G M R Z) : rd_law_sign K (ends R Z) (sta 6 vs) G M := by
  obtain ⟨_, _, rfl, p, n, c, s, a, ks, rfl, hn, hs, rfl, ⟨us, hu, hud, hkn⟩, hk0, hkl, q⟩ := sp2_of h
  clear h
  have hul : us.length = ks.length := by rw [dpall_len hud, List.length_map]
  have h100 : (100 : Int) < 2 ^ 200 := by decide
  refine ⟨G, _, Wk.refl, pick (n := n) (l := [V.str "look", .str "lay"]) hn hs (by decide) (by decide) fun y c2 s2 d hy hs2 fd => ?_⟩
  obtain ⟨b, rfl⟩ := deed_pick hy
  refine ⟨G, M.set n (p, pool c2 s2), Wk.drop0, p, 2, n, c2, s2, rfl, rfl, set_n hn, hs2, by decide, by decide, fun r3 c3 s3 r30 r31 hs3 => ?_⟩
  rw [List.set_set]
  obtain ⟨sh, rfl⟩ := Int.eq_ofNat_of_zero_le r30
  refine ⟨G, M.set n (p, pool c3 s3), Wk.refl, us, .inl (.inr (sql_of hu)), p, (us.length : Int), n, c3, s3, rfl, rfl, set_n hn, hs3, by omega, by omega, fun r5 c5 s5 r50 r51 hs5 => ?_⟩
  rw [List.set_set]
  obtain ⟨d, rfl⟩ := Int.eq_ofNat_of_zero_le r50
  obtain ⟨k, hkd⟩ : ∃ k, ks[d]? = some k := ⟨_, List.getElem?_eq_getElem (by omega)⟩
  obtain ⟨v, hv, hvd⟩ := dp_all (f := knD) hud hkd
  obtain ⟨T2, rfl, hT2⟩ := dp_kn_inv hvd
  obtain ⟨kk, k12⟩ := hkn k (List.mem_of_getElem? hkd)
  refine ⟨G, _, Wk.refl, us, .ref T2, .inl (.inr (sql_of hu)), atI_nat hv, ?_⟩
  refine ⟨G, _, Wk.refl, p, 4, n, c5, s5, rfl, rfl, set_n hn, hs5, by decide, by decide, fun r1 c1 s1 r10 r11 hs1 => ?_⟩
  rw [List.set_set]
  show if decide (V.int r1 = .int 0) = true then _ else _
  refine ite2' (fun e => ?_) (fun e => ?_)
  · refine ⟨G, _, Wk.refl, p, 4, n, c1, s1, rfl, rfl, set_n hn, hs1, by decide, by decide, fun r4 c4 s4 r40 r41 hs4 => ⟨sz4, fun T fT => ?_⟩⟩
    obtain ⟨x, rfl⟩ := Int.eq_ofNat_of_zero_le r40
    rw [List.set_set] at fT ⊢
    exact ret0 (q T (.room b sh x) c4 s4 _ (Ex.new fT) sqt_new trivial hs4)
  refine ⟨G, _, Wk.refl, _, _, tup_g hT2, atI_nat (j := 0) rfl, ?_⟩
  show if decide (V.str k.txt = .str "shuffle") = true then _ else _
  rw [txt_shuf0]
  cases hlf : k.leaf with
  | false =>
    have k1 := kk.2.2 hlf
    refine ⟨G, _, Wk.refl, _, .int k.n, tup_g hT2, atI_nat (j := 1) rfl, p, _, n, c1, s1, rfl, rfl, set_n hn, hs1, by omega, by omega, fun r6 c6 s6 r60 r61 hs6 => ⟨sz5, fun T fT => ?_⟩⟩
    obtain ⟨x, rfl⟩ := Int.eq_ofNat_of_zero_le r60
    rw [List.set_set] at fT ⊢
    exact ret0 (q T (.item b sh d x) c6 s6 _ (Ex.new fT) sqt_new ⟨k.n, by rw [hkd, ← kn_etab hlf], by omega⟩ hs6)
  | true =>
    refine ⟨G, _, Wk.refl, _, .int k.n, tup_g hT2, atI_nat (j := 1) rfl, p, _, n, c1, s1, rfl, rfl, set_n hn, hs1, by omega, by omega, fun r6 c6 s6 r60 r61 hs6 => ?_⟩
    obtain ⟨x, rfl⟩ := Int.eq_ofNat_of_zero_le r60
    refine ⟨p, 2, n, c6, s6, rfl, rfl, set_n (set_n hn), hs6, by decide, by decide, fun r7 c7 s7 r70 r71 hs7 => ⟨sz6, fun T fT => ?_⟩⟩
    obtain ⟨y, rfl⟩ := Int.eq_ofNat_of_zero_le r70
    rw [List.set_set, List.set_set] at fT ⊢
    exact ret0 (q T (.way b sh d x y) c7 s7 _ (Ex.new fT) sqt_new ⟨k.n, by rw [hkd, ← kn_etab hlf], by omega, by omega⟩ hs7)
end
section
variable {K : PySem.W.Frag} {vs : List V} {G : Hp} {M : Mem} {R : KR} {Z : KX}
def NatsG (G : Hp) (v : V) (l : List Nat) : Prop := ∃ b, v = .ref b ∧ G b = some (.lst (natsV l))
theorem NatsG.ex {G' : Hp} {v : V} {l : List Nat} (e : Ex G G') (h : NatsG G v l) : NatsG G' v l := by
  obtain ⟨b, rfl, h⟩ := h; exact ⟨b, rfl, e _ _ h⟩
def rowsL (i : Nat) : List (List Nat) := (List.range (fac i)).map (rowAt i)
theorem range_flat {β : Type} (f : Nat → β) (b : Nat) : ∀ a, ((List.range a).flatMap fun q => (List.range b).map fun v => f (q * b + v)) = (List.range (a * b)).map f
  | 0 => by rw [Nat.zero_mul]; rfl
  | a + 1 => by
    rw [List.range_succ, List.flatMap_append, range_flat f b a, Nat.add_mul, Nat.one_mul, List.range_add, List.map_append, List.flatMap_cons, List.flatMap_nil, List.append_nil, List.map_map]; rfl
theorem rows_step (i : Nat) : rowsL (i + 1) = (rowsL i).flatMap fun l => (List.range (i + 1)).map fun v => l ++ [v] := by
  unfold rowsL
  rw [List.flatMap_map, show fac (i + 1) = fac i * (i + 1) from Nat.mul_comm _ _, ← range_flat]
  refine congrArg List.flatten (List.map_congr_left fun q _ => List.map_congr_left fun v hv => ?_)
  exact rowAt_step i q v (List.mem_range.mp hv)
theorem rows_sp (i : Nat) : ∀ l, l ∈ rowsL i → l.length = i := fun l h => by
  obtain ⟨n, _, rfl⟩ := List.mem_map.mp h
  exact rowAt_lenA i n
theorem rows_all (i : Nat) : ∀ l : List (List Nat), (l.flatMap fun o => (List.range (i + 1)).map fun v => o ++ [v]).length = l.length * (i + 1)
  | [] => by simp
  | o :: l => by rw [List.flatMap_cons, List.length_append, List.length_map, List.length_range, rows_all i l, List.length_cons, Nat.add_mul]; omega
theorem rows_6 : ∀ n, n < 4 → (rowsL n).length ≤ 6 := fun n h => by
  unfold rowsL
  rw [List.length_map, List.length_range]
  have : ∀ n, n < 4 → fac n ≤ 6 := by decide
  exact this n h
theorem a2_rows2 : ∀ {us : List V} {ls : List (List Nat)}, A2 (NatsG G) us ls → A2 (DrV K G []) us (ls.map Dr.row)
  | _, _, .nil => .nil
  | _, _, .cons a t => by
    obtain ⟨b, rfl, hb⟩ := a
    exact .cons ⟨b, rfl, .inr (sql_of hb)⟩ (a2_rows2 t)
theorem a2_leafs2 : ∀ l : List Nat, A2 (DrV K G []) (natsV l) (l.map Dr.leaf)
  | [] => .nil
  | _ :: l => .cons rfl (a2_leafs2 l)
theorem allKl_leaf {k : Kn} (h : k.leaf = true) : allKl k = (List.range (2 ^ k.n)).map Dr.leaf := by
  unfold allKl manyK
  rw [if_pos h]
  refine List.map_congr_left fun i _ => ?_
  unfold dOf
  rw [if_pos h]
theorem allKl_row {k : Kn} (h : k.leaf = false) : allKl k = (rowsL k.n).map Dr.row := by
  unfold allKl manyK rowsL
  rw [if_neg (by rw [h]; decide), List.map_map]
  refine List.map_congr_left fun i _ => ?_
  unfold dOf
  rw [if_neg (by rw [h]; decide)]; rfl
theorem pf_law_draws_of (h : S_law_draws_of K vs G M R Z) : rd_law_draws_of K (ends R Z) (sta 6 vs) G M := by
  obtain ⟨_, rfl, k, hd, hk, k3, q⟩ := sp1_of h
  clear h
  obtain ⟨t, rfl, ht⟩ := dp_kn_inv hd
  refine ⟨G, M, Wk.refl, _, _, tup_g ht, rfl, ?_⟩
  show if decide (V.str k.txt = .str "leaf") = true then _ else _
  rw [txt_leaf]
  refine ite2' (fun e => ?_) (fun e => ?_)
  · have e2 : (1 : Int) * 2 ^ (k.n : Int).toNat = ((2 ^ k.n : Nat) : Int) := by simp
    have p8 : 2 ^ k.n ≤ 8 := Nat.pow_le_pow_right (n := 2) (by decide) k3
    refine ⟨G, M, Wk.refl, _, _, tup_g ht, rfl, ⟨by omega, by omega, by decide⟩, ?_, fun p fp => ?_⟩
    · rw [e2]
      have : ((2 ^ k.n : Nat) : Int) ≤ 8 := by exact_mod_cast p8
      have : (0 : Int) ≤ ((2 ^ k.n : Nat) : Int) := Int.natCast_nonneg _
      exact RgOk.of_le (by omega) (by omega) (by omega) (by omega)
    · rw [e2, rgV_nats]
      refine ret0 (q p _ G Ex.refl ?_)
      rw [allKl_leaf e]; exact a2_leafs2 _
  have e : k.leaf = false := by simpa using e
  refine ⟨G, M, Wk.refl, sz0, fun t1 f1 => ⟨sz1, fun w fw => ?_⟩⟩
  have ht1 := ex_t (Ex.new (o := .lst (natsV [])) f1) ht
  refine ⟨upd G t1 (.lst (natsV [])), (w, .lst [.ref t1]) :: M, Wk.frz1, _, _, tup_g ht1, rfl, ⟨by omega, by omega⟩, fun i σ G' M' => ∃ (f : Addr) (us : List V) (y2 y3 y4 y5 : Option V), σ = [some (.ref t), some (.ref f), y2, y3, y4, y5] ∧ Ex G G' ∧ M' = (f, .lst us) :: M ∧ A2 (NatsG G') us (rowsL i), ⟨w, [.ref t1], none, none, none, none, rfl, Ex.new f1, rfl, .cons ⟨t1, rfl, upd_same⟩ .nil⟩, fun _ _ _ _ _ _ => trivial, ?_, ?_⟩
  · rintro i σ G' M' hi ⟨f, us, y2, y3, y4, y5, rfl, ex, rfl, hus⟩
    have hi : i < (k.n : Int).toNat := hi
    have hlu := hus.len
    have h24 := rows_6 i (by omega)
    refine asg_R (v := (i : Int)) (by omega) ?_
    refine ⟨G', _, Wk.refl, sz0, fun w fw => ?_⟩
    refine ⟨G', _, Wk.refl, us, lat_cons lat_0, fun j σ G2 M2 => ∃ (w : Addr) (ws : List V) (y4 y5 : Option V), σ = [some (.ref t), some (.ref f), some (.int i), some (.ref w), y4, y5] ∧ Ex G' G2 ∧ M2 = (w, .lst ws) :: (f, .lst us) :: M ∧ A2 (NatsG G2) ws (((rowsL i).take j).flatMap fun l => (List.range (i + 1)).map fun v => l ++ [v]), ⟨w, [], y4, y5, rfl, Ex.refl, rfl, .nil⟩, ?_, ?_, ?_⟩
    · rintro j σ G2 M2 _ ⟨w, ws, y4, y5, rfl, ex2, rfl, hws⟩; exact lat_cons lat_0
    · rintro j σ G2 M2 hj ⟨w, ws, y4, y5, rfl, ex2, rfl, hws⟩
      have hj : j < us.length := hj
      obtain ⟨o, ho⟩ : ∃ o, (rowsL i)[j]? = some o := ⟨_, List.getElem?_eq_getElem (by omega)⟩
      obtain ⟨v, hv, b, rfl, hb⟩ := hus.get ho
      have hol := rows_sp i o (List.mem_of_getElem? ho)
      have hb2 := ex2 _ _ hb
      have hwl : ws.length ≤ 24 := by
        rw [hws.len, rows_all, List.length_take]
        have : min j (rowsL i).length * (i + 1) ≤ 6 * 4 := Nat.mul_le_mul (by omega) (by omega)
        omega
      refine asg_L hv ?_
      refine ⟨G2, _, Wk.refl, ⟨by omega, by omega⟩, sz (by show ((i : Int) + 1).toNat ≤ _; omega), fun m acc G3 M3 => Ex G2 G3 ∧ M3 = (w, .lst ws) :: (f, .lst us) :: M ∧ A2 (NatsG G3) acc ((List.range m).map fun v => o ++ [v]), ⟨Ex.refl, rfl, .nil⟩, fun _ _ _ _ _ _ => trivial, ?_, ?_⟩
      · rintro m acc G3 M3 D hm hacc ⟨ex3, rfl, ha⟩ fD
        have hm : m < ((i : Int) + 1).toNat := hm
        refine asg_R (v := (m : Int)) (by omega) ?_
        refine ⟨rfl, sz1, fun p2 f2 => ⟨natsV o, [.int m], .inr (ex3 _ _ hb2), at_n (n := 0) rfl, ?_, fun p5 f5 => ?_⟩⟩
        · exact sz (by rw [natsV_len, List.length_singleton]; omega)
        · have f6 : Fr G3 ((p2, HO.lst [V.int m]) :: (D, HO.lst acc) :: (w, HO.lst ws) :: (f, HO.lst us) :: M) p5 := f5
          refine ⟨upd G3 p5 (.lst (natsV (o ++ [m]))), (w, .lst ws) :: (f, .lst us) :: M, ?_, ex3.trans (Ex.new f6), rfl, ?_⟩
          · rw [show [V.int (m : Int)] = natsV [m] from rfl, natsV_app]
            exact Wk.frz0.trans Wk.drop0
          · rw [List.range_succ, List.map_append]
            exact (ha.mono fun _ _ z => z.ex (Ex.new f6)).app (.cons ⟨p5, rfl, upd_same⟩ .nil)
      · rintro acc G3 M3 p ⟨ex3, rfl, ha⟩ hacc fp
        have hacc : acc.length ≤ ((i : Int) + 1).toNat := hacc
        refine ⟨ws, acc, at_n (n := 1) rfl, at_n (n := 0) rfl, sz (by omega), fun p7 f7 => ?_⟩
        refine ⟨G3, (p7, .lst (ws ++ acc)) :: (f, .lst us) :: M, Wk.drop1.trans Wk.drop1, p7, ws ++ acc, _, _, rfl, ex2.trans ex3, rfl, ?_⟩
        have ha : A2 (NatsG G3) acc ((List.range ((i : Int) + 1).toNat).map fun v => o ++ [v]) := ha
        rw [show ((i : Int) + 1).toNat = i + 1 by omega] at ha
        rw [take_succ' ho, List.flatMap_append]
        refine (hws.mono fun _ _ z => z.ex ex3).app ?_
        rw [List.flatMap_cons, List.flatMap_nil, List.append_nil]
        exact ha
    · rintro σ G2 M2 ⟨w, ws, y4, y5, rfl, ex2, rfl, hws⟩
      have hws : A2 (NatsG G2) ws (((rowsL i).take us.length).flatMap fun l => (List.range (i + 1)).map fun v => l ++ [v]) := hws
      rw [hlu, List.take_length, ← rows_step] at hws
      refine ⟨_, _, Wk.refl, ?_⟩
      exact ⟨G2, (w, .lst ws) :: M, Wk.drop1, w, ws, _, _, _, _, rfl, ex.trans ex2, rfl, hws⟩
  · rintro σ G' M' ⟨f, us, y2, y3, y4, y5, rfl, ex, rfl, hus⟩
    have hus : A2 (NatsG G') us (rowsL (k.n : Int).toNat) := hus
    rw [Int.toNat_natCast] at hus
    refine ⟨_, _, Wk.refl, ret0 (q f us G' ex ?_)⟩
    rw [allKl_row e]; exact a2_rows2 hus
/-! all rows of draws -/
def DrowG (K : PySem.W.Frag) (G : Hp) (v : V) (d : List Dr) : Prop := ∃ b us, v = .ref b ∧ G b = some (.lst us) ∧ A2 (DrV K G []) us d
theorem drvx {G' : Hp} {v : V} {d : Dr} (e : Ex G G') (h : DrV K G [] v d) : DrV K G' [] v d := by
  cases d with
  | leaf n => exact h
  | row l =>
    obtain ⟨b, rfl, hb⟩ := h
    exact ⟨b, rfl, lat_ex e hb⟩
theorem DrowG.ex {G' : Hp} {v : V} {d : List Dr} (e : Ex G G') (h : DrowG K G v d) : DrowG K G' v d := by
  obtain ⟨b, us, rfl, h, h2⟩ := h; exact ⟨b, us, rfl, e _ _ h, h2.mono fun _ _ z => drvx e z⟩
theorem allKl_8 {k : Kn} (h : k.n ≤ 3) : (allKl k).length ≤ 8 := by
  cases e : k.leaf with
  | true =>
    rw [allKl_leaf e, List.length_map, List.length_range]
    exact Nat.pow_le_pow_right (n := 2) (by decide) h
  | false =>
    rw [allKl_row e, List.length_map]
    have := rows_6 k.n (by omega)
    omega
theorem lawAll_all (k : Kn) : ∀ l : List (List Dr), (l.flatMap fun d => (allKl k).map fun x => d ++ [x]).length = l.length * (allKl k).length
  | [] => by simp
  | o :: l => by rw [List.flatMap_cons, List.length_append, List.length_map, lawAll_all k l, List.length_cons, Nat.add_mul]; omega
theorem lawAll_512 : ∀ ks : List Kn, (∀ k, k ∈ ks → k.n ≤ 3) → (lawAll ks).length ≤ 8 ^ ks.length := snoc_list (fun _ => Nat.le_refl _) fun l k ih h => by
  rw [lawAll_snoc, lawAll_all, List.length_append]
  exact Nat.mul_le_mul (ih fun x hx => h x (List.mem_append_left _ hx)) (allKl_8 (h k (List.mem_append_right _ List.mem_cons_self)))
theorem lawAll_sp {ks : List Kn} {ds : List Dr} (h : ds ∈ lawAll ks) : ds.length = ks.length := ((lawAll_mem ks ds).mp h).len.symm
theorem pf_law_all (h : S_law_all K vs G M R Z) : rd_law_all K (ends R Z) (sta 6 vs) G M := by
  obtain ⟨_, rfl, a, ks, rfl, ⟨ut, hu, hud, hkn⟩, h3, hk3, q⟩ := sp1_of h
  clear h
  have hul : ut.length = ks.length := by rw [dpall_len hud, List.length_map]
  have p512 : ∀ i, i ≤ 3 → (8 : Nat) ^ i ≤ 512 := fun i hi => Nat.pow_le_pow_right (n := 8) (by decide) hi
  have hcut : ∀ i, (lawAll (ks.take i)).length ≤ 512 := fun i => Nat.le_trans (lawAll_512 _ fun k hk => hk3 k (List.mem_of_mem_take hk)) (p512 _ (by rw [List.length_take]; omega))
  refine ⟨G, M, Wk.refl, sz0, fun t1 f1 => ⟨sz1, fun w fw => ?_⟩⟩
  refine ⟨upd G t1 (.lst []), (w, .lst [.ref t1]) :: M, Wk.frz1, ut, .inr (sql_of (Ex.new f1 _ _ hu)), fun i σ G' M' => ∃ (f : Addr) (us : List V) (y2 y3 y4 y5 : Option V), σ = [some (.ref a), some (.ref f), y2, y3, y4, y5] ∧ Ex G G' ∧ M' = (f, .lst us) :: M ∧ A2 (DrowG K G') us (lawAll (ks.take i)), ⟨w, [.ref t1], none, none, none, none, rfl, Ex.new f1, rfl, .cons ⟨t1, [], rfl, upd_same, .nil⟩ .nil⟩, ?_, ?_, ?_⟩
  · rintro i σ G' M' _ ⟨f, us, y2, y3, y4, y5, rfl, ex, rfl, hus⟩; exact .inr (sql_of (ex _ _ hu))
  · rintro i σ G' M' hi ⟨f, us, y2, y3, y4, y5, rfl, ex, rfl, hus⟩
    have hi : i < ut.length := hi
    have hlu := hus.len
    have h512 := hcut i
    obtain ⟨k, hki⟩ : ∃ k, ks[i]? = some k := ⟨_, List.getElem?_eq_getElem (by omega)⟩
    obtain ⟨kv, hkv, hkvd⟩ := dp_all (f := knD) hud hki
    have hkk := List.mem_of_getElem? hki
    have h8 := allKl_8 (hk3 k hkk)
    refine asg_L hkv ?_
    refine ⟨G', _, Wk.refl, sz0, fun w fw => ?_⟩
    refine ⟨G', _, Wk.refl, us, lat_cons lat_0, fun j σ G2 M2 => ∃ (w : Addr) (ws : List V) (y4 y5 : Option V), σ = [some (.ref a), some (.ref f), some kv, some (.ref w), y4, y5] ∧ Ex G' G2 ∧ M2 = (w, .lst ws) :: (f, .lst us) :: M ∧ A2 (DrowG K G2) ws (((lawAll (ks.take i)).take j).flatMap fun d => (allKl k).map fun x => d ++ [x]), ⟨w, [], y4, y5, rfl, Ex.refl, rfl, .nil⟩, ?_, ?_, ?_⟩
    · rintro j σ G2 M2 _ ⟨w, ws, y4, y5, rfl, ex2, rfl, hws⟩; exact lat_cons lat_0
    · rintro j σ G2 M2 hj ⟨w, ws, y4, y5, rfl, ex2, rfl, hws⟩
      have hj : j < us.length := hj
      obtain ⟨o, ho⟩ : ∃ o, (lawAll (ks.take i))[j]? = some o := ⟨_, List.getElem?_eq_getElem (by omega)⟩
      obtain ⟨v, hv, b, xs, rfl, hb, hxs⟩ := hus.get ho
      have hol := lawAll_sp (List.mem_of_getElem? ho)
      rw [List.length_take] at hol
      have hxl := hxs.len
      have hb2 := ex2 _ _ hb
      have hwl : ws.length ≤ 4096 := by
        rw [hws.len, lawAll_all, List.length_take]
        have : min j (lawAll (ks.take i)).length * (allKl k).length ≤ 512 * 8 := Nat.mul_le_mul (by omega) h8
        omega
      refine asg_L hv ?_
      refine ⟨G2, _, Wk.refl, k, ex_d (ex.trans ex2) _ hkvd, (hkn k hkk).1, hk3 k hkk, fun p rs G3 ex3 hrs => ?_⟩
      have hrl := hrs.len
      refine ⟨rs, lat_0, sz (by show rs.length ≤ _; omega), fun m acc G4 M4 => Ex G3 G4 ∧ M4 = (p, .lst rs) :: (w, .lst ws) :: (f, .lst us) :: M ∧ A2 (DrowG K G4) acc (((allKl k).take m).map fun x => o ++ [x]), ⟨Ex.refl, rfl, .nil⟩, ?_, ?_, ?_⟩
      · rintro m acc G4 M4 _ ⟨ex4, rfl, ha⟩; exact lat_0
      · rintro m acc G4 M4 D hm hacc ⟨ex4, rfl, ha⟩ fD
        have hm : m < rs.length := hm
        obtain ⟨x, hx⟩ : ∃ x, (allKl k)[m]? = some x := ⟨_, List.getElem?_eq_getElem (by omega)⟩
        obtain ⟨xv, hxv, hxd⟩ := hrs.get hx
        refine asg_L hxv ?_
        refine ⟨rfl, sz1, fun p2 f2 => ⟨xs, [xv], .inr (ex4 _ _ (ex3 _ _ hb2)), at_n (n := 0) rfl, ?_, fun p5 f5 => ?_⟩⟩
        · exact sz (by rw [List.length_singleton]; omega)
        · have f6 : Fr G4 ((p2, HO.lst [xv]) :: (D, HO.lst acc) :: (p, HO.lst rs) :: (w, HO.lst ws) :: (f, HO.lst us) :: M) p5 := f5
          refine ⟨upd G4 p5 (.lst (xs ++ [xv])), (p, .lst rs) :: (w, .lst ws) :: (f, .lst us) :: M, Wk.frz0.trans Wk.drop0, ex4.trans (Ex.new f6), rfl, ?_⟩
          rw [take_succ' hx, List.map_append]
          have e5 := Ex.new (o := .lst (xs ++ [xv])) f6
          exact (ha.mono fun _ _ z => z.ex e5).app (.cons ⟨p5, xs ++ [xv], rfl, upd_same, (hxs.mono fun _ _ z => drvx (((ex2.trans ex3).trans ex4).trans e5) z).app (.cons (drvx (ex4.trans e5) hxd) .nil)⟩ .nil)
      · rintro acc G4 M4 p6 ⟨ex4, rfl, ha⟩ hacc fp
        have hacc : acc.length ≤ rs.length := hacc
        refine ⟨ws, acc, at_n (n := 2) rfl, at_n (n := 0) rfl, sz (by omega), fun p7 f7 => ?_⟩
        refine ⟨G4, (p7, .lst (ws ++ acc)) :: (f, .lst us) :: M, Wk.drop1.trans (Wk.drop1.trans Wk.drop1), p7, ws ++ acc, _, _, rfl, (ex2.trans ex3).trans ex4, rfl, ?_⟩
        have ha : A2 (DrowG K G4) acc (((allKl k).take rs.length).map fun x => o ++ [x]) := ha
        rw [hrl, List.take_length] at ha
        rw [take_succ' ho, List.flatMap_append]
        refine (hws.mono fun _ _ z => z.ex (ex3.trans ex4)).app ?_
        rw [List.flatMap_cons, List.flatMap_nil, List.append_nil]
        exact ha
    · rintro σ G2 M2 ⟨w, ws, y4, y5, rfl, ex2, rfl, hws⟩
      have hws : A2 (DrowG K G2) ws (((lawAll (ks.take i)).take us.length).flatMap fun d => (allKl k).map fun x => d ++ [x]) := hws
      rw [hlu, List.take_length, ← lawAll_snoc, ← take_succ' hki] at hws
      refine ⟨_, _, Wk.refl, ?_⟩
      exact ⟨G2, (w, .lst ws) :: M, Wk.drop1, w, ws, _, _, _, _, rfl, ex.trans ex2, rfl, hws⟩
  · rintro σ G' M' ⟨f, us, y2, y3, y4, y5, rfl, ex, rfl, hus⟩
    have hus : A2 (DrowG K G') us (lawAll (ks.take ut.length)) := hus
    rw [hul, List.take_length] at hus
    refine ⟨_, _, Wk.refl, ret0 (q f us G' ex (hus.mono fun v d z => ?_))⟩
    obtain ⟨b, ws, rfl, h1, h2⟩ := z
    exact ⟨b, rfl, ws, sql_of h1, h2⟩
end
section
variable {K : PySem.W.Frag} {vs : List V} {G : Hp} {M : Mem} {R : KR} {Z : KX}
theorem drvm {v : V} {d : Dr} (h : DrV K G [] v d) : DrV K G M v d := by
  cases d with
  | leaf n => exact h
  | row l =>
    obtain ⟨b, rfl, hb⟩ := h
    exact ⟨b, rfl, .inr (hb.elim (fun z => nomatch z) id)⟩
theorem dp_tch {T : Addr} {t : Tch} (h : SqT K G T [.str t.txt, .int t.shelf, .int t.room]) : Dp K G (.ref T) (tchD t) := .tup h (.cons (.str _) (.cons (.int _) (.cons (.int _) .nil)))
theorem tch_inv {v : V} {t : Tch} (h : Dp K G v (tchD t)) : ∃ T, v = .ref T ∧ SqT K G T [.str t.txt, .int t.shelf, .int t.room] := by
  obtain ⟨T, xs, rfl, s, a⟩ := dp_tup_inv h
  refine ⟨T, rfl, ?_⟩
  cases a with
  | cons a1 a => cases a1; cases a with
    | cons a2 a => cases a2; cases a with
      | cons a3 a => cases a3; cases a; exact s
theorem pf_law_touch (h : S_law_touch K vs G M R Z) : rd_law_touch K (ends R Z) (sta 5 vs) G M := by
  obtain ⟨_, _, _, rfl, a, b, us, ks, s, ds, rfl, ⟨uk, hk, hkd, hkn⟩, hsd, hs, rfl, hu, hdr, q⟩ := sp3_of h
  clear h
  obtain ⟨t, rfl, ht⟩ := sg_inv hsd
  cases s with
  | room b0 sh r =>
    refine ⟨G, M, Wk.refl, _, _, tup_g ht, rfl, G, M, Wk.refl, _, ht, fun z => ?_, fun _ p fp => ?_⟩
    · have : ¬ (HT.sIx 4 0 (some 1) = 0 ∧ HT.sIx 4 4 none = 4) := by decide
      exact absurd z this
    · exact ret0 (q p _ (Ex.new fp) sqt_new)
  | item b0 sh d i =>
    obtain ⟨n, hknd, hi⟩ := hs
    obtain ⟨v, x, k, hv, hvd, hkx, hok, hgd⟩ := hdr d rfl
    have ek : k = ⟨false, n⟩ := Option.some.inj (hkx.symm.trans hknd)
    have eq : tchOf ks ds (.item b0 sh d i) = ⟨b0, sh, (orderOf (rowD x)).getD i 0⟩ := by rw [← hgd]; rfl
    rw [eq] at q
    rw [ek] at hok
    cases x with
    | leaf x => have := hok.1; cases this
    | row l =>
      obtain ⟨o, rfl, hol⟩ := hvd
      have hll : l.length = n := hok.2.1
      have h12 : n ≤ 12 := (hkn _ (List.mem_of_getElem? hknd)).2
      have hil : i < (orderOf l).length := by rw [order_len hok.2.2]; omega
      refine ⟨G, M, Wk.refl, _, _, tup_g ht, rfl, G, M, Wk.refl, _, _, tup_g ht, rfl, ?_⟩
      refine ⟨G, M, Wk.refl, _, _, tup_g ht, rfl, _, _, tup_g ht, rfl, _, _, tup_g ht, rfl, us, _, .inl hu, atI_nat hv, o, l, rfl, hol, hok.2.2, by omega, fun p fp => ?_⟩
      refine ⟨_, _, tup_g ht, rfl, _, _, lst_n (n := 0) rfl, atI_natD hil, sz3, fun T fT => retW (Wk.drop0) (q T _ (Ex.new fT) sqt_new)⟩
  | way b0 sh d p e =>
    obtain ⟨hh, hknd, hp, he⟩ := hs
    obtain ⟨v, x, k, hv, hvd, hkx, hok, hgd⟩ := hdr d rfl
    have ek : k = ⟨true, hh⟩ := Option.some.inj (hkx.symm.trans hknd)
    have ekn : ks.getD d ⟨true, 0⟩ = ⟨true, hh⟩ := by rw [List.getD_eq_getElem?_getD, hknd]; rfl
    have eq : tchOf ks ds (.way b0 sh d p e) = ⟨b0, sh, 2 * nodeN hh p (leafD x) + e⟩ := by
      show (⟨b0, sh, 2 * nodeN (ks.getD d ⟨true, 0⟩).n p (leafD (ds.getD d (.leaf 0))) + e⟩ : Tch) = _
      rw [ekn, hgd]
    rw [eq] at q
    rw [ek] at hok
    have h6 : hh ≤ 6 := (hkn _ (List.mem_of_getElem? hknd)).1.2.1 rfl
    obtain ⟨kv, hkv, hkvd⟩ := dpall_get hkd (i := d) (d := knD ⟨true, hh⟩) (by rw [List.getElem?_map, hknd]; rfl)
    obtain ⟨kt, rfl, hkt⟩ := dp_kn_inv hkvd
    cases x with
    | row l => have := hok.1; cases this
    | leaf x =>
      obtain rfl : v = .int x := hvd
      refine ⟨G, M, Wk.refl, _, _, tup_g ht, rfl, G, M, Wk.refl, _, _, tup_g ht, rfl, ?_⟩
      refine ⟨G, M, Wk.refl, _, _, tup_g ht, rfl, uk, _, .inl (.inr (sql_of hk)), atI_nat hkv, _, _, tup_g hkt, rfl, ?_⟩
      refine ⟨G, M, Wk.refl, _, _, tup_g ht, rfl, ⟨by omega, by omega, by decide⟩, _, _, tup_g ht, rfl, us, _, .inl hu, atI_nat hv, _, _, tup_g ht, rfl, ⟨by show (0 : Int) ≤ (hh : Int) - (p : Int); omega, by show (hh : Int) - (p : Int) ≤ 1000000; omega, by decide⟩, ?_, ?_⟩
      · show CDivW _ ((1 : Int) * 2 ^ ((hh : Int) - (p : Int)).toNat)
        rw [show ((hh : Int) - (p : Int)).toNat = hh - p by omega, Int.one_mul]
        have b1 : 1 ≤ 2 ^ (hh - p) := Nat.one_le_two_pow
        have b2 : 2 ^ (hh - p) ≤ 2 ^ 6 := Nat.pow_le_pow_right (n := 2) (by decide) (by omega)
        have b3 : (2 : Int) ^ (hh - p) = ((2 ^ (hh - p) : Nat) : Int) := by simp
        have h100 : (100 : Int) < 2 ^ 200 := by decide
        rw [b3]
        exact divW (by omega) (by omega) _
      have en : (1 : Int) * 2 ^ ((p : Int)).toNat - 1 + (x : Int) / ((1 : Int) * 2 ^ ((hh : Int) - (p : Int)).toNat) = ((nodeN hh p x : Nat) : Int) := by
        unfold nodeN
        rw [Int.toNat_natCast, show ((hh : Int) - (p : Int)).toNat = hh - p by omega, Int.one_mul, Int.one_mul]
        have h1 : 1 ≤ 2 ^ p := Nat.one_le_two_pow
        rw [Int.natCast_add, Int.natCast_ediv, Int.natCast_sub h1]
        simp
      show rd_law_touch_4 K _ ([some (.ref a), some (.ref t), some (.ref b), some (.int hh), some (.int ((1 : Int) * 2 ^ ((p : Int)).toNat - 1 + (x : Int) / ((1 : Int) * 2 ^ ((hh : Int) - (p : Int)).toNat)))]) G M
      rw [en]
      refine ⟨G, M, Wk.refl, _, _, tup_g ht, rfl, ?_⟩
      refine ⟨_, _, tup_g ht, rfl, ?_⟩
      refine ⟨mul_l (by decide) (by decide), _, _, tup_g ht, rfl, ?_⟩
      exact ⟨sz3, fun T fT => ret0 (q T _ (Ex.new fT) sqt_new)⟩
theorem pf_law_seen (h : S_law_seen K vs G M R Z) : rd_law_seen K (ends R Z) (sta 4 vs) G M := by
  obtain ⟨_, _, _, rfl, a, o, b, ks, sgs, ds, rfl, hk, rfl, ⟨us, hu, hud⟩, h10, hs, rfl, ⟨ud, hd, hdd⟩, hok, q⟩ := sp3_of h
  clear h
  have hul : us.length = sgs.length := by rw [dpall_len hud, List.length_map]
  obtain ⟨uk, hk1, hk2, hk3⟩ := hk
  refine ⟨G, M, Wk.refl, us, .inr (sql_of hu), sz (by show us.length ≤ _; omega), fun i acc G' M' => Ex G G' ∧ M' = M ∧ DpAll K G' acc (((sgs.take i).map (tchOf ks ds)).map tchD), ⟨Ex.refl, rfl, .nil⟩, ?_, ?_, ?_⟩
  · rintro i acc G' M' _ ⟨ex, rfl, _⟩; exact .inr (sql_of (ex _ _ hu))
  · rintro i acc G' M' D hi hacc ⟨ex, rfl, ha⟩ fD
    have hi : i < us.length := hi
    obtain ⟨s, hsi⟩ : ∃ s, sgs[i]? = some s := ⟨_, List.getElem?_eq_getElem (by omega)⟩
    obtain ⟨sv, hsv, hsd⟩ := dpall_get hud (i := i) (d := sgD s) (by rw [List.getElem?_map, hsi]; rfl)
    refine asg_L hsv ⟨rfl, a, b, ud, ks, s, ds, rfl, ⟨uk, ex _ _ hk1, ex_ds ex _ hk2, hk3⟩, ex_d ex _ hsd, hs s (List.mem_of_getElem? hsi), rfl, lat_ex ex (.inr hd), fun d hdr => ?_, fun t G2 ex2 ht => ?_⟩
    · have hdk := sg_draw (hs s (List.mem_of_getElem? hsi)) hdr
      obtain ⟨k, hkd⟩ : ∃ k, ks[d]? = some k := ⟨_, List.getElem?_eq_getElem hdk⟩
      obtain ⟨x, hx, hxk⟩ := hok.get' hkd
      obtain ⟨v, hv, hvx⟩ := hdd.get hx
      exact ⟨v, x, k, hv, drvm (drvx ex hvx), hkd, hxk, by rw [List.getD_eq_getElem?_getD, hx]; rfl⟩
    · refine ⟨G2, M', Wk.refl, ex.trans ex2, rfl, ?_⟩
      rw [take_succ' hsi, List.map_append, List.map_append]
      exact dpall_app2 (ex_ds ex2 _ ha) (.cons (dp_tch ht) .nil)
  · rintro acc G' M' p ⟨ex, rfl, ha⟩ hacc fp
    have ha : DpAll K G' acc (((sgs.take us.length).map (tchOf ks ds)).map tchD) := ha
    rw [hul, List.take_length] at ha
    have e1 := Ex.new (o := .lst acc) fp
    exact retW Wk.frz0 (q p _ (ex.trans e1) ⟨acc, upd_same, ex_ds e1 _ ha⟩)
end
section
variable {K : PySem.W.Frag} {vs : List V} {G : Hp} {M : Mem} {R : KR} {Z : KX}
theorem cut_tch {us : List V} {T : List Tch} (lo hi : Option Int) (h : DpAll K G us (T.map tchD)) : ∃ T' : List Tch, DpAll K G (cutV us lo hi) (T'.map tchD) ∧ T'.length ≤ T.length := by
  have dr : ∀ (k : Nat) {us : List V} {ds : List PyData}, DpAll K G us ds → DpAll K G (us.drop k) (ds.drop k) := fun k => by
    induction k with
    | zero => intro us ds h; exact h
    | succ k ih =>
      intro us ds h
      cases h with
      | nil => exact .nil
      | cons a b => exact ih b
  have tk : ∀ (k : Nat) {us : List V} {ds : List PyData}, DpAll K G us ds → DpAll K G (us.take k) (ds.take k) := fun k => by
    induction k with
    | zero => intro us ds h; exact .nil
    | succ k ih =>
      intro us ds h
      cases h with
      | nil => exact .nil
      | cons a b => exact .cons a (ih b)
  unfold cutV
  refine ⟨(T.drop (HT.sIx us.length 0 lo)).take (HT.sIx us.length us.length hi - HT.sIx us.length 0 lo), by rw [List.map_take, List.map_drop]; exact tk _ (dr _ h), ?_⟩
  rw [List.length_take, List.length_drop]; omega
theorem cut_lenT (us : List V) (lo hi : Option Int) : (cutV us lo hi).length ≤ us.length := by
  unfold cutV
  rw [List.length_take, List.length_drop]; omega
theorem dpall_rev {us : List V} {ds : List PyData} (h : DpAll K G us ds) : DpAll K G us.reverse ds.reverse := by
  induction us generalizing ds with
  | nil => cases h; exact .nil
  | cons u us ih =>
    cases h with
    | cons a b =>
      rw [List.reverse_cons, List.reverse_cons]
      exact dpall_app2 (ih b) (.cons a .nil)
def upT (G : Hp) (t : Addr) (d : V) (i j : Int) : Hp := upd G t (.tup [d, .int i, .int j])
theorem one_tch {T : Addr} {t : Tch} (h : SqT K G T [.str t.txt, .int t.shelf, .int t.room]) : DpAll K G [.ref T] ([t].map tchD) := .cons (dp_tch h) .nil
theorem pf_law_bent (h : S_law_bent K vs G M R Z) : rd_law_bent K (ends R Z) (sta 10 vs) G M := by
  obtain ⟨_, _, _, rfl, p, n, c, s, a, b, T1, T2, rfl, hn, hs, rfl, ⟨u1, h1, d1⟩, rfl, ⟨u2, h2, d2⟩, l1, l2, q⟩ := sp3_of h
  clear h
  have hl : u1.length = T1.length := by rw [dpall_len d1, List.length_map]
  have h100 : (100 : Int) < 2 ^ 200 := by decide
  refine ⟨G, M, Wk.refl, p, 12, n, c, s, rfl, rfl, hn, hs, by decide, by decide, fun r1 c1 s1 r10 r11 hs1 => ?_⟩
  refine ⟨G, _, Wk.refl, u1, .inl (.inr (sql_of h1)), p, (u1.length : Int) + 1, n, c1, s1, rfl, rfl, set_n hn, hs1, by omega, by omega, fun r2 c2 s2 r20 r21 hs2 => ?_⟩
  rw [List.set_set]
  refine ⟨G, _, Wk.refl, ?_⟩
  show if decide (V.int r1 = .int 0) = true then _ else _
  refine ite2' (fun e => ⟨G, _, Wk.refl, ret0 (q b T2 c2 s2 G Ex.refl ⟨u2, h2, d2⟩ (by omega) hs2)⟩) (fun e0 => ⟨G, _, Wk.refl, ?_⟩)
  show if decide (V.int r1 = .int 1) = true then _ else _
  refine ite2' (fun e => ?_) (fun e1 => ⟨G, _, Wk.refl, ?_⟩)
  · refine ⟨G, _, Wk.refl, sz3, fun t ft => ⟨sz1, fun w fw => ⟨u1, [.ref t], .inr (Ex.new ft _ _ h1), at_n (n := 0) rfl, sz (by rw [List.length_singleton]; omega), fun p1 f1 => ?_⟩⟩⟩
    have e1 := Ex.new (o := .tup [V.str "look", .int 0, .int 0]) ft
    have e2 := Ex.new (o := .lst (u1 ++ [.ref t])) f1
    refine retW (Wk.frz0.trans Wk.drop0) (q p1 (T1 ++ [⟨false, 0, 0⟩]) c2 s2 _ (e1.trans e2) ⟨_, upd_same, ?_⟩ (by rw [List.length_append, List.length_singleton]; omega) hs2)
    rw [List.map_append]
    exact dpall_app2 (ex_ds (e1.trans e2) _ d1) (ex_ds e2 _ (one_tch (t := ⟨false, 0, 0⟩) sqt_new))
  have ret : wkR R (.ref a) G (M.set n (p, pool c2 s2)) := ret0 (q a T1 c2 s2 G Ex.refl ⟨u1, h1, d1⟩ (by omega) hs2)
  refine ite2' (c := decide ((7 : Int) < r1)) (fun e => ⟨G, _, Wk.refl, ret⟩) (fun e2 => ⟨u1, .inl (.inr (sql_of h1)), ?_⟩)
  show if decide (V.int r2 = .int (u1.length : Int)) = true then _ else _
  refine ite2' (fun e => ⟨G, _, Wk.refl, ret⟩) (fun e3 => ?_)
  have e0 : r1 ≠ 0 := fun z => of_decide_eq_false e0 (by rw [z])
  have e1 : r1 ≠ 1 := fun z => of_decide_eq_false e1 (by rw [z])
  have e2 : ¬ (7 : Int) < r1 := fun z => of_decide_eq_false e2 z
  have e3 : r2 ≠ (u1.length : Int) := fun z => of_decide_eq_false e3 (by rw [z])
  obtain ⟨at', rfl⟩ := Int.eq_ofNat_of_zero_le r20
  have hat : at' < u1.length := by omega
  obtain ⟨tc, htc⟩ : ∃ tc, T1[at']? = some tc := ⟨_, List.getElem?_eq_getElem (by omega)⟩
  obtain ⟨tv, htv, htd⟩ := dpall_get d1 (i := at') (d := tchD tc) (by rw [List.getElem?_map, htc]; rfl)
  obtain ⟨Tt, rfl, hTt⟩ := tch_inv htd
  refine ⟨G, _, Wk.refl, u1, .ref Tt, .inl (.inr (sql_of h1)), atI_nat htv, _, hTt, G, _, Wk.refl, sz2, fun w fw => ?_⟩
  have rest : ∀ bb : Bool, rd_law_bent_7 K (ends R Z) [some (.ref p), some (.ref a), some (.ref b), some (.int r1), some (.int (at' : Nat)), some (.str tc.txt), some (.int tc.shelf), some (.int tc.room), some (.str (deedS bb)), none] G (M.set n (p, pool c2 s2)) := fun bb => by
    refine ⟨G, _, Wk.refl, sz0, fun p0 f0 => ⟨sz3, fun t1 g1 => ⟨sz1, fun p1 f1 => ⟨sz3, fun t2 g2 => ⟨sz1, fun p2 f2 => ⟨sz3, fun t3 g3 => ⟨sz1, fun p3 f3 => ⟨sz3, fun t4 g4 => ⟨sz1, fun p4 f4 => ⟨sz5, fun w0 fw0 => ?_⟩⟩⟩⟩⟩⟩⟩⟩⟩⟩
    obtain ⟨G1, hG1⟩ : ∃ X, X = upT G t1 (.str (deedS bb)) tc.shelf tc.room := ⟨_, rfl⟩
    obtain ⟨G2, hG2⟩ : ∃ X, X = upT G1 t2 (.str tc.txt) ((tc.shelf : Int) + 1) tc.room := ⟨_, rfl⟩
    obtain ⟨G3, hG3⟩ : ∃ X, X = upT G2 t3 (.str tc.txt) tc.shelf ((tc.room : Int) + 1) := ⟨_, rfl⟩
    obtain ⟨G4, hG4⟩ : ∃ X, X = upT G3 t4 (.str tc.txt) tc.shelf 40 := ⟨_, rfl⟩
    have x1 : Ex G G1 := by rw [hG1]; exact Ex.new g1
    have x2 : Ex G1 G2 := by rw [hG2, hG1]; exact Ex.new g2
    have x3 : Ex G2 G3 := by rw [hG3, hG2, hG1]; exact Ex.new g3
    have x4 : Ex G3 G4 := by rw [hG4, hG3, hG2, hG1]; exact Ex.new g4
    have xa := x1.trans (x2.trans (x3.trans x4))
    have d1' : DpAll K G4 [.ref t1] ([(⟨bb, tc.shelf, tc.room⟩ : Tch)].map tchD) := one_tch (ex_t (x2.trans (x3.trans x4)) (by rw [hG1]; exact sqt_new))
    have d2' : DpAll K G4 [.ref t2] ([(⟨tc.lay, tc.shelf + 1, tc.room⟩ : Tch)].map tchD) := one_tch (ex_t (x3.trans x4) (by rw [hG2]; exact sqt_new))
    have d3' : DpAll K G4 [.ref t3] ([(⟨tc.lay, tc.shelf, tc.room + 1⟩ : Tch)].map tchD) := one_tch (ex_t x4 (by rw [hG3]; exact sqt_new))
    have d4' : DpAll K G4 [.ref t4] ([(⟨tc.lay, tc.shelf, 40⟩ : Tch)].map tchD) := one_tch (by rw [hG4]; exact sqt_new)
    have hu := ex_ds xa _ d1
    refine ⟨G4, _, by rw [hG4, hG3, hG2, hG1]; exact Wk.refl, u1, .inr (sql_of (xa _ _ h1)), fun p5 f5 => ⟨_, lat_0, fun p6 f6 => ⟨sz1, fun p7 f7 => ⟨_, _, at_n (n := 3) rfl, at_n (n := 0) rfl, Nat.le_of_ble_eq_true rfl, fun w1 fw1 => ?_⟩⟩⟩⟩
    obtain ⟨C, hC⟩ : ∃ C, C = cutV u1 (some (at' : Int)) (some ((at' : Int) + 2)) := ⟨_, rfl⟩
    obtain ⟨TC, hTC, hTCl⟩ := cut_tch (some (at' : Int)) (some ((at' : Int) + 2)) hu
    rw [← hC] at hTC
    obtain ⟨N, hN⟩ : ∃ N : Mem, N = (w1, .lst [.ref p0, .ref p1, .ref p2, .ref p3, .ref p4, .ref p6]) :: (p7, .lst [.ref p6]) :: (p6, .lst C.reverse) :: (p5, .lst C) :: (w0, .lst [.ref p0, .ref p1, .ref p2, .ref p3, .ref p4]) :: (p4, .lst [.ref t4]) :: (p3, .lst [.ref t3]) :: (p2, .lst [.ref t2]) :: (p1, .lst [.ref t1]) :: (p0, .lst []) :: M.set n (p, pool c2 s2) := ⟨_, rfl⟩
    obtain ⟨i, hi⟩ := Int.eq_ofNat_of_zero_le (show 0 ≤ r1 - 2 by omega)
    have pick : ∃ (pi : Addr) (ys : List V) (T : List Tch) (j : Nat), [V.ref p0, .ref p1, .ref p2, .ref p3, .ref p4, .ref p6][i]? = some (.ref pi) ∧ N[j]? = some (pi, .lst ys) ∧ DpAll K G4 ys (T.map tchD) ∧ T.length ≤ 10 := by
      rw [hN]
      have h6 : i = 0 ∨ i = 1 ∨ i = 2 ∨ i = 3 ∨ i = 4 ∨ i = 5 := by omega
      rcases h6 with rfl | rfl | rfl | rfl | rfl | rfl
      · exact ⟨p0, _, [], 9, rfl, rfl, .nil, Nat.zero_le _⟩
      · exact ⟨p1, _, _, 8, rfl, rfl, d1', Nat.le_of_ble_eq_true rfl⟩
      · exact ⟨p2, _, _, 7, rfl, rfl, d2', Nat.le_of_ble_eq_true rfl⟩
      · exact ⟨p3, _, _, 6, rfl, rfl, d3', Nat.le_of_ble_eq_true rfl⟩
      · exact ⟨p4, _, _, 5, rfl, rfl, d4', Nat.le_of_ble_eq_true rfl⟩
      · refine ⟨p6, C.reverse, TC.reverse, 2, rfl, rfl, ?_, by rw [List.length_reverse]; omega⟩
        rw [List.map_reverse]; exact dpall_rev hTC
    obtain ⟨pi, ys, Ty, j, hpi, hj, hys, hyl⟩ := pick
    have hw1 : N[0]? = some (w1, .lst [.ref p0, .ref p1, .ref p2, .ref p3, .ref p4, .ref p6]) := by rw [hN]; rfl
    obtain ⟨TA, hTA, hTAl⟩ := cut_tch none (some (at' : Int)) hu
    have la := dpall_len hTA
    have ly := dpall_len hys
    rw [List.length_map] at la ly
    have app : ∀ lo : Int, ∃ T : List Tch, DpAll K G4 ((cutV u1 none (some (at' : Int)) ++ ys) ++ cutV u1 (some lo) none) (T.map tchD) ∧ T.length ≤ 30 := fun lo => by
      obtain ⟨TB, hTB, hTBl⟩ := cut_tch (some lo) none hu
      refine ⟨(TA ++ Ty) ++ TB, ?_, by rw [List.length_append, List.length_append]; omega⟩
      rw [List.map_append, List.map_append]
      exact dpall_app2 (dpall_app2 hTA hys) hTB
    have fin : ∀ {xs : List V} {q1 : Addr} {x8 x9 x10 : Addr × HO}, (∃ T : List Tch, DpAll K G4 xs (T.map tchD) ∧ T.length ≤ 30) → Fr G4 (x10 :: x9 :: x8 :: N) q1 → wkR R (.ref q1) G4 ((q1, .lst xs) :: x10 :: x9 :: x8 :: N) := fun {xs q1 x8 x9 x10} h f => by
      obtain ⟨T, hT, hTl⟩ := h
      have e1 := Ex.new (o := .lst xs) f
      refine retW (Wk.frz0.trans (Wk.drop0.trans (Wk.drop0.trans (Wk.drop0.trans ?_)))) (q q1 T c2 s2 _ (xa.trans e1) ⟨_, upd_same, ex_ds e1 _ hT⟩ (by omega) hs2)
      rw [hN]; exact Wk.drop0.trans (Wk.drop0.trans (Wk.drop0.trans (Wk.drop0.trans (Wk.drop0.trans (Wk.drop0.trans (Wk.drop0.trans (Wk.drop0.trans (Wk.drop0.trans (Wk.drop0)))))))))
    refine ⟨G4, N, by rw [hN, hC]; exact Wk.refl, u1, .inr (sql_of (xa _ _ h1)), fun p8 f8 => ⟨_, .ref pi, lst_n (n := 1) hw1, ?_, _, ys, at_n (n := 0) rfl, at_n (n := j + 1) hj, sz (by omega), fun p9 f9 => ⟨u1, .inr (sql_of (xa _ _ h1)), fun p10 f10 => ⟨_, _, at_n (n := 1) rfl, at_n (n := 0) rfl, ?_, fun p11 f11 => ?_⟩⟩⟩⟩
    · rw [show r1 - 2 = ((i : Nat) : Int) by omega]; exact atI_nat hpi
    · refine sz ?_
      rw [List.length_append]
      exact Nat.le_trans (Nat.add_le_add_left (cut_lenT _ _ _) _) (by omega)
    · exact fin (app _) f11
  cases hb : decide (V.str tc.txt = V.str "lay") with
  | false =>
    refine ⟨_, .str "lay", lst_n (n := 0) rfl, ?_, ?_⟩
    · rw [hb]; exact atI_nat (j := 0) rfl
    · exact kseq_wk Wk.drop0 (rest true)
  | true =>
    refine ⟨_, .str "look", lst_n (n := 0) rfl, ?_, ?_⟩
    · rw [hb]; exact atI_nat (j := 1) rfl
    · exact kseq_wk Wk.drop0 (rest false)
end
section
def ownP (j : Nat) (ps : List (Sg × Tch)) : List (Sg × Tch) := ps.filter fun x => decide (drI x.1 = some j)
def fitGo (n : Nat) : List (Nat × Nat) → List (Sg × Tch) → Nat
  | S, [] => if (S.map (·.2)).Nodup then fac (n - S.length) else 0
  | S, x :: t => match S.lookup (itOf x.1) with
    | some r => if r = x.2.room ∧ x.2.room < n ∧ okP x = true then fitGo n S t else 0
    | none => if x.2.room < n ∧ okP x = true then fitGo n (S ++ [(itOf x.1, x.2.room)]) t else 0
theorem fitGo_eq (n : Nat) : ∀ (t : List (Sg × Tch)) (S : List (Nat × Nat)), fitGo n S t = if t.all okP = true then ordGo n S (t.map fun x => (x.1, x.2.room)) else 0
  | [], S => rfl
  | x :: t, S => by
    have h1 : fitGo n S (x :: t) = (match S.lookup (itOf x.1) with
      | some r => if r = x.2.room ∧ x.2.room < n ∧ okP x = true then fitGo n S t else 0
      | none => if x.2.room < n ∧ okP x = true then fitGo n (S ++ [(itOf x.1, x.2.room)]) t else 0) := rfl
    have h2 : ordGo n S ((x :: t).map fun x => (x.1, x.2.room)) = (match S.lookup (itOf x.1) with
      | some r => if r = x.2.room ∧ x.2.room < n then ordGo n S (t.map fun x => (x.1, x.2.room)) else 0
      | none => if x.2.room < n then ordGo n (S ++ [(itOf x.1, x.2.room)]) (t.map fun x => (x.1, x.2.room)) else 0) := rfl
    rw [h1, h2, List.all_cons]
    cases ok : okP x with
    | false =>
      rw [Bool.false_and]
      cases S.lookup (itOf x.1) with
      | some r =>
        show (if r = x.2.room ∧ x.2.room < n ∧ false = true then fitGo n S t else 0) = 0
        exact if_neg fun z => Bool.false_ne_true z.2.2
      | none =>
        show (if x.2.room < n ∧ false = true then fitGo n (S ++ [(itOf x.1, x.2.room)]) t else 0) = 0
        exact if_neg fun z => Bool.false_ne_true z.2
    | true =>
      rw [Bool.true_and]
      cases S.lookup (itOf x.1) with
      | some r =>
        show (if r = x.2.room ∧ x.2.room < n ∧ true = true then fitGo n S t else 0) = if t.all okP = true then (if r = x.2.room ∧ x.2.room < n then ordGo n S (t.map fun x => (x.1, x.2.room)) else 0) else 0
        rw [fitGo_eq n t S]
        by_cases a : r = x.2.room ∧ x.2.room < n
        · rw [if_pos ⟨a.1, a.2, rfl⟩, if_pos a]
        · rw [if_neg (fun z => a ⟨z.1, z.2.1⟩), if_neg a]; split <;> rfl
      | none =>
        show (if x.2.room < n ∧ true = true then fitGo n (S ++ [(itOf x.1, x.2.room)]) t else 0) = if t.all okP = true then (if x.2.room < n then ordGo n (S ++ [(itOf x.1, x.2.room)]) (t.map fun x => (x.1, x.2.room)) else 0) else 0
        rw [fitGo_eq n t]
        by_cases a : x.2.room < n
        · rw [if_pos ⟨a, rfl⟩, if_pos a]
        · rw [if_neg (fun z => a z.1), if_neg a]; split <;> rfl
theorem all_congrA {α : Type} {p q : α → Bool} : ∀ {l : List α}, (∀ x, x ∈ l → p x = q x) → l.all p = l.all q
  | [], _ => rfl
  | x :: l, h => by rw [List.all_cons, List.all_cons, h x List.mem_cons_self, all_congrA fun y hy => h y (List.mem_cons_of_mem _ hy)]
def dsl (j l : Nat) : List Dr := List.replicate j (.leaf 0) ++ [.leaf l]
theorem dsl_get (j l : Nat) : (dsl j l).getD j (.leaf 0) = .leaf l := by
  unfold dsl
  rw [List.getD_eq_getElem?_getD, List.getElem?_append_right (by rw [List.length_replicate]; exact Nat.le_refl _), List.length_replicate, Nat.sub_self]; rfl
theorem leaf_one {ks : List Kn} {j h l : Nat} (hk : ks[j]? = some ⟨true, h⟩) {x : Sg × Tch} (hx : ∃ b sh p e, x.1 = .way b sh j p e) : decide (tchOf ks (dsl j l) x.1 = x.2) = (okP x && leafFit h l (x.1, x.2.room)) := by
  obtain ⟨b, sh, p, e, hx⟩ := hx
  obtain ⟨s, t⟩ := x
  have hx : s = .way b sh j p e := hx
  subst hx
  have hg : ks.getD j ⟨true, 0⟩ = ⟨true, h⟩ := by rw [List.getD_eq_getElem?_getD, hk]; rfl
  have e1 : tchOf ks (dsl j l) (.way b sh j p e) = ⟨b, sh, 2 * nodeN h p l + e⟩ := by
    show (⟨b, sh, 2 * nodeN (ks.getD j ⟨true, 0⟩).n p (leafD ((dsl j l).getD j (.leaf 0))) + e⟩ : Tch) = _
    rw [hg, dsl_get]; rfl
  show decide (tchOf ks (dsl j l) (.way b sh j p e) = t) = ((decide (t.lay = b) && decide (t.shelf = sh)) && decide (2 * nodeN h p l + e = t.room))
  rw [e1]
  obtain ⟨a, c, d⟩ := t
  rw [Bool.eq_iff_iff, decide_eq_true_iff, Bool.and_eq_true, Bool.and_eq_true, decide_eq_true_iff, decide_eq_true_iff, decide_eq_true_iff]
  constructor
  · intro z
    injection z with z1 z2 z3
    exact ⟨⟨z1.symm, z2.symm⟩, z3⟩
  · rintro ⟨⟨z1, z2⟩, z3⟩
    have z1 : a = b := z1
    have z2 : c = sh := z2
    have z3 : 2 * nodeN h p l + e = d := z3
    rw [z1, z2, z3]
theorem leaf_fit {ks : List Kn} {j h : Nat} (hk : ks[j]? = some ⟨true, h⟩) {own : List (Sg × Tch)} (hx : ∀ x, x ∈ own → ∃ b sh p e, x.1 = .way b sh j p e) : ((List.range (2 ^ h)).filter fun l => own.all fun x => decide (tchOf ks (dsl j l) x.1 = x.2)).length = if own.all okP = true then leavesLeft h (own.map fun x => (x.1, x.2.room)) else 0 := by
  cases ok : own.all okP with
  | true =>
    rw [if_pos rfl]
    unfold leavesLeft
    refine congrArg List.length (List.filter_congr fun l _ => ?_)
    rw [List.all_map]
    refine all_congrA fun x hx' => ?_
    rw [leaf_one hk (hx x hx'), List.all_eq_true.mp ok x hx', Bool.true_and]; rfl
  | false =>
    rw [if_neg (by decide)]
    obtain ⟨x, hx', hx2⟩ := List.all_eq_false.mp ok
    rw [List.filter_eq_nil_iff.mpr]; · rfl
    intro l _ z
    have := List.all_eq_true.mp z x hx'
    rw [leaf_one hk (hx x hx')] at this
    rw [Bool.and_eq_true] at this
    exact hx2 this.1
end
section
variable {K : PySem.W.Frag} {vs : List V} {G : Hp} {M : Mem} {R : KR} {Z : KX}
def prP (x : Sg × Tch) : PyData := .tuple [sgD x.1, tchD x.2]
theorem pr_inv {v : V} {x : Sg × Tch} (h : Dp K G v (prP x)) : ∃ T Ts Tt, v = .ref T ∧ SqT K G T [.ref Ts, .ref Tt] ∧ SqT K G Ts x.1.vs ∧ SqT K G Tt (tchV x.2) := by
  obtain ⟨T, xs, rfl, hT, hxs⟩ := dp_tup_inv h
  cases hxs with
  | cons a t =>
    cases t with
    | cons b u =>
      cases u
      obtain ⟨Ts, rfl, hTs⟩ := sg_inv a
      obtain ⟨Tt, rfl, hTt⟩ := tch_inv b
      exact ⟨T, Ts, Tt, rfl, hT, hTs, hTt⟩
theorem own_snoc {j : Nat} {ps : List (Sg × Tch)} {x : Sg × Tch} : ownP j (ps ++ [x]) = ownP j ps ++ if drI x.1 = some j then [x] else [] := by
  unfold ownP
  rw [List.filter_append]
  congr 1
  by_cases z : drI x.1 = some j
  · rw [if_pos z, List.filter_cons_of_pos (by rw [decide_eq_true z])]; rfl
  · rw [if_neg z, List.filter_cons_of_neg (by rw [decide_eq_false z]; exact Bool.false_ne_true)]; rfl
theorem eqv_nn (m n : Nat) : PyData.eqv (.int (m : Int)) (.int (n : Int)) = decide (m = n) := by
  have h := eqvA_ints [(m : Int)] [(n : Int)]
  rw [List.map_cons, List.map_nil, List.map_cons, List.map_nil] at h
  have h2 : PyData.eqvAll [.int (m : Int)] [.int (n : Int)] = (PyData.eqv (.int (m : Int)) (.int (n : Int)) && PyData.eqvAll [] []) := by rw [PySem.W.eqv_all_cons]
  have h3 : PyData.eqvAll [] [] = true := by rw [PyData.eqvAll]
  rw [h2, h3, Bool.and_true] at h
  rw [h]
  by_cases z : m = n
  · rw [decide_eq_true z, decide_eq_true (by rw [z])]
  · rw [decide_eq_false z, decide_eq_false (fun y => z (by have := (List.cons.inj y).1; omega))]
theorem eqv_dd (a b : Bool) : PyData.eqv (.str (deedS a)) (.str (deedS b)) = decide (a = b) := by
  unfold deedS
  cases a <;> cases b <;> decide +kernel
theorem txt_deed (t : Tch) : t.txt = deedS t.lay := rfl
theorem eqv_si (a b : Bool) (m n : Nat) : PyData.eqv (.tuple [.str (deedS a), .int (m : Int)]) (.tuple [.str (deedS b), .int (n : Int)]) = (decide (a = b) && decide (m = n)) := by
  have h1 : PyData.eqv (.tuple [.str (deedS a), .int (m : Int)]) (.tuple [.str (deedS b), .int (n : Int)]) = PyData.eqvAll [.str (deedS a), .int (m : Int)] [.str (deedS b), .int (n : Int)] := by rw [PyData.eqv]
  have h3 : PyData.eqvAll [] [] = true := by rw [PyData.eqvAll]
  rw [h1, PySem.W.eqv_all_cons, PySem.W.eqv_all_cons, h3, eqv_dd, eqv_nn, Bool.and_true]
theorem eqv_tch (x y : Tch) : PyData.eqv (tchD x) (tchD y) = decide (x = y) := by
  obtain ⟨a, m, i⟩ := x
  obtain ⟨b, n, j⟩ := y
  have h1 : PyData.eqv (tchD ⟨a, m, i⟩) (tchD ⟨b, n, j⟩) = PyData.eqvAll [.str (deedS a), .int (m : Int), .int (i : Int)] [.str (deedS b), .int (n : Int), .int (j : Int)] := by
    show PyData.eqv (.tuple _) (.tuple _) = _
    rw [PyData.eqv]; rfl
  have h3 : PyData.eqvAll [] [] = true := by rw [PyData.eqvAll]
  rw [h1, PySem.W.eqv_all_cons, PySem.W.eqv_all_cons, PySem.W.eqv_all_cons, h3, eqv_dd, eqv_nn, eqv_nn, Bool.and_true, Bool.eq_iff_iff, Bool.and_eq_true, Bool.and_eq_true, decide_eq_true_iff, decide_eq_true_iff, decide_eq_true_iff, decide_eq_true_iff]
  constructor
  · rintro ⟨rfl, rfl, rfl⟩; rfl
  · intro z; injection z with z1 z2 z3; exact ⟨z1, z2, z3⟩
theorem shp_tch (t : Tch) : Shp 1 (tchD t) := by
  refine .tuple fun d hd => ?_
  simp only [List.mem_cons, List.not_mem_nil, or_false] at hd
  rcases hd with rfl | rfl | rfl
  · refine .str ?_
    unfold Tch.txt; split
    · exact (by decide +kernel : PyData.strOk ("lay" : Str) = true)
    · exact (by decide +kernel : PyData.strOk ("look" : Str) = true)
  · exact .int
  · exact .int
def LfG (j : Nat) (G : Hp) (v : V) (l : Nat) : Prop := ∃ b, v = .ref b ∧ G b = some (.lst (List.replicate j (V.int 0) ++ [V.int (l : Nat)]))
theorem LfG.ex {j l : Nat} {G' : Hp} {v : V} (e : Ex G G') (h : LfG j G v l) : LfG j G' v l := by
  obtain ⟨b, rfl, h⟩ := h; exact ⟨b, rfl, e _ _ h⟩
theorem hput_same {it w : Nat} : ∀ {S : List (Nat × Nat)}, (S.map (·.1)).Nodup → S.lookup it = some w → (S.map fun p => if p.1 = it then (p.1, w) else p) = S
  | [], _, h => by cases h
  | (a, b) :: S, hn, h => by
    rw [List.map_cons, List.nodup_cons] at hn
    rw [List.lookup_cons] at h
    rw [List.map_cons]
    by_cases z : a = it
    · subst z
      have hb : b = w := by simpa using h
      subst hb
      rw [if_pos rfl]
      refine congrArg _ ?_
      have : ∀ p, p ∈ S → (if p.1 = a then (p.1, b) else p) = p := fun p hp => if_neg fun y => hn.1 (List.mem_map.mpr ⟨p, hp, y⟩)
      rw [List.map_congr_left this, List.map_id']
    · have hb : (it == a) = false := by simpa using fun y => z y.symm
      rw [hb] at h
      rw [if_neg z, hput_same hn.2 h]
theorem pf_law_fit (h : S_law_fit K vs G M R Z) : rd_law_fit K (ends R Z) (sta 14 vs) G M := by
  obtain ⟨_, _, _, _, rfl, a, o, t, ks, j, sgs, ts, rfl, hkn, rfl, hj, hk3, rfl, ⟨us, hu, hud⟩, h10, hs, rfl, ⟨ut, ht, htd⟩, h40, q⟩ := sp4_of h
  clear h
  have hkn' := hkn
  obtain ⟨uk, hk, hkd, hko⟩ := hkn
  have husl : us.length = sgs.length := by rw [dpall_len hud, List.length_map]
  have hutl : ut.length = ts.length := by rw [dpall_len htd, List.length_map]
  obtain ⟨k, hkj⟩ : ∃ k, ks[j]? = some k := ⟨_, List.getElem?_eq_getElem hj⟩
  obtain ⟨kv, hkv, hkvd⟩ := dp_all (f := knD) hkd hkj
  obtain ⟨tk, rfl, htk⟩ := dp_kn_inv hkvd
  obtain ⟨kk, k12⟩ := hko k (List.mem_of_getElem? hkj)
  have hgd : ks.getD j ⟨true, 0⟩ = k := by rw [List.getD_eq_getElem?_getD, hkj]; rfl
  obtain ⟨ps, hps⟩ : ∃ ps, ps = sgs.zip ts := ⟨_, rfl⟩
  rw [← hps] at q
  have hpl : ps.length = min sgs.length ts.length := by rw [hps, List.length_zip]
  have hin : ∀ x, x ∈ ps → SgOk ks x.1 := fun x hx => by rw [hps] at hx; exact hs _ (List.of_mem_zip hx).1
  refine ⟨G, M, Wk.refl, uk, _, .inl (.inr (sql_of hk)), atI_nat hkv, ?_⟩
  refine ⟨G, M, Wk.refl, sz0, fun p5 f5 => ?_⟩
  refine ⟨G, (p5, .lst []) :: M, Wk.refl, us, ut, .inr (sql_of hu), .inr (sql_of ht),
    fun i σ G2 M2 => ∃ (acc : List V) (y6 y7 : Option V), σ = [some (.ref a), some (.int j), some (.ref o), some (.ref t), some (.ref tk), some (.ref p5), y6, y7, none, none, none, none, none, none] ∧ Ex G G2 ∧ M2 = (p5, .lst acc) :: M ∧ DpAll K G2 acc ((ownP j (ps.take i)).map prP), ⟨[], none, none, rfl, Ex.refl, rfl, .nil⟩, ?_, ?_, ?_⟩
  · rintro i σ G2 M2 _ ⟨acc, y6, y7, rfl, ex, rfl, _⟩
    exact ⟨.inr (sql_of (ex _ _ hu)), .inr (sql_of (ex _ _ ht))⟩
  · rintro i σ G2 M2 hi ⟨acc, y6, y7, rfl, ex, rfl, hacc⟩
    have hi : i < min us.length ut.length := hi
    obtain ⟨s, hs1⟩ : ∃ s, sgs[i]? = some s := ⟨_, List.getElem?_eq_getElem (by omega)⟩
    obtain ⟨tc, htc⟩ : ∃ tc, ts[i]? = some tc := ⟨_, List.getElem?_eq_getElem (by omega)⟩
    have hpi : ps[i]? = some (s, tc) := by rw [hps]; exact List.getElem?_zip_eq_some.mpr ⟨hs1, htc⟩
    obtain ⟨v1, hv1, hvd1⟩ := dpall_get (d := sgD s) hud (by rw [List.getElem?_map, hs1]; rfl)
    obtain ⟨v2, hv2, hvd2⟩ := dpall_get (d := tchD tc) htd (by rw [List.getElem?_map, htc]; rfl)
    obtain ⟨Ts, rfl, hTs⟩ := sg_inv hvd1
    obtain ⟨Tt, rfl, hTt⟩ := tch_inv hvd2
    have hTs := ex_t ex hTs
    have hTt := ex_t ex hTt
    have hal : acc.length ≤ 10 := by
      rw [dpall_len hacc, List.length_map]
      have h1 : (ownP j (ps.take i)).length ≤ (ps.take i).length := List.length_filter_le _ _
      rw [List.length_take] at h1
      omega
    have htk2 : ps.take (i + 1) = ps.take i ++ [(s, tc)] := take_succ' hpi
    refine asg_Z hv1 hv2 ?_
    have skip : drI s ≠ some j → ∃ (G3 : Hp) (M3 : Mem), Wk G2 ((p5, .lst acc) :: M) G3 M3 ∧ ∃ (acc : List V) (y6 y7 : Option V), [some (.ref a), some (.int j), some (.ref o), some (.ref t), some (.ref tk), some (.ref p5), some (.ref Ts), some (.ref Tt), none, none, none, none, none, none] = [some (V.ref a), some (.int j), some (.ref o), some (.ref t), some (.ref tk), some (.ref p5), y6, y7, none, none, none, none, none, none] ∧ Ex G G3 ∧ M3 = (p5, .lst acc) :: M ∧ DpAll K G3 acc ((ownP j (ps.take (i + 1))).map prP) := fun z => by
      refine ⟨G2, _, Wk.refl, acc, _, _, rfl, ex, rfl, ?_⟩
      rw [htk2, own_snoc, if_neg z, List.append_nil]; exact hacc
    have put : drI s = some j → ∀ T, Fr G2 ((p5, .lst acc) :: M) T → ∃ (G3 : Hp) (M3 : Mem), Wk (upd G2 T (.tup [.ref Ts, .ref Tt])) ((p5, .lst (acc ++ [.ref T])) :: M) G3 M3 ∧ ∃ (acc : List V) (y6 y7 : Option V), [some (.ref a), some (.int j), some (.ref o), some (.ref t), some (.ref tk), some (.ref p5), some (.ref Ts), some (.ref Tt), none, none, none, none, none, none] = [some (V.ref a), some (.int j), some (.ref o), some (.ref t), some (.ref tk), some (.ref p5), y6, y7, none, none, none, none, none, none] ∧ Ex G G3 ∧ M3 = (p5, .lst acc) :: M ∧ DpAll K G3 acc ((ownP j (ps.take (i + 1))).map prP) := fun z T fT => by
      have e1 := Ex.new (o := .tup [V.ref Ts, .ref Tt]) fT
      refine ⟨_, _, Wk.refl, acc ++ [.ref T], _, _, rfl, ex.trans e1, rfl, ?_⟩
      rw [htk2, own_snoc, if_pos z, List.map_append]
      exact dpall_app2 (ex_ds e1 _ hacc) (.cons (.tup sqt_new (.cons (dp_sg (ex_t e1 hTs)) (.cons (dp_tch (ex_t e1 hTt)) .nil))) .nil)
    cases s with
    | room b0 sh r =>
      refine ⟨G2, _, Wk.refl, _, _, tup_g hTs, rfl, ?_⟩
      exact skip (fun z => nomatch z)
    | item b0 sh d it =>
      refine ⟨G2, _, Wk.refl, _, _, tup_g hTs, rfl, _, _, tup_g hTs, rfl, ?_⟩
      refine ite2' (c := decide (V.int (d : Int) = V.int (j : Int))) (fun z => ?_) (fun z => ?_)
      · rw [dec_nat] at z
        have z := of_decide_eq_true z
        refine ⟨G2, _, Wk.refl, tyl_n (n := 0) rfl, sz2, fun T fT => ⟨0, acc, rfl, sz (by omega), ?_⟩⟩
        exact put (by rw [← z]; rfl) T fT
      · rw [dec_nat] at z
        have z := of_decide_eq_false z
        exact skip (fun y => z (Option.some.inj y))
    | way b0 sh d p e =>
      refine ⟨G2, _, Wk.refl, _, _, tup_g hTs, rfl, _, _, tup_g hTs, rfl, ?_⟩
      refine ite2' (c := decide (V.int (d : Int) = V.int (j : Int))) (fun z => ?_) (fun z => ?_)
      · rw [dec_nat] at z
        have z := of_decide_eq_true z
        refine ⟨G2, _, Wk.refl, tyl_n (n := 0) rfl, sz2, fun T fT => ⟨0, acc, rfl, sz (by omega), ?_⟩⟩
        exact put (by rw [← z]; rfl) T fT
      · rw [dec_nat] at z
        have z := of_decide_eq_false z
        exact skip (fun y => z (Option.some.inj y))
  rintro σ G2 M2 ⟨acc, y6, y7, rfl, ex, rfl, hacc⟩
  have hacc : DpAll K G2 acc ((ownP j (ps.take (min us.length ut.length))).map prP) := hacc
  rw [show min us.length ut.length = ps.length by omega, List.take_length] at hacc
  have hq : fitF ks j ps = if (ownP j ps).all okP = true then cntK k ((ownP j ps).map fun x => (x.1, x.2.room)) else 0 := by unfold fitF; rw [hgd]; rfl
  have howk : ∀ x, x ∈ ownP j ps → SgOk ks x.1 ∧ drI x.1 = some j := fun x hx => by
    obtain ⟨h1, h2⟩ := List.mem_filter.mp hx
    exact ⟨hin x h1, of_decide_eq_true h2⟩
  have hol : (ownP j ps).length ≤ 10 := by
    have h1 : (ownP j ps).length ≤ ps.length := List.length_filter_le _ _
    omega
  rw [hq] at q
  revert hacc howk hol q
  generalize ownP j ps = own
  intro q hacc howk hol
  have htk2 := ex_t ex htk
  have hal : acc.length = own.length := by rw [dpall_len hacc, List.length_map]
  have hk1 := kk.1
  have hkn2 : KnsG K G2 a ks := ⟨uk, ex _ _ hk, ex_ds ex _ hkd, hko⟩
  refine ⟨G2, _, Wk.refl, _, _, tup_g htk2, rfl, ?_⟩
  show if decide (V.str k.txt = .str "leaf") = true then _ else _
  rw [txt_leaf]
  refine ite2' (fun e => ?_) (fun e => ?_)
  · have h6 := kk.2.1 e
    have e2 : (1 : Int) * 2 ^ (k.n : Int).toNat = ((2 ^ k.n : Nat) : Int) := by simp
    have p0 : 0 < 2 ^ k.n := Nat.pow_pos (by decide)
    have p6 : 2 ^ k.n ≤ 64 := Nat.pow_le_pow_right (n := 2) (by decide) h6
    have kx : k = ⟨true, k.n⟩ := by cases k; cases e; rfl
    have hkj2 : ks[j]? = some ⟨true, k.n⟩ := by rw [hkj]; exact congrArg some kx
    have hway : ∀ x, x ∈ own → ∃ b sh p e, x.1 = .way b sh j p e := fun x hx => by
      obtain ⟨h1, h2⟩ := howk x hx
      obtain ⟨s, t⟩ := x
      cases s with
      | room => cases h2
      | item b s d i =>
        cases h2
        obtain ⟨n, e3, _⟩ := h1
        rw [hkj2] at e3
        cases e3
      | way b s d p e => cases h2; exact ⟨b, s, p, e, rfl⟩
    refine ⟨G2, _, Wk.refl, _, _, tup_g htk2, rfl, ⟨by omega, by omega, by decide⟩, ⟨?_, ?_⟩, sz ?_, fun i acc8 G3 M3 => Ex G2 G3 ∧ M3 = (p5, .lst acc) :: M ∧ A2 (LfG j G3) acc8 (List.range i), ⟨Ex.refl, rfl, .nil⟩, fun _ _ _ _ _ _ => trivial, ?_, ?_⟩
    · show -2 ^ 62 ≤ (1 : Int) * 2 ^ (k.n : Int).toNat
      rw [e2]; omega
    · show (1 : Int) * 2 ^ (k.n : Int).toNat < 2 ^ 62
      rw [e2]; omega
    · show ((1 : Int) * 2 ^ (k.n : Int).toNat).toNat ≤ _
      rw [e2, Int.toNat_natCast]; omega
    · rintro i acc8 G3 M3 D hi hacc8 ⟨ex3, rfl, h8⟩ fD
      refine asg_R (v := (i : Int)) (by omega) ?_
      refine ⟨rfl, sz1, fun p1 f1 => ⟨[.int 0], at_n (n := 0) rfl, by omega, by omega, sz (by show [V.int 0].length * ((j : Nat) : Int).toNat ≤ _; rw [List.length_singleton, Int.toNat_natCast]; omega), fun p2 f2 => ⟨sz1, fun p3 f3 => ⟨_, _, at_n (n := 1) rfl, at_n (n := 0) rfl, ?_, fun p4 f4 => ?_⟩⟩⟩⟩
      · rw [List.flatten_replicate_singleton, List.length_replicate, List.length_singleton, Int.toNat_natCast]; exact sz (by omega)
      · rw [List.flatten_replicate_singleton, Int.toNat_natCast] at f4 ⊢
        have e4 := Ex.new (o := .lst (List.replicate j (V.int 0) ++ [V.int (i : Nat)])) f4
        refine ⟨_, _, Wk.frz0.trans (Wk.drop0.trans (Wk.drop0.trans Wk.drop0)), ex3.trans e4, rfl, ?_⟩
        rw [List.range_succ]
        exact (h8.mono fun _ _ z => z.ex e4).app (.cons ⟨p4, rfl, upd_same⟩ .nil)
    · rintro acc8 G3 M3 p8 ⟨ex3, rfl, h8⟩ hacc8 f8
      have h8 : A2 (LfG j G3) acc8 (List.range ((1 : Int) * 2 ^ (k.n : Int).toNat).toNat) := h8
      rw [e2, Int.toNat_natCast] at h8
      have h8l : acc8.length = 2 ^ k.n := by rw [h8.len, List.length_range]
      refine ⟨G3, _, Wk.refl, acc8, lat_0, sz (by show acc8.length ≤ _; omega), fun i accT G4 M4 => Ex G3 G4 ∧ M4 = (p8, .lst acc8) :: (p5, .lst acc) :: M ∧ accT.length = ((List.range i).filter fun l => own.all fun x => decide (tchOf ks (dsl j l) x.1 = x.2)).length, ⟨Ex.refl, rfl, rfl⟩, ?_, ?_, ?_⟩
      · rintro i accT G4 M4 _ ⟨ex4, rfl, _⟩; exact lat_0
      · rintro i accT G4 M4 D hi haT ⟨ex4, rfl, hT⟩ fD
        have hi : i < acc8.length := hi
        obtain ⟨v8, hv8, b8, rfl, hb8⟩ := h8.get (i := i) (b := i) (by rw [List.getElem?_range (by omega)])
        refine asg_L hv8 ⟨rfl, acc, lat_cons (lat_cons lat_0), sz (by show acc.length ≤ _; omega), fun m accB G5 M5 => Ex G4 G5 ∧ M5 = (D, .lst accT) :: (p8, .lst acc8) :: (p5, .lst acc) :: M ∧ accB = ((own.take m).map fun x => decide (tchOf ks (dsl j i) x.1 = x.2)).map V.bl, ⟨Ex.refl, rfl, rfl⟩, ?_, ?_, ?_⟩
        · rintro m accB G5 M5 _ ⟨_, rfl, _⟩; exact lat_cons (lat_cons lat_0)
        · rintro m accB G5 M5 D2 hm _ ⟨ex5, rfl, rfl⟩ fD2
          have hm : m < acc.length := hm
          obtain ⟨x, hx⟩ : ∃ x, own[m]? = some x := ⟨_, List.getElem?_eq_getElem (by omega)⟩
          obtain ⟨v, hv, hvd⟩ := dpall_get (d := prP x) hacc (by rw [List.getElem?_map, hx]; rfl)
          have exx := (ex3.trans ex4).trans ex5
          obtain ⟨T, Ts, Tt, rfl, hTT, hTs, hTt⟩ := pr_inv (ex_d exx _ hvd)
          obtain ⟨hok, hdr⟩ := howk x (List.mem_of_getElem? hx)
          obtain ⟨uk2, g1, g2, g3⟩ := hkn2
          refine asg_L hv ⟨_, hTT, rfl, a, b8, List.replicate j (.int 0) ++ [.int (i : Nat)], ks, x.1, dsl j i, rfl, ⟨uk2, exx _ _ g1, ex_ds exx _ g2, g3⟩, dp_sg hTs, hok, rfl, .inr (sql_of ((ex4.trans ex5) _ _ hb8)), fun d hd => ?_, fun t1 G6 ex6 ht1 => ?_⟩
          · obtain rfl : j = d := Option.some.inj (hdr.symm.trans hd)
            refine ⟨.int (i : Nat), .leaf i, k, ?_, rfl, hkj, ⟨e, by omega⟩, dsl_get _ _⟩
            rw [List.getElem?_append_right (by rw [List.length_replicate]; exact Nat.le_refl _), List.length_replicate, Nat.sub_self]; rfl
          · refine ⟨tchD (tchOf ks (dsl j i) x.1), tchD x.2, fun H hv => ex_d hv.exx _ (dp_tch ht1), fun H hv => ex_d hv.exx _ (dp_tch (ex_t ex6 hTt)), (shp_tch _).shaped (by decide), (shp_tch _).shaped (by decide), ?_⟩
            refine ⟨G6, _, Wk.refl, ex5.trans ex6, rfl, ?_⟩
            show _ ++ [V.bl (PyData.eqv (tchD (tchOf ks (dsl j i) x.1)) (tchD x.2))] = _
            rw [eqv_tch, take_succ' hx, List.map_append, List.map_append]; rfl
        · rintro accB G5 M5 p9 ⟨ex5, rfl, rfl⟩ _ fp9
          have hb : ((own.take acc.length).map fun x => decide (tchOf ks (dsl j i) x.1 = x.2)).all _root_.id = own.all fun x => decide (tchOf ks (dsl j i) x.1 = x.2) := by
            rw [hal, List.take_length, List.all_map]; rfl
          refine ⟨_, lat_0, ?_⟩
          refine ite2' (c := ((own.take acc.length).map fun x => decide (tchOf ks (dsl j i) x.1 = x.2)).all _root_.id) (fun z => ?_) (fun z => ?_)
          · rw [hb] at z
            refine ⟨G5, (p8, .lst acc8) :: (p5, .lst acc) :: M, Wk.drop0, ex4.trans ex5, rfl, ?_⟩
            rw [List.length_append, hT, List.range_succ, List.filter_append, List.length_append, List.filter_cons_of_pos (p := fun l => own.all fun x => decide (tchOf ks (dsl j l) x.1 = x.2)) z]; rfl
          · rw [hb] at z
            refine ⟨G5, (p8, .lst acc8) :: (p5, .lst acc) :: M, Wk.drop0, ex4.trans ex5, rfl, ?_⟩
            rw [hT, List.range_succ, List.filter_append, List.length_append, List.filter_cons_of_neg (p := fun l => own.all fun x => decide (tchOf ks (dsl j l) x.1 = x.2)) (by rw [z]; decide)]; rfl
      · rintro accT G4 M4 pT ⟨ex4, rfl, hT⟩ _ fpT
        have hT : accT.length = ((List.range acc8.length).filter fun l => own.all fun x => decide (tchOf ks (dsl j l) x.1 = x.2)).length := hT
        rw [h8l, leaf_fit hkj2 hway] at hT
        refine ⟨accT, .inl lat_0, retW (Wk.drop0.trans (Wk.drop0.trans Wk.drop0)) ?_⟩
        have := q G4 (ex.trans (ex3.trans ex4))
        unfold cntK at this
        rw [if_pos e, ← hT] at this
        exact this
  · have e : k.leaf = false := by simpa using e
    have kx : k = ⟨false, k.n⟩ := by cases k; cases e; rfl
    have hkj2 : ks[j]? = some ⟨false, k.n⟩ := by rw [hkj]; exact congrArg some kx
    have q : ∀ G', Ex G G' → R (.int (fitGo k.n [] own : Nat)) G' M := fun G' ex' => by
      have := q G' ex'
      unfold cntK at this
      rw [if_neg (c := k.leaf = true) (by rw [e]; decide)] at this
      rw [fitGo_eq]; exact this
    refine ⟨G2, _, Wk.refl, fun p fp => ?_⟩
    refine ⟨G2, (p, .dK (handK [])) :: (p5, .lst acc) :: M, Wk.refl, acc, lat_cons lat_0, fun i σ G3 M3 => ∃ (S : List (Nat × Nat)) (y6 y7 : Option V), σ = [some (.ref a), some (.int j), some (.ref o), some (.ref t), some (.ref tk), some (.ref p5), y6, y7, none, none, none, some (.ref p), none, none] ∧ Ex G2 G3 ∧ M3 = (p, .dK (handK S)) :: (p5, .lst acc) :: M ∧ fitGo k.n [] own = fitGo k.n S (own.drop i) ∧ (S.map (·.1)).Nodup ∧ (∀ x, x ∈ S → x.1 < k.n ∧ x.2 < k.n), ⟨[], y6, y7, rfl, Ex.refl, rfl, rfl, List.nodup_nil, fun _ z => nomatch z⟩, ?_, ?_, ?_⟩
    · rintro i σ G3 M3 _ ⟨S, y6, y7, rfl, _, rfl, _⟩; exact lat_cons lat_0
    · rintro i σ G3 M3 hi ⟨S, y6, y7, rfl, ex3, rfl, hS, hk2, hv2⟩
      have hi : i < acc.length := hi
      obtain ⟨x, hx⟩ : ∃ x, own[i]? = some x := ⟨_, List.getElem?_eq_getElem (by omega)⟩
      obtain ⟨v, hv, hvd⟩ := dpall_get (d := prP x) hacc (by rw [List.getElem?_map, hx]; rfl)
      obtain ⟨T, Ts, Tt, rfl, hTT, hTs, hTt⟩ := pr_inv (ex_d ex3 _ hvd)
      obtain ⟨hok, hdr⟩ := howk x (List.mem_of_getElem? hx)
      have htk3 := ex_t ex3 htk2
      obtain ⟨s, tc⟩ := x
      obtain ⟨b0, sh, it, rfl, hit⟩ : ∃ b sh it, s = .item b sh j it ∧ it < k.n := by
        cases s with
        | room => cases hdr
        | item b s d it =>
          cases hdr
          obtain ⟨n, e3, h3⟩ := hok
          rw [hkj2] at e3
          cases e3
          exact ⟨b, s, it, rfl, h3⟩
        | way b s d p e =>
          cases hdr
          obtain ⟨n, e3, h3⟩ := hok
          rw [hkj2] at e3
          cases e3
      rw [drop_get hx] at hS
      have hSl : S.length ≤ k.n := by
        have := sub_len (S.map (·.1)) (List.range k.n) hk2 fun x hx => by
          obtain ⟨y, hy, rfl⟩ := List.mem_map.mp hx
          exact List.mem_range.mpr (hv2 y hy).1
        rwa [List.length_map, List.length_range] at this
      have hval : valV (handK S) (Sum.inl (it : Int)) = (S.lookup it).map fun (w : Nat) => V.int (w : Int) := by rw [hand_val, hget_lookup]
      have hS : fitGo k.n [] own = (match S.lookup it with
        | some r' => if r' = tc.room ∧ tc.room < k.n ∧ okP (.item b0 sh j it, tc) = true then fitGo k.n S (own.drop (i + 1)) else 0
        | none => if tc.room < k.n ∧ okP (.item b0 sh j it, tc) = true then fitGo k.n (S ++ [(it, tc.room)]) (own.drop (i + 1)) else 0) := hS
      have hget : (valV (handK S) (Sum.inl (it : Int))).getD (.int (tc.room : Nat)) = .int ((S.lookup it).getD tc.room : Nat) := by
        rw [hval]; cases S.lookup it <;> rfl
      have zero : fitGo k.n [] own = 0 → ∀ G4, Ex G3 G4 → wkR R (.int 0) G4 ((p, .dK (handK S)) :: (p5, .lst acc) :: M) := fun z G4 ex4 => by
        refine retW (Wk.drop0.trans Wk.drop0) ?_
        have := q G4 (ex.trans (ex3.trans ex4))
        rw [z] at this; exact this
      refine asg_L hv ⟨_, hTT, G3, _, Wk.refl, ⟨_, at_n (n := 0) rfl⟩, _, _, tup_g hTs, rfl, _, _, tup_g hTt, rfl, handK S, .inl (it : Int), at_n (n := 0) rfl, rfl, _, _, tup_g hTt, rfl, ?_⟩
      rw [hget]
      refine ite2' (c := !decide (V.int ((S.lookup it).getD tc.room : Nat) = V.int (tc.room : Nat))) (fun z => ?_) (fun z => ?_)
      · rw [dec_nat] at z
        have z : (S.lookup it).getD tc.room ≠ tc.room := by simpa using z
        refine ⟨G3, _, Wk.refl, zero ?_ G3 Ex.refl⟩
        rw [hS]
        cases e3 : S.lookup it with
        | none => rw [e3] at z; exact absurd rfl z
        | some r =>
          rw [e3] at z
          have z : r ≠ tc.room := z
          exact if_neg fun y => z y.1
      rw [dec_nat] at z
      have hsame : (S.lookup it).getD tc.room = tc.room := by simpa using z
      refine ⟨_, _, tup_g hTt, rfl, _, _, tup_g htk3, rfl, ?_⟩
      refine ite2' (c := !decide ((tc.room : Int) < (k.n : Int))) (fun y => ?_) (fun y => ?_)
      · have y : ¬ (tc.room : Int) < (k.n : Int) := by simpa using y
        refine ⟨G3, _, Wk.refl, zero ?_ G3 Ex.refl⟩
        rw [hS]
        cases e3 : S.lookup it with
        | none => exact if_neg fun u => by omega
        | some r => exact if_neg fun u => by omega
      have y : (tc.room : Int) < (k.n : Int) := by simpa using y
      have hcut : cutV (Sg.item b0 sh j it).vs (some 1) (some 3) = [.str (deedS b0), .int (sh : Nat)] := rfl
      refine ⟨tchV tc, hTt, fun z => absurd z (by show ¬ (HT.sIx 3 0 none = 0 ∧ HT.sIx 3 3 (some 2) = 3); decide), fun _ p1 f1 => ?_⟩
      have e1 := Ex.new (o := .tup (cutV (tchV tc) none (some 2))) f1
      refine ⟨(Sg.item b0 sh j it).vs, ex_t e1 hTs, fun z => absurd z.1 (by show ¬ ((1 : Nat) = 0); decide), fun _ p2 f2 => ?_⟩
      have e2 := Ex.new (o := .tup (cutV (Sg.item b0 sh j it).vs (some 1) (some 3))) f2
      have e12 := e1.trans e2
      obtain ⟨G4, hG4⟩ : ∃ g, g = upd (upd G3 p1 (.tup (cutV (tchV tc) none (some 2)))) p2 (.tup (cutV (Sg.item b0 sh j it).vs (some 1) (some 3))) := ⟨_, rfl⟩
      have hp2 : SqT K G4 p2 [.str (deedS b0), .int (sh : Nat)] := by rw [hG4, ← hcut]; exact sqt_new
      have hp1 : SqT K G4 p1 [.str (deedS tc.lay), .int (tc.shelf : Nat)] := by
        rw [hG4]
        refine ex_t e2 ?_
        show SqT K (upd _ p1 (.tup [.str tc.txt, .int (tc.shelf : Nat)])) p1 _
        exact sqt_new
      rw [← hG4] at e12 ⊢
      have strk : ∀ (x : Bool) (y : Int), Shp 1 (.tuple [.str (deedS x), .int y]) := fun x y => .tuple fun d hd => by
        simp only [List.mem_cons, List.not_mem_nil, or_false] at hd
        rcases hd with rfl | rfl
        · exact .str (by cases x <;> decide +kernel)
        · exact .int
      refine ⟨.tuple [.str (deedS tc.lay), .int (tc.shelf : Nat)], .tuple [.str (deedS b0), .int (sh : Nat)], dat_tup hp1 (dats_cons dat_str (dats_cons dat_int dats_nil)), dat_tup hp2 (dats_cons dat_str (dats_cons dat_int dats_nil)), (strk _ _).shaped (by decide), (strk _ _).shaped (by decide), ?_⟩
      have hA : PyData.eqv (.tuple [.str (deedS tc.lay), .int (tc.shelf : Nat)]) (.tuple [.str (deedS b0), .int (sh : Nat)]) = okP (.item b0 sh j it, tc) := eqv_si _ _ _ _
      show if (!PyData.eqv (.tuple [.str (deedS tc.lay), .int (tc.shelf : Nat)]) (.tuple [.str (deedS b0), .int (sh : Nat)])) = true then _ else _
      rw [hA]
      cases hkP : okP (Sg.item b0 sh j it, tc) with
      | false =>
        refine ⟨G4, _, Wk.refl, zero ?_ G4 e12⟩
        rw [hS, hkP]
        cases S.lookup it with
        | none => exact if_neg fun u => Bool.false_ne_true u.2
        | some r => exact if_neg fun u => Bool.false_ne_true u.2.2
      | true =>
        rw [hkP] at hS
        have hTs4 := ex_t e12 hTs
        have hTt4 := ex_t e12 hTt
        refine ⟨G4, _, Wk.refl, _, _, tup_g hTt4, rfl, _, _, tup_g hTs4, rfl, 0, handK S, .inl (it : Int), rfl, rfl, Nat.lt_of_le_of_lt (m := 64) (by rw [handK_len]; omega) (by decide), ?_⟩
        cases hw : S.lookup it with
        | some r =>
          rw [hw] at hS hsame
          have hsame : r = tc.room := hsame
          subst hsame
          have hput : putK (handK S) (Sum.inl (it : Int)) (.int (tc.room : Int)) = handK S := by
            rw [hand_put]
            unfold hPut
            rw [hget_lookup, hw, hput_same hk2 hw]; rfl
          refine ⟨G4, (p, .dK (handK S)) :: (p5, .lst acc) :: M, Wk.of_eq (by show (p, HO.dK (putK (handK S) (Sum.inl (it : Int)) (.int (tc.room : Int)))) :: _ = _; rw [hput]), S, _, _, rfl, ex3.trans e12, rfl, ?_, hk2, hv2⟩
          rw [hS]; exact if_pos ⟨rfl, by omega, rfl⟩
        | none =>
          rw [hw] at hS
          have hput : putK (handK S) (Sum.inl (it : Int)) (.int (tc.room : Int)) = handK (S ++ [(it, tc.room)]) := by
            rw [hand_put]
            unfold hPut
            rw [hget_lookup, hw]; rfl
          refine ⟨G4, (p, .dK (handK (S ++ [(it, tc.room)]))) :: (p5, .lst acc) :: M, by rw [← hput]; exact Wk.refl, S ++ [(it, tc.room)], _, _, rfl, ex3.trans e12, rfl, ?_, ?_, fun z hz => ?_⟩
          · rw [hS]; exact if_pos ⟨by omega, rfl⟩
          · rw [List.map_append, List.nodup_append]
            refine ⟨hk2, by simp, fun c hc d hd e2 => ?_⟩
            have : d = it := by simpa using hd
            rw [e2, this] at hc
            obtain ⟨y, hy, e3⟩ := List.mem_map.mp hc
            have := List.lookup_eq_none_iff.mp hw y hy
            simp [e3] at this
          · rcases List.mem_append.mp hz with hz | hz
            · exact hv2 z hz
            · rw [List.mem_singleton.mp hz]; exact ⟨hit, by show tc.room < k.n; omega⟩
    · rintro σ G3 M3 ⟨S, y6, y7, rfl, ex3, rfl, hS, hk2, hv2⟩
      have hS : fitGo k.n [] own = fitGo k.n S (own.drop acc.length) := hS
      rw [hal, List.drop_length] at hS
      have hS : fitGo k.n [] own = if (S.map (·.2)).Nodup then fac (k.n - S.length) else 0 := hS
      have hSl : S.length ≤ k.n := by
        have := sub_len (S.map (·.1)) (List.range k.n) hk2 fun x hx => by
          obtain ⟨y, hy, rfl⟩ := List.mem_map.mp hx
          exact List.mem_range.mpr (hv2 y hy).1
        rwa [List.length_map, List.length_range] at this
      have hnv : (handK S).map (·.2) = (S.map fun x => ((x.2 : Nat) : Int)).map V.int := by unfold handK; rw [List.map_map, List.map_map]; rfl
      have hnl : (S.map fun x => ((x.2 : Nat) : Int)).length = S.length := List.length_map _
      have hnd : (S.map fun x => ((x.2 : Nat) : Int)).Nodup ↔ (S.map (·.2)).Nodup := by
        constructor
        · intro y
          exact List.pairwise_map.mpr ((List.pairwise_map.mp y).imp fun {a b} z e => z (by rw [e]))
        · intro y
          exact List.pairwise_map.mpr ((List.pairwise_map.mp y).imp fun {a b} z e => z (by omega))
      have htk3 := ex_t ex3 htk2
      refine ⟨G3, _, Wk.refl, handK S, at_n (n := 0) rfl, fun p2 fp2 => ⟨S.map fun x => ((x.2 : Nat) : Int), by rw [← hnv]; exact lat_0, by omega, fun m m1 m2 => ⟨handK S, at_n (n := 1) rfl, ?_⟩⟩⟩
      rw [hnl] at m1 m2
      refine ite2' (c := !decide (V.int (m : Nat) = V.int ((handK S).length : Nat))) (fun z => ?_) (fun z => ?_)
      · rw [dec_nat, handK_len] at z
        have z : m ≠ S.length := by simpa using z
        have hno : ¬ (S.map (·.2)).Nodup := fun y => z (m2.mpr (hnd.mpr y))
        refine ⟨G3, _, Wk.refl, retW (Wk.drop0.trans (Wk.drop0.trans Wk.drop0)) ?_⟩
        have := q G3 (ex.trans ex3)
        rw [hS, if_neg hno] at this
        exact this
      · rw [dec_nat, handK_len] at z
        have z : m = S.length := by simpa using z
        have hyes : (S.map (·.2)).Nodup := hnd.mp (m2.mp z)
        refine ⟨G3, (p, .dK (handK S)) :: (p5, .lst acc) :: M, Wk.drop0, ?_⟩
        have hc : ((k.n : Int) - ((handK S).length : Nat) + 1 - 1).toNat = k.n - S.length := by rw [handK_len]; omega
        have hl2 := handK_len S
        refine ⟨G3, _, Wk.refl, _, _, tup_g htk3, rfl, handK S, at_n (n := 0) rfl, ⟨by omega, by omega, by omega, by omega⟩, fun i σ G4 M4 => ∃ y13, σ = [some (.ref a), some (.int j), some (.ref o), some (.ref t), some (.ref tk), some (.ref p5), y6, y7, none, none, none, some (.ref p), some (.int (fac i : Nat)), y13] ∧ G4 = G3 ∧ M4 = (p, .dK (handK S)) :: (p5, .lst acc) :: M, ⟨none, rfl, rfl, rfl⟩, fun _ _ _ _ _ _ => trivial, ?_, ?_⟩
        · rintro i σ G4 M4 hi ⟨y13, rfl, rfl, rfl⟩
          have hi : i < ((k.n : Int) - ((handK S).length : Nat) + 1 - 1).toNat := hi
          refine ⟨_, _, Wk.refl, mul_r (by omega) (by omega), _, _, Wk.refl, some (.int (1 + (i : Int))), ?_, rfl, rfl⟩
          have e2 : (fac i : Int) * (1 + (i : Int)) = ((fac (i + 1) : Nat) : Int) := by
            show _ = (((i + 1) * fac i : Nat) : Int)
            rw [Int.natCast_mul, Int.mul_comm]; congr 1; omega
          show [some (.ref a), some (.int j), some (.ref o), some (.ref t), some (.ref tk), some (.ref p5), y6, y7, none, none, none, some (.ref p), some (V.int ((fac i : Int) * (1 + (i : Int)))), _] = _
          rw [e2]
        · rintro σ G4 M4 ⟨y13, rfl, rfl, rfl⟩
          refine ⟨_, _, Wk.refl, retW (Wk.drop0.trans Wk.drop0) ?_⟩
          have := q _ (ex.trans ex3)
          rw [hS, if_pos hyes, ← hc] at this
          exact this
end
section
variable {K : PySem.W.Frag} {vs : List V} {G : Hp} {M : Mem} {R : KR} {Z : KX}
theorem eqvA_tch : ∀ a b : List Tch, PyData.eqvAll (a.map tchD) (b.map tchD) = decide (a = b)
  | [], [] => by rw [List.map_nil, PyData.eqvAll]; rfl
  | [], y :: b => by rw [List.map_nil, List.map_cons, PyData.eqvAll]; rfl; all_goals simp
  | x :: a, [] => by rw [List.map_nil, List.map_cons, PyData.eqvAll]; rfl; all_goals simp
  | x :: a, y :: b => by
    rw [List.map_cons, List.map_cons, PySem.W.eqv_all_cons, eqv_tch, eqvA_tch a b, Bool.eq_iff_iff, Bool.and_eq_true, decide_eq_true_iff, decide_eq_true_iff, decide_eq_true_iff]
    constructor
    · rintro ⟨rfl, rfl⟩; rfl
    · intro z; injection z with z1 z2; exact ⟨z1, z2⟩
theorem eqvL_tch (a b : List Tch) : PyData.eqv (.list (a.map tchD)) (.list (b.map tchD)) = decide (a = b) := by
  rw [PyData.eqv, eqvA_tch]
theorem dat_ts {q : Addr} {T : List Tch} (h : TsG K G q T) : DatAt K G M (.ref q) (.list (T.map tchD)) := by
  obtain ⟨ut, h1, h2⟩ := h
  exact dat_list (.inr (sql_of h1)) (dats_g h2)
theorem TsG.ex {G' : Hp} {q : Addr} {T : List Tch} (e : Ex G G') (h : TsG K G q T) : TsG K G' q T := by
  obtain ⟨ut, h1, h2⟩ := h; exact ⟨ut, e _ _ h1, ex_ds e _ h2⟩
theorem SgsG.ex {G' : Hp} {q : Addr} {T : List Sg} (e : Ex G G') (h : SgsG K G q T) : SgsG K G' q T := by
  obtain ⟨ut, h1, h2⟩ := h; exact ⟨ut, e _ _ h1, ex_ds e _ h2⟩
theorem KnsG.ex {G' : Hp} {q : Addr} {T : List Kn} (e : Ex G G') (h : KnsG K G q T) : KnsG K G' q T := by
  obtain ⟨ut, h1, h2, h3⟩ := h; exact ⟨ut, e _ _ h1, ex_ds e _ h2, h3⟩
theorem drsgx {G' : Hp} {q : Addr} {T : List Dr} (e : Ex G G') (h : DrsG K G q T) : DrsG K G' q T := by
  obtain ⟨us, h1, h2⟩ := h
  exact ⟨us, (lat_ex (M := []) e (.inr h1)).elim (fun z => nomatch z) id, h2.mono fun _ _ z => drvx e z⟩
theorem KnsG.at {q : Addr} {T : List Kn} (h : KnsG K G q T) (hl : T.length ≤ 1000) : KnAt K G M q T := by
  obtain ⟨ut, h1, h2, h3⟩ := h; exact ⟨ut, .inr (sql_of h1), h2, fun k hk => (h3 k hk).1, hl⟩
def SeenG (K : PySem.W.Frag) (ks : List Kn) (sgs : List Sg) (G : Hp) (v : V) (d : List Dr) : Prop := ∃ b, v = .ref b ∧ TsG K G b (sgs.map (tchOf ks d))
theorem SeenG.ex {ks : List Kn} {sgs : List Sg} {G' : Hp} {v : V} {d : List Dr} (e : Ex G G') (h : SeenG K ks sgs G v d) : SeenG K ks sgs G' v d := by
  obtain ⟨b, rfl, h⟩ := h; exact ⟨b, rfl, h.ex e⟩
theorem pf_law_right (h : S_law_right K vs G M R Z) : rd_law_right K (ends R Z) (sta 13 vs) G M := by
  obtain ⟨_, rfl, p, n, c, s, rfl, hn, hs, q⟩ := sp1_of h
  clear h
  have h100 : (10000 : Int) < 2 ^ 200 := by decide
  refine ⟨G, M, Wk.refl, p, 3, n, c, s, rfl, rfl, hn, hs, by decide, by decide, fun r c1 s1 r0 r1 hs1 => ⟨⟨by omega, by omega⟩, sz (by show ((1 : Int) + r).toNat ≤ _; omega), fun i acc G2 M2 => ∃ (ks : List Kn) (c s : Int), Ex G G2 ∧ M2 = M.set n (p, pool c s) ∧ PoolOk s ∧ ks.length = i ∧ DpAll K G2 acc (ks.map knD) ∧ ∀ k, k ∈ ks → KnOk k ∧ k.n ≤ 3, ⟨[], c1, s1, Ex.refl, rfl, hs1, rfl, .nil, fun _ z => nomatch z⟩, fun _ _ _ _ _ _ => trivial, ?_, ?_⟩⟩
  · rintro i acc G2 M2 D hi hac ⟨ks, c2, s2, ex, rfl, hs2, hl, ha, hk⟩ fD
    refine ⟨rfl, p, n + 1, c2, s2, rfl, set_n hn, hs2, fun t k c3 s3 G3 ex3 ht hkk hk3 hs3 => ?_⟩
    refine ⟨G3, M.set n (p, pool c3 s3), Wk.of_eq (by rw [List.set_cons_succ, List.set_set]), ks ++ [k], c3, s3, ex.trans ex3, rfl, hs3, by rw [List.length_append, hl]; rfl, ?_, fun x hx => ?_⟩
    · rw [List.map_append]
      exact dpall_app2 (ex_ds ex3 _ ha) (.cons (dp_kn ht) .nil)
    · rcases List.mem_append.mp hx with hx | hx
      · exact hk x hx
      · rw [List.mem_singleton.mp hx]; exact ⟨hkk, hk3⟩
  rintro acc G2 M2 w ⟨ks, c2, s2, ex, rfl, hs2, hkl, ha, hk⟩ hac fw
  have hkl : ks.length = ((1 : Int) + r).toNat := hkl
  have e1 := Ex.new (o := .lst acc) fw
  have hkns : KnsG K (upd G2 w (.lst acc)) w ks := ⟨acc, upd_same, ex_ds e1 _ ha, fun k hk' => ⟨(hk k hk').1, by have := (hk k hk').2; omega⟩⟩
  have ex := ex.trans e1
  refine ⟨_, _, Wk.frz0, ?_⟩
  revert hkns ex
  generalize upd G2 w (.lst acc) = Ga
  intro hkns ex
  refine ⟨p, 7, n, c2, s2, rfl, rfl, set_n hn, hs2, by decide, by decide, fun r3 c3 s3 r30 r31 hs3 => ?_⟩
  rw [List.set_set]
  refine ⟨⟨by omega, by omega⟩, sz (by show r3.toNat ≤ _; omega), fun i acc G2 M2 => ∃ (sgs : List Sg) (c s : Int), Ex Ga G2 ∧ M2 = M.set n (p, pool c s) ∧ PoolOk s ∧ sgs.length = i ∧ DpAll K G2 acc (sgs.map sgD) ∧ ∀ s, s ∈ sgs → SgOk ks s, ⟨[], c3, s3, Ex.refl, rfl, hs3, rfl, .nil, fun _ z => nomatch z⟩, fun _ _ _ _ _ _ => trivial, ?_, ?_⟩
  · rintro i acc G2 M2 D hi hac ⟨sgs, c4, s4, ex2, rfl, hs4, hl, ha, hsk⟩ fD
    refine ⟨rfl, p, n + 1, c4, s4, w, ks, rfl, set_n hn, hs4, rfl, hkns.ex ex2, by omega, by omega, fun t sg c5 s5 G3 ex3 ht hok hs5 => ?_⟩
    refine ⟨G3, M.set n (p, pool c5 s5), Wk.of_eq (by rw [List.set_cons_succ, List.set_set]), sgs ++ [sg], c5, s5, ex2.trans ex3, rfl, hs5, by rw [List.length_append, hl]; rfl, ?_, fun x hx => ?_⟩
    · rw [List.map_append]
      exact dpall_app2 (ex_ds ex3 _ ha) (.cons (dp_sg ht) .nil)
    · rcases List.mem_append.mp hx with hx | hx
      · exact hsk x hx
      · rw [List.mem_singleton.mp hx]; exact hok
  rintro accS G2 M2 o ⟨sgs, c4, s4, ex2, rfl, hs4, hsl, hsa, hsk⟩ _ fo
  have hsl : sgs.length = r3.toNat := hsl
  have e2 := Ex.new (o := .lst accS) fo
  have hsg : SgsG K (upd G2 o (.lst accS)) o sgs := ⟨accS, upd_same, ex_ds e2 _ hsa⟩
  have ex2 := ex2.trans e2
  refine ⟨_, _, Wk.frz0, ?_⟩
  revert hsg ex2
  generalize upd G2 o (.lst accS) = Gb
  intro hsg ex2
  have ex := ex.trans ex2
  have hkns := hkns.ex ex2
  refine ⟨w, ks, rfl, hkns, by omega, fun k hk' => (hk k hk').2, fun pr us G4 ex4 hus => ?_⟩
  have hus : A2 (fun v d => ∃ b, v = .ref b ∧ DrsG K G4 b d) us (lawAll ks) := hus
  have hrl := hus.len
  have rows512 : (lawAll ks).length ≤ 512 := Nat.le_trans (lawAll_512 ks fun k hk' => (hk k hk').2) (Nat.pow_le_pow_right (by decide) (show ks.length ≤ 3 by omega) : 8 ^ ks.length ≤ 8 ^ 3)
  have rpos : 0 < (lawAll ks).length := by
    rw [(lawAll_perm ks).length_eq]
    unfold allR
    rw [List.length_map, List.length_range]
    exact prK_pos ks
  refine ⟨G4, _, Wk.refl, us, lat_0, sz (by show us.length ≤ _; omega), fun i acc G5 M5 => Ex G4 G5 ∧ M5 = (pr, .lst us) :: M.set n (p, pool c4 s4) ∧ A2 (SeenG K ks sgs G5) acc ((lawAll ks).take i), ⟨Ex.refl, rfl, .nil⟩, ?_, ?_, ?_⟩
  · rintro i acc G5 M5 _ ⟨_, rfl, _⟩; exact lat_0
  · rintro i acc G5 M5 D hi _ ⟨ex5, rfl, ha⟩ fD
    have hi : i < us.length := hi
    obtain ⟨d, hd⟩ : ∃ d, (lawAll ks)[i]? = some d := ⟨_, List.getElem?_eq_getElem (by omega)⟩
    obtain ⟨v, hv, b, rfl, hb⟩ := hus.get hd
    refine asg_L hv ⟨rfl, w, o, b, ks, sgs, d, rfl, hkns.ex (ex4.trans ex5), rfl, hsg.ex (ex4.trans ex5), by omega, hsk, rfl, drsgx ex5 hb, (lawAll_mem ks d).mp (List.mem_of_getElem? hd), fun t G6 ex6 ht => ?_⟩
    refine ⟨G6, _, Wk.refl, ex5.trans ex6, rfl, ?_⟩
    rw [take_succ' hd]
    exact (ha.mono fun _ _ z => z.ex ex6).app (.cons ⟨t, rfl, ht⟩ .nil)
  rintro accN G5 M5 sn ⟨ex5, rfl, hN⟩ _ fN
  have hN : A2 (SeenG K ks sgs G5) accN ((lawAll ks).take us.length) := hN
  rw [hrl, List.take_length] at hN
  have hNl := hN.len
  have e5 := Ex.new (o := .lst accN) fN
  have hN := hN.mono fun _ _ z => SeenG.ex e5 z
  have hsn : (upd G5 sn (.lst accN)) sn = some (.lst accN) := upd_same
  have ex := (ex.trans ex4).trans (ex5.trans e5)
  have hkns := hkns.ex (ex4.trans (ex5.trans e5))
  have hsg := hsg.ex (ex4.trans (ex5.trans e5))
  refine ⟨_, _, Wk.frz0, ?_⟩
  revert hN hsn ex hkns hsg
  generalize upd G5 sn (.lst accN) = Gc
  intro hN hsn ex hkns hsg
  refine ⟨us, .inl lat_0, p, (us.length : Int), n + 1, c4, s4, rfl, rfl, set_n hn, hs4, by omega, by omega, fun r6 c6 s6 r60 r61 hs6 => ?_⟩
  obtain ⟨i1, rfl⟩ := Int.eq_ofNat_of_zero_le r60
  obtain ⟨d1, hd1⟩ : ∃ d, (lawAll ks)[i1]? = some d := ⟨_, List.getElem?_eq_getElem (by omega)⟩
  obtain ⟨v1, hv1, b1, rfl, hb1⟩ := hN.get hd1
  refine ⟨accN, _, .inl (.inr (sql_of hsn)), atI_nat hv1, us, .inl (lat_n (n := 0) rfl), p, (us.length : Int), n + 1, c6, s6, rfl, rfl, set_n (n := n) (set_n hn), hs6, by omega, by omega, fun r7 c7 s7 r70 r71 hs7 => ?_⟩
  obtain ⟨i2, rfl⟩ := Int.eq_ofNat_of_zero_le r70
  obtain ⟨d2, hd2⟩ : ∃ d, (lawAll ks)[i2]? = some d := ⟨_, List.getElem?_eq_getElem (by omega)⟩
  obtain ⟨v2, hv2, b2, rfl, hb2⟩ := hN.get hd2
  refine ⟨accN, _, .inl (.inr (sql_of hsn)), atI_nat hv2, p, n + 1, c7, s7, b1, b2, _, _, rfl, set_n (n := n) (set_n (n := n) (set_n hn)), hs7, rfl, hb1, rfl, hb2, by rw [List.length_map]; omega, by rw [List.length_map]; omega, fun qa T c8 s8 G6 ex6 hT hTl hs8 => ?_⟩
  have hN := hN.mono fun _ _ z => SeenG.ex ex6 z
  have hsn := ex6 _ _ hsn
  have ex := ex.trans ex6
  obtain ⟨uk, hk1, hk2, hk3⟩ := hkns.ex ex6
  obtain ⟨ug, hg1, hg2⟩ := hsg.ex ex6
  obtain ⟨ut, ht1, ht2⟩ := hT
  have hT : TsG K G6 qa T := ⟨ut, ht1, ht2⟩
  refine ⟨G6, [], Wk.nil', uk, .inl (.inr (sql_of hk1)), fun pa fa => ⟨ug, .inl (.inr (sql_of hg1)), fun pb fb => ⟨ut, .inl (.inr (sql_of ht1)), fun pc fc => ⟨sz3, fun ph fh => ?_⟩⟩⟩⟩
  obtain ⟨N, hNe⟩ : ∃ N : Mem, N = [(ph, .lst [.ref pa, .ref pb, .ref pc]), (pc, .lst ut), (pb, .lst ug), (pa, .lst uk)] := ⟨_, rfl⟩
  refine ⟨G6, N, by rw [hNe]; exact Wk.refl, accN, .inr (sql_of hsn), sz (by show accN.length ≤ _; omega), fun i acc G7 M7 => G7 = G6 ∧ M7 = N ∧ acc.length = (((lawAll ks).take i).filter fun d => decide (sgs.map (tchOf ks d) = T)).length, ⟨rfl, rfl, rfl⟩, ?_, ?_, ?_⟩
  · rintro i acc G7 M7 _ ⟨rfl, rfl, _⟩; exact .inr (sql_of hsn)
  · rintro i acc G7 M7 D hi _ ⟨hG, rfl, hl⟩ fD
    subst hG
    have hi : i < accN.length := hi
    obtain ⟨d, hd⟩ : ∃ d, (lawAll ks)[i]? = some d := ⟨_, List.getElem?_eq_getElem (by omega)⟩
    obtain ⟨v, hv, b, rfl, hb⟩ := hN.get hd
    refine asg_L hv ⟨rfl, _, _, dat_ts hb, dat_ts hT, (shp_tchs _).shaped (by decide), (shp_tchs _).shaped (by decide), ?_⟩
    show if PyData.eqv (.list ((sgs.map (tchOf ks d)).map tchD)) (.list (T.map tchD)) = true then _ else _
    rw [eqvL_tch]
    refine ite2' (fun z => ?_) (fun z => ?_)
    · refine ⟨G7, _, Wk.refl, rfl, rfl, ?_⟩
      rw [take_succ' hd, List.filter_append, List.length_append, List.length_append, hl, List.filter_cons_of_pos (p := fun d => decide (sgs.map (tchOf ks d) = T)) z]; rfl
    · refine ⟨G7, _, Wk.refl, rfl, rfl, ?_⟩
      rw [take_succ' hd, List.filter_append, List.length_append, hl, List.filter_cons_of_neg (p := fun d => decide (sgs.map (tchOf ks d) = T)) (by rw [z]; decide)]; rfl
  rintro accD G7 M7 pD ⟨hG, rfl, hl⟩ _ fD
  subst hG
  have hl : accD.length = (((lawAll ks).take accN.length).filter fun d => decide (sgs.map (tchOf ks d) = T)).length := hl
  rw [hNl, List.take_length, ← law_count hsk] at hl
  refine ⟨accD, .inl lat_0, ?_⟩
  rw [hl]
  have hT : TsG K G7 qa T := ⟨ut, ht1, ht2⟩
  have hN0 : M7[0]? = some (ph, .lst [.ref pa, .ref pb, .ref pc]) := by rw [hNe]; rfl
  have hN1 : M7[1]? = some (pc, .lst ut) := by rw [hNe]; rfl
  have hN2 : M7[2]? = some (pb, .lst ug) := by rw [hNe]; rfl
  have hN3 : M7[3]? = some (pa, .lst uk) := by rw [hNe]; rfl
  clear hNe
  refine ⟨G7, M7, Wk.drop0, ⟨by decide, by decide⟩, fun i σ G8 M8 => ∃ (y11 y12 : Option V), σ = [some (.ref p), some (.ref w), none, some (.ref o), some (.ref pr), some (.ref sn), none, some (.ref qa), some (.ref ph), some (.int (comesF ks sgs T : Nat)), none, y11, y12] ∧ Ex G7 G8 ∧ M8 = M7, ⟨none, none, rfl, Ex.refl, rfl⟩, fun _ _ _ _ _ _ => trivial, ?_, ?_⟩
  · rintro i σ G8 M8 hi ⟨y11, y12, rfl, ex8, rfl⟩
    refine asg_R (v := (i : Int)) (by omega) ?_
    refine ⟨G8, _, Wk.refl, _, _, .inl (lat_n hN0), atI_nat (j := 0) rfl, _, _, .inl (lat_n hN0), atI_nat (j := 1) rfl, _, _, .inl (lat_n hN0), atI_nat (j := 2) rfl, pa, pb, pc, ug, ut, ks, sgs, T, rfl, ⟨uk, lat_n hN3, ex_ds ex8 _ hk2, fun k hk' => (hk3 k hk').1, by omega⟩, rfl, lat_n hN2, ex_ds ex8 _ hg2, rfl, lat_n hN1, ex_ds ex8 _ ht2, by omega, by omega, hsk, fun G9 ex9 => ?_⟩
    have hty : ∀ H, Hv G9 M8 H → TyX K H (.int (comesF ks sgs T : Nat)) (.type PT.int.name) := ty_int
    refine ⟨G9, _, Wk.refl, .type PT.int.name, .type "int", _, .ty "int", hty, kit_pt .int .int, ?_⟩
    refine ⟨.type PT.int.name, .type "bool", _, .ty "bool", hty, kit_pt .int .bool, ?_⟩
    refine ite2' (c := !decide (V.int (comesF ks sgs T : Nat) = V.int (comesF ks sgs T : Nat))) (fun z => (neq_self z).elim) (fun _ => ?_)
    exact ⟨G9, _, Wk.refl, _, _, rfl, ex8.trans ex9, rfl⟩
  · rintro σ G8 M8 ⟨y11, y12, rfl, ex8, rfl⟩
    refine ⟨G8, _, Wk.refl, sz3, fun pe fe => ?_⟩
    have shp : Shp 3 (.list [.list (ks.map knD), .list (sgs.map sgD), .list (T.map tchD)]) := .list fun d hd => by
      simp only [List.mem_cons, List.not_mem_nil, or_false] at hd
      rcases hd with rfl | rfl | rfl
      · exact shp_kns (n := 0) ks
      · exact shp_sgs sgs
      · exact shp_tchs T
    refine eq_ref (n := 3) (dat_list (lat_cons (lat_n hN0)) (dats_cons (dat_list (lat_cons (lat_n hN3)) (dats_g (ex_ds ex8 _ hk2))) (dats_cons (dat_list (lat_cons (lat_n hN2)) (dats_g (ex_ds ex8 _ hg2))) (dats_cons (dat_list (lat_cons (lat_n hN1)) (dats_g (ex_ds ex8 _ ht2))) dats_nil)))) (dat_list lat_0 (dats_cons (dat_list (.inr (sql_of (ex8 _ _ hk1))) (dats_g (ex_ds ex8 _ hk2))) (dats_cons (dat_list (.inr (sql_of (ex8 _ _ hg1))) (dats_g (ex_ds ex8 _ hg2))) (dats_cons (dat_list (.inr (sql_of (ex8 _ _ ht1))) (dats_g (ex_ds ex8 _ ht2))) dats_nil)))) shp (by decide) (ret0 (q _ _ (ex.trans ex8)))
end
section
variable {K : PySem.W.Frag} {vs : List V} {G : Hp} {M : Mem} {R : KR} {Z : KX}
theorem fac12 : fac 12 = 479001600 := by decide
theorem fitF_le {ks : List Kn} (h : ∀ k, k ∈ ks → KnOk k ∧ k.n ≤ 12) {j : Nat} (hj : j < ks.length) (ps : List (Sg × Tch)) : fitF ks j ps ≤ 479001600 := by
  unfold fitF
  split
  · obtain ⟨k, hk⟩ : ∃ k, ks[j]? = some k := ⟨_, List.getElem?_eq_getElem hj⟩
    have hg : ks.getD j ⟨true, 0⟩ = k := by rw [List.getD_eq_getElem?_getD, hk]; rfl
    rw [hg]
    obtain ⟨h1, h2⟩ := h k (List.mem_of_getElem? hk)
    unfold cntK
    split
    · rename_i e
      have h6 := h1.2.1 e
      have a1 : leavesLeft k.n (rowsFor j ps) ≤ 2 ^ k.n := by
        unfold leavesLeft
        exact Nat.le_trans (List.length_filter_le _ _) (by rw [List.length_range]; exact Nat.le_refl _)
      have a2 : 2 ^ k.n ≤ 2 ^ 6 := Nat.pow_le_pow_right (by decide) h6
      omega
    · have a1 : ordersLeft k.n (rowsFor j ps) ≤ fac k.n := ordGo_le _ _ _
      have a2 := fac_mono h2
      rw [fac12] at a2
      omega
  · exact Nat.zero_le _
theorem room_ok (b : Bool) (s r : Nat) (t : Tch) : decide ((⟨b, s, r⟩ : Tch) = t) = okP (.room b s r, t) := by
  obtain ⟨a, c, d⟩ := t
  show _ = (decide (a = b) && decide (c = s) && decide (d = r))
  rw [Bool.eq_iff_iff, Bool.and_eq_true, Bool.and_eq_true, decide_eq_true_iff, decide_eq_true_iff, decide_eq_true_iff, decide_eq_true_iff]
  constructor
  · intro z; injection z with z1 z2 z3; exact ⟨⟨z1.symm, z2.symm⟩, z3.symm⟩
  · rintro ⟨⟨rfl, rfl⟩, rfl⟩; rfl
theorem rooms_snoc (l : List (Sg × Tch)) (x : Sg × Tch) : roomsOk (l ++ [x]) = (roomsOk l && if drI x.1 = none then okP x else true) := by
  unfold roomsOk
  rw [List.filter_append, List.all_append]
  congr 1
  by_cases z : drI x.1 = none
  · rw [if_pos z, List.filter_cons_of_pos (by rw [decide_eq_true z]), List.filter_nil, List.all_cons, List.all_nil, Bool.and_true]
  · rw [if_neg z, List.filter_cons_of_neg (by rw [decide_eq_false z]; exact Bool.false_ne_true), List.filter_nil, List.all_nil]
def dueR (ts : List Tch) (sgs : List Sg) (ps : List (Sg × Tch)) : Nat := if ts.length = sgs.length ∧ roomsOk ps = true then 1 else 0
theorem dueR_snoc (T : List Tch) (sgs : List Sg) (l : List (Sg × Tch)) (x : Sg × Tch) : dueR T sgs (l ++ [x]) = if drI x.1 = none ∧ okP x = false then 0 else dueR T sgs l := by
  unfold dueR
  rw [rooms_snoc]
  by_cases z : drI x.1 = none
  · rw [if_pos z]
    cases ok : okP x with
    | false => rw [Bool.and_false, if_neg (fun u => Bool.false_ne_true u.2), if_pos ⟨z, rfl⟩]
    | true => rw [Bool.and_true, if_neg (c := drI x.1 = none ∧ true = false) (fun u => Bool.false_ne_true u.2.symm)]
  · rw [if_neg z, Bool.and_true, if_neg (c := drI x.1 = none ∧ okP x = false) (fun u => z u.1)]
theorem pf_law_great (h : S_law_great K vs G M R Z) : rd_law_great K (ends R Z) (sta 13 vs) G M := by
  obtain ⟨_, rfl, p, n, c, s, rfl, hn, hs, q⟩ := sp1_of h
  clear h
  have h100 : (10000 : Int) < 2 ^ 200 := by decide
  refine ⟨G, M, Wk.refl, p, 3, n, c, s, rfl, rfl, hn, hs, by decide, by decide, fun r c1 s1 r0 r1 hs1 => ⟨⟨by omega, by omega⟩, sz (by show ((1 : Int) + r).toNat ≤ _; omega), fun i acc G2 M2 => ∃ (ks : List Kn) (c s : Int), Ex G G2 ∧ M2 = M.set n (p, pool c s) ∧ PoolOk s ∧ ks.length = i ∧ DpAll K G2 acc (ks.map knD) ∧ ∀ k, k ∈ ks → KnOk k ∧ k.n ≤ 12, ⟨[], c1, s1, Ex.refl, rfl, hs1, rfl, .nil, fun _ z => nomatch z⟩, fun _ _ _ _ _ _ => trivial, ?_, ?_⟩⟩
  · rintro i acc G2 M2 D hi hac ⟨ks, c2, s2, ex, rfl, hs2, hl, ha, hk⟩ fD
    refine ⟨rfl, p, n + 1, c2, s2, rfl, set_n hn, hs2, fun t k c3 s3 G3 ex3 ht hkk hk3 hs3 => ?_⟩
    refine ⟨G3, M.set n (p, pool c3 s3), Wk.of_eq (by rw [List.set_cons_succ, List.set_set]), ks ++ [k], c3, s3, ex.trans ex3, rfl, hs3, by rw [List.length_append, hl]; rfl, ?_, fun x hx => ?_⟩
    · rw [List.map_append]
      exact dpall_app2 (ex_ds ex3 _ ha) (.cons (dp_kn ht) .nil)
    · rcases List.mem_append.mp hx with hx | hx
      · exact hk x hx
      · rw [List.mem_singleton.mp hx]; exact ⟨hkk, hk3⟩
  rintro acc G2 M2 w ⟨ks, c2, s2, ex, rfl, hs2, hkl, ha, hk⟩ hac fw
  have hkl : ks.length = ((1 : Int) + r).toNat := hkl
  have e1 := Ex.new (o := .lst acc) fw
  have hkns : KnsG K (upd G2 w (.lst acc)) w ks := ⟨acc, upd_same, ex_ds e1 _ ha, hk⟩
  have ex := ex.trans e1
  refine ⟨_, _, Wk.frz0, ?_⟩
  revert hkns ex
  generalize upd G2 w (.lst acc) = Ga
  intro hkns ex
  refine ⟨p, 9, n, c2, s2, rfl, rfl, set_n hn, hs2, by decide, by decide, fun r3 c3 s3 r30 r31 hs3 => ?_⟩
  rw [List.set_set]
  refine ⟨⟨by omega, by omega⟩, sz (by show r3.toNat ≤ _; omega), fun i acc G2 M2 => ∃ (sgs : List Sg) (c s : Int), Ex Ga G2 ∧ M2 = M.set n (p, pool c s) ∧ PoolOk s ∧ sgs.length = i ∧ DpAll K G2 acc (sgs.map sgD) ∧ ∀ s, s ∈ sgs → SgOk ks s, ⟨[], c3, s3, Ex.refl, rfl, hs3, rfl, .nil, fun _ z => nomatch z⟩, fun _ _ _ _ _ _ => trivial, ?_, ?_⟩
  · rintro i acc G2 M2 D hi hac ⟨sgs, c4, s4, ex2, rfl, hs4, hl, ha, hsk⟩ fD
    refine ⟨rfl, p, n + 1, c4, s4, w, ks, rfl, set_n hn, hs4, rfl, hkns.ex ex2, by omega, by omega, fun t sg c5 s5 G3 ex3 ht hok hs5 => ?_⟩
    refine ⟨G3, M.set n (p, pool c5 s5), Wk.of_eq (by rw [List.set_cons_succ, List.set_set]), sgs ++ [sg], c5, s5, ex2.trans ex3, rfl, hs5, by rw [List.length_append, hl]; rfl, ?_, fun x hx => ?_⟩
    · rw [List.map_append]
      exact dpall_app2 (ex_ds ex3 _ ha) (.cons (dp_sg ht) .nil)
    · rcases List.mem_append.mp hx with hx | hx
      · exact hsk x hx
      · rw [List.mem_singleton.mp hx]; exact hok
  rintro accS G2 M2 o ⟨sgs, c4, s4, ex2, rfl, hs4, hsl, hsa, hsk⟩ _ fo
  have hsl : sgs.length = r3.toNat := hsl
  have e2 := Ex.new (o := .lst accS) fo
  have hsg : SgsG K (upd G2 o (.lst accS)) o sgs := ⟨accS, upd_same, ex_ds e2 _ hsa⟩
  have ex2 := ex2.trans e2
  refine ⟨_, _, Wk.frz0, ?_⟩
  revert hsg ex2
  generalize upd G2 o (.lst accS) = Gb
  intro hsg ex2
  have ex := ex.trans ex2
  have hkns := hkns.ex ex2
  have hkns' := hkns
  obtain ⟨uk, hk1, hk2, hk3⟩ := hkns'
  have hukl : uk.length = ks.length := by rw [dpall_len hk2, List.length_map]
  refine ⟨⟨by decide, by decide⟩, sz (by show (2 : Int).toNat ≤ _; decide), fun i acc G2 M2 => ∃ (L : List (List Dr)) (c s : Int), Ex Gb G2 ∧ M2 = M.set n (p, pool c s) ∧ PoolOk s ∧ L.length = i ∧ A2 (fun v d => ∃ b, v = .ref b ∧ DrsG K G2 b d ∧ A2 DrOk ks d) acc L, ⟨[], c4, s4, Ex.refl, rfl, hs4, rfl, .nil⟩, fun _ _ _ _ _ _ => trivial, ?_, ?_⟩
  · rintro i acc G2 M2 D hi _ ⟨L, c5, s5, ex5, rfl, hs5, hLl, hL⟩ fD
    refine ⟨rfl, uk, .inr (sql_of (ex5 _ _ hk1)), sz (by show uk.length ≤ _; omega), fun j acc2 G3 M3 => ∃ (ds : List Dr) (c s : Int), Ex G2 G3 ∧ M3 = (D, .lst acc) :: M.set n (p, pool c s) ∧ PoolOk s ∧ A2 (DrV K G3 []) acc2 ds ∧ A2 DrOk (ks.take j) ds, ⟨[], c5, s5, Ex.refl, rfl, hs5, .nil, .nil⟩, ?_, ?_, ?_⟩
    · rintro j acc2 G3 M3 _ ⟨ds, c6, s6, ex6, rfl, _⟩; exact .inr (sql_of (ex6 _ _ (ex5 _ _ hk1)))
    · rintro j acc2 G3 M3 D2 hj _ ⟨ds, c6, s6, ex6, rfl, hs6, hds, hdo⟩ fD2
      have hj : j < uk.length := hj
      obtain ⟨k, hkj⟩ : ∃ k, ks[j]? = some k := ⟨_, List.getElem?_eq_getElem (by omega)⟩
      obtain ⟨kv, hkv, hkvd⟩ := dp_all (f := knD) hk2 hkj
      obtain ⟨g1, g2⟩ := hk k (List.mem_of_getElem? hkj)
      refine asg_L hkv ⟨rfl, p, n + 2, c6, s6, k, rfl, set_n hn, hs6, ex_d (ex5.trans ex6) _ hkvd, g1, g2, fun v d c7 s7 G4 ex7 hv hok hs7 => ?_⟩
      refine ⟨G4, (D, .lst acc) :: M.set n (p, pool c7 s7), Wk.of_eq (by rw [List.set_cons_succ, List.set_cons_succ, List.set_set]), ds ++ [d], c7, s7, ex6.trans ex7, rfl, hs7, (hds.mono fun _ _ z => drvx ex7 z).app (.cons hv .nil), ?_⟩
      rw [take_succ' hkj]
      exact hdo.app (.cons hok .nil)
    · rintro acc2 G3 M3 pr ⟨ds, c6, s6, ex6, rfl, hs6, hds, hdo⟩ _ fpr
      have hdo : A2 DrOk (ks.take uk.length) ds := hdo
      rw [hukl, List.take_length] at hdo
      have e7 := Ex.new (o := .lst acc2) fpr
      refine ⟨_, M.set n (p, pool c6 s6), Wk.frz0, L ++ [ds], c6, s6, ex5.trans (ex6.trans e7), rfl, hs6, by rw [List.length_append, hLl]; rfl, ?_⟩
      refine (hL.mono fun v d z => ?_).app (.cons ⟨pr, rfl, ⟨acc2, sql_new, hds.mono fun _ _ z => drvx e7 z⟩, hdo⟩ .nil)
      obtain ⟨b, rfl, z1, z2⟩ := z
      exact ⟨b, rfl, drsgx (ex6.trans e7) z1, z2⟩
  rintro accR G5 M5 rw' ⟨L, c5, s5, ex5, rfl, hs5, hLl, hL⟩ _ fR
  have hLl : L.length = 2 := hLl
  have e5 := Ex.new (o := .lst accR) fR
  obtain ⟨d1, hd1⟩ : ∃ d, L[0]? = some d := ⟨_, List.getElem?_eq_getElem (by omega)⟩
  obtain ⟨d2, hd2⟩ : ∃ d, L[1]? = some d := ⟨_, List.getElem?_eq_getElem (by omega)⟩
  obtain ⟨v1, hv1, b1, rfl, hb1, ho1⟩ := hL.get hd1
  obtain ⟨v2, hv2, b2, rfl, hb2, ho2⟩ := hL.get hd2
  have hR : (upd G5 rw' (.lst accR)) rw' = some (.lst accR) := upd_same
  have ex := ex.trans (ex5.trans e5)
  have hkns := hkns.ex (ex5.trans e5)
  have hsg := hsg.ex (ex5.trans e5)
  have hb1 := drsgx e5 hb1
  have hb2 := drsgx e5 hb2
  refine ⟨_, _, Wk.frz0, ?_⟩
  revert hR ex hkns hsg hb1 hb2
  generalize upd G5 rw' (.lst accR) = Gc
  intro hR ex hkns hsg hb1 hb2
  refine ⟨accR, _, .inl (.inr (sql_of hR)), atI_nat hv1, w, o, b1, ks, sgs, d1, rfl, hkns, rfl, hsg, by omega, hsk, rfl, hb1, ho1, fun t1 G6 ex6 ht1 => ?_⟩
  refine ⟨accR, _, .inl (.inr (sql_of (ex6 _ _ hR))), atI_nat hv2, w, o, b2, ks, sgs, d2, rfl, hkns.ex ex6, rfl, hsg.ex ex6, by omega, hsk, rfl, drsgx ex6 hb2, ho2, fun t2 G7 ex7 ht2 => ?_⟩
  refine ⟨p, n, c5, s5, t1, t2, _, _, rfl, set_n hn, hs5, rfl, ht1.ex ex7, rfl, ht2, by rw [List.length_map]; omega, by rw [List.length_map]; omega, fun qa T c8 s8 G8 ex8 hT hTl hs8 => ?_⟩
  have ex678 := ex6.trans (ex7.trans ex8)
  have ex := ex.trans ex678
  have hkns := hkns.ex ex678
  have hsg := hsg.ex ex678
  have hT' := hT
  obtain ⟨ut, ht1', ht2'⟩ := hT'
  have hsg' := hsg
  obtain ⟨ug, hg1, hg2⟩ := hsg'
  have hutl : ut.length = T.length := by rw [dpall_len ht2', List.length_map]
  have hugl : ug.length = sgs.length := by rw [dpall_len hg2, List.length_map]
  obtain ⟨ps, hps⟩ : ∃ ps, ps = sgs.zip T := ⟨_, rfl⟩
  have hpl : ps.length = min sgs.length T.length := by rw [hps, List.length_zip]
  have hd0 : (if decide (V.int (ut.length : Nat) = V.int (ug.length : Nat)) = true then (1 : Int) else 0) = ((dueR T sgs [] : Nat) : Int) := by
    rw [dec_nat, hutl, hugl]
    unfold dueR
    by_cases z : T.length = sgs.length
    · rw [if_pos (decide_eq_true z), if_pos ⟨z, rfl⟩]; rfl
    · rw [if_neg (by rw [decide_eq_false z]; decide), if_neg (fun u => z u.1)]; rfl
  refine ⟨G8, [], Wk.nil', ut, .inl (.inr (sql_of ht1')), ug, .inl (.inr (sql_of hg1)), ?_⟩
  refine ⟨G8, [], Wk.refl, ug, ut, .inr (sql_of hg1), .inr (sql_of ht1'), fun i σ G9 M9 => ∃ (y9 y10 : Option V), σ = [some (.ref p), some (.ref w), none, some (.ref o), some (.ref rw'), none, none, some (.ref qa), some (.int (dueR T sgs (ps.take i) : Nat)), y9, y10, none, none] ∧ Ex G8 G9 ∧ M9 = [], ⟨none, none, ?_, Ex.refl, rfl⟩, ?_, ?_, ?_⟩
  · show [some (.ref p), some (.ref w), none, some (.ref o), some (.ref rw'), none, none, some (.ref qa), some (V.int (if decide (V.int (ut.length : Nat) = V.int (ug.length : Nat)) = true then (1 : Int) else 0)), none, none, none, none] = _
    rw [hd0]; rfl
  · rintro i σ G9 M9 _ ⟨y9, y10, rfl, ex9, rfl⟩
    exact ⟨.inr (sql_of (ex9 _ _ hg1)), .inr (sql_of (ex9 _ _ ht1'))⟩
  · rintro i σ G9 M9 hi ⟨y9, y10, rfl, ex9, rfl⟩
    have hi : i < min ug.length ut.length := hi
    obtain ⟨s, hs1⟩ : ∃ s, sgs[i]? = some s := ⟨_, List.getElem?_eq_getElem (by omega)⟩
    obtain ⟨tc, htc⟩ : ∃ tc, T[i]? = some tc := ⟨_, List.getElem?_eq_getElem (by omega)⟩
    have hpi : ps[i]? = some (s, tc) := by rw [hps]; exact List.getElem?_zip_eq_some.mpr ⟨hs1, htc⟩
    obtain ⟨v1, hv1, hvd1⟩ := dpall_get (d := sgD s) hg2 (by rw [List.getElem?_map, hs1]; rfl)
    obtain ⟨v2, hv2, hvd2⟩ := dpall_get (d := tchD tc) ht2' (by rw [List.getElem?_map, htc]; rfl)
    obtain ⟨Ts, rfl, hTs⟩ := sg_inv hvd1
    obtain ⟨Tt, rfl, hTt⟩ := tch_inv hvd2
    have hTs := ex_t ex9 hTs
    have hTt := ex_t ex9 hTt
    have hstep : dueR T sgs (ps.take (i + 1)) = if drI s = none ∧ okP (s, tc) = false then 0 else dueR T sgs (ps.take i) := by rw [take_succ' hpi, dueR_snoc]
    refine asg_Z hv1 hv2 ?_
    cases s with
    | room b0 sh r =>
      refine ⟨G9, _, Wk.refl, _, _, tup_g hTs, rfl, _, hTs, fun z => ?_, fun _ p1 f1 => ?_⟩
      · have : ¬ (HT.sIx 4 0 (some 1) = 0 ∧ HT.sIx 4 4 none = 4) := by decide
        exact absurd z this
      have e1 := Ex.new (o := .tup (cutV (Sg.room b0 sh r).vs (some 1) none)) f1
      have hp1 : SqT K (upd G9 p1 (.tup (cutV (Sg.room b0 sh r).vs (some 1) none))) p1 [.str (Tch.txt ⟨b0, sh, r⟩), .int (sh : Nat), .int (r : Nat)] := sqt_new
      refine ⟨tchD ⟨b0, sh, r⟩, tchD tc, fun H hv => ex_d hv.exx _ (dp_tch (t := ⟨b0, sh, r⟩) hp1), fun H hv => ex_d hv.exx _ (dp_tch (ex_t e1 hTt)), (shp_tch _).shaped (by decide), (shp_tch _).shaped (by decide), ?_⟩
      show if (!PyData.eqv (tchD ⟨b0, sh, r⟩) (tchD tc)) = true then _ else _
      rw [eqv_tch, room_ok]
      cases ok : okP (Sg.room b0 sh r, tc) with
      | false =>
        rw [ok, if_pos ⟨rfl, rfl⟩] at hstep
        refine ⟨_, _, Wk.refl, _, _, Wk.refl, some (.ref Ts), some (.ref Tt), ?_, ex9.trans e1, rfl⟩
        rw [hstep]; rfl
      | true =>
        rw [ok, if_neg (fun u => Bool.false_ne_true u.2.symm)] at hstep
        refine ⟨_, _, Wk.refl, some (.ref Ts), some (.ref Tt), ?_, ex9.trans e1, rfl⟩
        rw [hstep]; rfl
    | item b0 sh d it =>
      rw [if_neg (fun u => nomatch u.1)] at hstep
      refine ⟨G9, _, Wk.refl, _, _, tup_g hTs, rfl, ?_⟩
      refine ⟨_, _, Wk.refl, some (.ref Ts), some (.ref Tt), ?_, ex9, rfl⟩
      rw [hstep]; rfl
    | way b0 sh d p e =>
      rw [if_neg (fun u => nomatch u.1)] at hstep
      refine ⟨G9, _, Wk.refl, _, _, tup_g hTs, rfl, ?_⟩
      refine ⟨_, _, Wk.refl, some (.ref Ts), some (.ref Tt), ?_, ex9, rfl⟩
      rw [hstep]; rfl
  rintro σ G9 M9 ⟨y9, y10, rfl, ex9, rfl⟩
  obtain ⟨due, hdue⟩ : ∃ due, due = dueR T sgs (ps.take (srcZ K o qa ug ut).n) := ⟨_, rfl⟩
  have hdue2 : due = dueR T sgs ps := by
    rw [hdue]
    show dueR T sgs (ps.take (min ug.length ut.length)) = _
    rw [show min ug.length ut.length = ps.length by omega, List.take_length]
  rw [← hdue, hdue2]
  clear hdue hdue2
  have hkns' := hkns
  obtain ⟨uk2, g1, g2, g3⟩ := hkns'
  have huk2 : uk2.length = ks.length := by rw [dpall_len g2, List.length_map]
  refine ⟨G9, [], Wk.refl, uk2, .inl (.inr (sql_of (ex9 _ _ g1))), ⟨by omega, by omega⟩, fun i σ G10 M10 => ∃ (y9 y10 y11 : Option V), σ = [some (.ref p), some (.ref w), none, some (.ref o), some (.ref rw'), none, none, some (.ref qa), some (.int (dueR T sgs ps * fitP ks ps i : Nat)), y9, y10, y11, none] ∧ Ex G8 G10 ∧ M10 = [], ⟨y9, y10, none, ?_, ex9, rfl⟩, fun _ _ _ _ _ _ => trivial, ?_, ?_⟩
  · rw [show fitP ks ps 0 = 1 from rfl, Nat.mul_one]
  · rintro i σ G10 M10 hi ⟨y9, y10, y11, rfl, ex10, rfl⟩
    have hi : i < ((uk2.length : Nat) : Int).toNat := hi
    have hfl := fitF_le hk (show i < ks.length by omega) ps
    refine asg_R (v := ((i : Nat) : Int)) (by omega) ?_
    refine ⟨G10, [], Wk.refl, w, o, qa, ks, i, sgs, T, rfl, hkns.ex ex10, rfl, by omega, by omega, rfl, hsg.ex ex10, by omega, hsk, rfl, hT.ex ex10, hTl, fun G11 ex11 => ?_⟩
    rw [← hps]
    refine ⟨mul_r (by omega) (by omega), _, _, Wk.refl, y9, y10, some (.int (i : Nat)), ?_, ex10.trans ex11, rfl⟩
    have e2 : ((dueR T sgs ps * fitP ks ps i : Nat) : Int) * (fitF ks i ps : Nat) = ((dueR T sgs ps * fitP ks ps (i + 1) : Nat) : Int) := by
      show _ = ((dueR T sgs ps * (fitP ks ps i * fitF ks i ps) : Nat) : Int)
      rw [← Nat.mul_assoc]; exact (Int.natCast_mul _ _).symm
    show [some (.ref p), some (.ref w), none, some (.ref o), some (.ref rw'), none, none, some (.ref qa), some (V.int (((dueR T sgs ps * fitP ks ps i : Nat) : Int) * (fitF ks i ps : Nat))), _, _, _, _] = _
    rw [e2]
  · rintro σ G10 M10 ⟨y9, y10, y11, rfl, ex10, rfl⟩
    have hfin : dueR T sgs ps * fitP ks ps ((uk2.length : Nat) : Int).toNat = comesF ks sgs T := by
      rw [Int.toNat_natCast, huk2, ← fit_eq hsk, ← hps]
      unfold dueR
      by_cases z : T.length = sgs.length ∧ roomsOk ps = true
      · rw [if_pos z, if_pos z, Nat.one_mul]
      · rw [if_neg z, if_neg z, Nat.zero_mul]
    refine ⟨G10, [], Wk.refl, w, o, qa, ug, ut, ks, sgs, T, rfl, (hkns.ex ex10).at (by omega), rfl, .inr (sql_of (ex10 _ _ hg1)), ex_ds ex10 _ hg2, rfl, .inr (sql_of (ex10 _ _ ht1')), ex_ds ex10 _ ht2', by omega, by omega, hsk, fun G11 ex11 => ?_⟩
    have hty : ∀ H, Hv G11 [] H → TyX K H (.int (comesF ks sgs T : Nat)) (.type PT.int.name) := ty_int
    refine ⟨G11, [], Wk.refl, .type PT.int.name, .type "int", _, .ty "int", hty, kit_pt .int .int, ?_⟩
    refine ⟨.type PT.int.name, .type "bool", _, .ty "bool", hty, kit_pt .int .bool, ?_⟩
    have key : wkR R (.bl (decide (V.int (comesF ks sgs T : Nat) = V.int (dueR T sgs ps * fitP ks ps ((uk2.length : Nat) : Int).toNat : Nat)))) G11 [] := by
      rw [hfin, decide_eq_true rfl]
      exact ret0 (q _ _ (ex.trans (ex10.trans ex11)))
    exact key
theorem pf_law (h : S_law K vs G M R Z) : rd_law K (ends R Z) (sta 2 vs) G M := by
  obtain ⟨_, rfl, a, ns, rfl, hS, hl, q⟩ := sp1_of h
  refine ⟨G, M, Wk.refl, _, lst_g hS, ⟨by omega, by omega⟩, fun i σ G' M' => ∃ (y1 : Option V), σ = [some (.ref a), y1] ∧ Ex G G', ⟨none, rfl, Ex.refl⟩, fun _ _ _ _ _ _ => trivial, ?_, ?_⟩
  · rintro i σ G' M' hi ⟨y1, rfl, ex⟩
    have hi : i < (min (((ns.map V.int).length : Nat) : Int) 30 + 1).toNat := hi
    refine asg_R (v := (i : Int)) (by omega) ⟨G', [], Wk.nil', a, ns, i, rfl, rfl, ex_l ex hS, by omega, by omega, hl, fun p c s fp hs => ⟨p, 0, c, s, rfl, rfl, hs, fun G2 M2 ex2 => ?_⟩⟩
    refine ⟨a, ns, i, rfl, rfl, ex_l (ex.trans ex2) hS, by omega, by omega, hl, fun p2 c2 s2 fp2 hs2 => ⟨p2, 0, c2, s2, rfl, rfl, hs2, fun G3 M3 ex3 => ?_⟩⟩
    exact ⟨_, _, Wk.refl, _, rfl, (ex.trans ex2).trans ex3⟩
  · rintro σ G' M' ⟨y1, rfl, ex⟩
    exact ⟨G', _, Wk.refl, ret0 (q G' _)⟩
end
def topS (i : Nat) : Stmt := PySem.Challenge.pw_blindtouch_k70_comes_of_few.main.body.getD i (.Pass ⟨0, 0, 0, 0⟩)
structure Bs (mg : Str → Option Value) : Prop where
  all : mg "all" = none
  bool : mg "bool" = none
  int : mg "int" = none
  isinstance : mg "isinstance" = none
  len : mg "len" = none
  list : mg "list" = none
  min : mg "min" = none
  range : mg "range" = none
  set : mg "set" = none
  zip : mg "zip" = none
structure Cs (K : PySem.W.Frag) (mg : Str → Option Value) : Prop where
  z : True
abbrev s_law_pool : Stmt := topS 12
abbrev N_law_pool : List Str := ["_law_script", "_law_k", "_law_cell", "_law_seed"]
theorem sc_law_pool : FnScope N_law_pool ["_law_script", "_law_k"] (defScope s_law_pool) := ⟨rfl, rfl, rfl, by decide +kernel, rfl, by decide +kernel, by decide +kernel⟩
theorem fo_law_pool {P : Program} {w : World} {K : PySem.W.Frag} {mg : Str → Option Value} {base : Heap} {f : Addr} {fd : FuncData} (B : Bs mg) (C : Cs K mg) (F : Fun K "_law_pool" "_law_pool" s_law_pool f fd)  :
    FnOk P w K mg base (L2.CX P w) 1 f fd ["_law_script", "_law_k"] (lift (S_law_pool K)) := by
  refine fn_ok F sc_law_pool (fun vs G M R Z h => sp_len2 h) (fun cdv A outer s H E hr => ?_)
  have nd : N_law_pool.Nodup := sc_law_pool.nd
  have hu : _ + 64 < cLine := hr.units
  have tk : Takes (cxOf (L2.CX P w) P w K mg base N_law_pool "_law_pool" (defScope s_law_pool) f cdv A outer s H E) (fun c d _ H => E c d H) := takes_of rfl rfl rfl rfl
  have po : PassesOwn (model P w) _ _ _ := passes_of (X := cxOf (L2.CX P w) P w K mg base N_law_pool "_law_pool" (defScope s_law_pool) f cdv A outer s H E) rfl
  exact ⟨rd_law_pool K, jss_cons (js_set (i := 2) (je_callB kc_len B.len (ja_cons (je_var 0) (ja_nil))) nd) (jss_cons (js_if (jt_cmp (kop_lt) (je_var 1) (je_callB kc_len B.len (ja_cons (je_var 0) (ja_nil))) (nomark _)) (jss_cons (js_set (i := 2) (je_ix (je_var 0) (je_var 1)) nd) (jss_nil)) (jss_nil)) (jss_cons (js_set (i := 3) (je_op kop_mod (je_op kop_mul (je_op kop_add (je_op kop_add (je_op kop_mod (je_var 2) (je_int)) (je_op kop_mul (je_int) (je_var 1))) (je_int)) (je_int)) (je_int)) nd) (jss_cons (js_ret (je_lst (ja_cons (je_op kop_mul (je_var 2) (je_callTy kc_int B.int (ja_cons (je_cmp (kop_ge) (je_var 2) (je_op kop_pow (je_int) (je_int)) (nomark _)) (ja_nil)))) (ja_cons (je_var 3) (ja_nil))))) (jss_nil)))), fun vs G M R Z h => pf_law_pool h⟩
theorem df_law_pool {P : Program} {w : World} {K : PySem.W.Frag} {mg : Str → Option Value} {base : Heap} {f : Addr} {fd : FuncData} (B : Bs mg) (C : Cs K mg) (F : Fun K "_law_pool" "_law_pool" s_law_pool f fd) (b : Binds K fd ["_law_script", "_law_k"] []) (gm : mg "_law_pool" = some (.ref f))  :
    Def P w K mg base 1 "_law_pool" ["_law_script", "_law_k"] (S_law_pool K) := ⟨f, fd, fo_law_pool B C F , gm, F.kp, b⟩
abbrev s_law_take : Stmt := topS 13
abbrev N_law_take : List Str := ["_law_pool_here", "_law_many", "_law_digit"]
theorem sc_law_take : FnScope N_law_take ["_law_pool_here", "_law_many"] (defScope s_law_take) := ⟨rfl, rfl, rfl, by decide +kernel, rfl, by decide +kernel, by decide +kernel⟩
theorem fo_law_take {P : Program} {w : World} {K : PySem.W.Frag} {mg : Str → Option Value} {base : Heap} {f : Addr} {fd : FuncData} (B : Bs mg) (C : Cs K mg) (F : Fun K "_law_take" "_law_take" s_law_take f fd)  :
    FnOk P w K mg base (L2.CX P w) 1 f fd ["_law_pool_here", "_law_many"] (lift (S_law_take K)) := by
  refine fn_ok F sc_law_take (fun vs G M R Z h => sp_len2 h) (fun cdv A outer s H E hr => ?_)
  have nd : N_law_take.Nodup := sc_law_take.nd
  have hu : _ + 64 < cLine := hr.units
  have tk : Takes (cxOf (L2.CX P w) P w K mg base N_law_take "_law_take" (defScope s_law_take) f cdv A outer s H E) (fun c d _ H => E c d H) := takes_of rfl rfl rfl rfl
  have po : PassesOwn (model P w) _ _ _ := passes_of (X := cxOf (L2.CX P w) P w K mg base N_law_take "_law_take" (defScope s_law_take) f cdv A outer s H E) rfl
  exact ⟨rd_law_take K, jss_cons (js_if (jt_cmp (kop_gt) (je_ix (je_var 0) (je_int)) (je_int) (nomark _)) (jss_cons (js_set (i := 2) (je_op kop_mod (je_ix (je_var 0) (je_int)) (je_var 1)) nd) (jss_cons (js_asg (je_op kop_fdiv (je_ix (je_var 0) (je_int)) (je_var 1)) (jg_ix (je_var 0) (je_int))) (jss_cons (js_ret (je_var 2)) (jss_nil)))) (jss_nil)) (jss_cons (js_asg (je_op kop_mod (je_op kop_add (je_op kop_mul (je_ix (je_var 0) (je_int)) (je_int)) (je_int)) (je_int)) (jg_ix (je_var 0) (je_int))) (jss_cons (js_ret (je_op kop_mod (je_op kop_fdiv (je_op kop_mod (je_op kop_mul (je_ix (je_var 0) (je_int)) (je_ix (je_var 0) (je_int))) (je_int)) (je_int)) (je_var 1))) (jss_nil))), fun vs G M R Z h => pf_law_take h⟩
theorem df_law_take {P : Program} {w : World} {K : PySem.W.Frag} {mg : Str → Option Value} {base : Heap} {f : Addr} {fd : FuncData} (B : Bs mg) (C : Cs K mg) (F : Fun K "_law_take" "_law_take" s_law_take f fd) (b : Binds K fd ["_law_pool_here", "_law_many"] []) (gm : mg "_law_take" = some (.ref f))  :
    Def P w K mg base 1 "_law_take" ["_law_pool_here", "_law_many"] (S_law_take K) := ⟨f, fd, fo_law_take B C F , gm, F.kp, b⟩
abbrev s_law_kind : Stmt := topS 15
abbrev N_law_kind : List Str := ["_law_pool_here"]
theorem sc_law_kind : FnScope N_law_kind ["_law_pool_here"] (defScope s_law_kind) := ⟨rfl, rfl, rfl, by decide +kernel, rfl, by decide +kernel, by decide +kernel⟩
theorem fo_law_kind {P : Program} {w : World} {K : PySem.W.Frag} {mg : Str → Option Value} {base : Heap} {f : Addr} {fd : FuncData} (B : Bs mg) (C : Cs K mg) (F : Fun K "_law_kind" "_law_kind" s_law_kind f fd) (D_law_take : Def P w K mg base 1 "_law_take" ["_law_pool_here", "_law_many"] (S_law_take K)) :
    FnOk P w K mg base (L2.CX P w) 2 f fd ["_law_pool_here"] (lift (S_law_kind K)) := by
  refine fn_ok F sc_law_kind (fun vs G M R Z h => sp_len1 h) (fun cdv A outer s H E hr => ?_)
  have nd : N_law_kind.Nodup := sc_law_kind.nd
  have hu : _ + 64 < cLine := hr.units
  have tk : Takes (cxOf (L2.CX P w) P w K mg base N_law_kind "_law_kind" (defScope s_law_kind) f cdv A outer s H E) (fun c d _ H => E c d H) := takes_of rfl rfl rfl rfl
  have po : PassesOwn (model P w) _ _ _ := passes_of (X := cxOf (L2.CX P w) P w K mg base N_law_kind "_law_kind" (defScope s_law_kind) f cdv A outer s H E) rfl
  exact ⟨rd_law_kind K, jss_cons (js_if (jt_cmp (kop_eq hu) (je_callD D_law_take hr tk (ja_cons (je_var 0) (ja_cons (je_int) (ja_nil)))) (je_int) (nomark _)) (jss_cons (js_ret (je_tup (ja_cons (je_str) (ja_cons (je_callD D_law_take hr tk (ja_cons (je_var 0) (ja_cons (je_int) (ja_nil)))) (ja_nil))))) (jss_nil)) (jss_nil)) (jss_cons (js_ret (je_tup (ja_cons (je_str) (ja_cons (je_op kop_add (je_int) (je_callD D_law_take hr tk (ja_cons (je_var 0) (ja_cons (je_int) (ja_nil))))) (ja_nil))))) (jss_nil)), fun vs G M R Z h => pf_law_kind h⟩
theorem df_law_kind {P : Program} {w : World} {K : PySem.W.Frag} {mg : Str → Option Value} {base : Heap} {f : Addr} {fd : FuncData} (B : Bs mg) (C : Cs K mg) (F : Fun K "_law_kind" "_law_kind" s_law_kind f fd) (b : Binds K fd ["_law_pool_here"] []) (gm : mg "_law_kind" = some (.ref f)) (D_law_take : Def P w K mg base 1 "_law_take" ["_law_pool_here", "_law_many"] (S_law_take K)) :
    Def P w K mg base 2 "_law_kind" ["_law_pool_here"] (S_law_kind K) := ⟨f, fd, fo_law_kind B C F D_law_take, gm, F.kp, b⟩
abbrev s_law_sign : Stmt := topS 18
abbrev N_law_sign : List Str := ["_law_pool_here", "_law_kinds", "_law_deed", "_law_shelf", "_law_draw", "_law_kind_here"]
theorem sc_law_sign : FnScope N_law_sign ["_law_pool_here", "_law_kinds"] (defScope s_law_sign) := ⟨rfl, rfl, rfl, by decide +kernel, rfl, by decide +kernel, by decide +kernel⟩
theorem fo_law_sign {P : Program} {w : World} {K : PySem.W.Frag} {mg : Str → Option Value} {base : Heap} {f : Addr} {fd : FuncData} (B : Bs mg) (C : Cs K mg) (F : Fun K "_law_sign" "_law_sign" s_law_sign f fd) (D_law_take : Def P w K mg base 1 "_law_take" ["_law_pool_here", "_law_many"] (S_law_take K)) :
    FnOk P w K mg base (L2.CX P w) 2 f fd ["_law_pool_here", "_law_kinds"] (lift (S_law_sign K)) := by
  refine fn_ok F sc_law_sign (fun vs G M R Z h => sp_len2 h) (fun cdv A outer s H E hr => ?_)
  have nd : N_law_sign.Nodup := sc_law_sign.nd
  have hu : _ + 64 < cLine := hr.units
  have tk : Takes (cxOf (L2.CX P w) P w K mg base N_law_sign "_law_sign" (defScope s_law_sign) f cdv A outer s H E) (fun c d _ H => E c d H) := takes_of rfl rfl rfl rfl
  have po : PassesOwn (model P w) _ _ _ := passes_of (X := cxOf (L2.CX P w) P w K mg base N_law_sign "_law_sign" (defScope s_law_sign) f cdv A outer s H E) rfl
  exact ⟨rd_law_sign K, jss_cons (js_set (i := 2) (je_ix (je_lst (ja_cons (je_str) (ja_cons (je_str) (ja_nil)))) (je_callD D_law_take hr tk (ja_cons (je_var 0) (ja_cons (je_int) (ja_nil))))) nd) (jss_cons (js_set (i := 3) (je_callD D_law_take hr tk (ja_cons (je_var 0) (ja_cons (je_int) (ja_nil)))) nd) (jss_cons (js_set (i := 4) (je_callD D_law_take hr tk (ja_cons (je_var 0) (ja_cons (je_callB kc_len B.len (ja_cons (je_var 1) (ja_nil))) (ja_nil)))) nd) (jss_cons (js_set (i := 5) (je_ix (je_var 1) (je_var 4)) nd) (jss_cons (js_if (jt_cmp (kop_eq hu) (je_callD D_law_take hr tk (ja_cons (je_var 0) (ja_cons (je_int) (ja_nil)))) (je_int) (nomark _)) (jss_cons (js_ret (je_tup (ja_cons (je_str) (ja_cons (je_var 2) (ja_cons (je_var 3) (ja_cons (je_callD D_law_take hr tk (ja_cons (je_var 0) (ja_cons (je_int) (ja_nil)))) (ja_nil))))))) (jss_nil)) (jss_nil)) (jss_cons (js_if (jt_cmp (kop_eq hu) (je_ix (je_var 5) (je_int)) (je_str) (nomark _)) (jss_cons (js_ret (je_tup (ja_cons (je_str) (ja_cons (je_var 2) (ja_cons (je_var 3) (ja_cons (je_var 4) (ja_cons (je_callD D_law_take hr tk (ja_cons (je_var 0) (ja_cons (je_ix (je_var 5) (je_int)) (ja_nil)))) (ja_nil)))))))) (jss_nil)) (jss_nil)) (jss_cons (js_ret (je_tup (ja_cons (je_str) (ja_cons (je_var 2) (ja_cons (je_var 3) (ja_cons (je_var 4) (ja_cons (je_callD D_law_take hr tk (ja_cons (je_var 0) (ja_cons (je_op kop_add (je_ix (je_var 5) (je_int)) (je_int)) (ja_nil)))) (ja_cons (je_callD D_law_take hr tk (ja_cons (je_var 0) (ja_cons (je_int) (ja_nil)))) (ja_nil))))))))) (jss_nil))))))), fun vs G M R Z h => pf_law_sign h⟩
theorem df_law_sign {P : Program} {w : World} {K : PySem.W.Frag} {mg : Str → Option Value} {base : Heap} {f : Addr} {fd : FuncData} (B : Bs mg) (C : Cs K mg) (F : Fun K "_law_sign" "_law_sign" s_law_sign f fd) (b : Binds K fd ["_law_pool_here", "_law_kinds"] []) (gm : mg "_law_sign" = some (.ref f)) (D_law_take : Def P w K mg base 1 "_law_take" ["_law_pool_here", "_law_many"] (S_law_take K)) :
    Def P w K mg base 2 "_law_sign" ["_law_pool_here", "_law_kinds"] (S_law_sign K) := ⟨f, fd, fo_law_sign B C F D_law_take, gm, F.kp, b⟩
abbrev s_law_draws_of : Stmt := topS 16
abbrev N_law_draws_of : List Str := ["_law_kind_here", "_law_found", "_law_k", "_law_more", "_law_row", "_law_number"]
theorem sc_law_draws_of : FnScope N_law_draws_of ["_law_kind_here"] (defScope s_law_draws_of) := ⟨rfl, rfl, rfl, by decide +kernel, rfl, by decide +kernel, by decide +kernel⟩
theorem fo_law_draws_of {P : Program} {w : World} {K : PySem.W.Frag} {mg : Str → Option Value} {base : Heap} {f : Addr} {fd : FuncData} (B : Bs mg) (C : Cs K mg) (F : Fun K "_law_draws_of" "_law_draws_of" s_law_draws_of f fd)  :
    FnOk P w K mg base (L2.CX P w) 1 f fd ["_law_kind_here"] (lift (S_law_draws_of K)) := by
  refine fn_ok F sc_law_draws_of (fun vs G M R Z h => sp_len1 h) (fun cdv A outer s H E hr => ?_)
  have nd : N_law_draws_of.Nodup := sc_law_draws_of.nd
  have hu : _ + 64 < cLine := hr.units
  have tk : Takes (cxOf (L2.CX P w) P w K mg base N_law_draws_of "_law_draws_of" (defScope s_law_draws_of) f cdv A outer s H E) (fun c d _ H => E c d H) := takes_of rfl rfl rfl rfl
  have po : PassesOwn (model P w) _ _ _ := passes_of (X := cxOf (L2.CX P w) P w K mg base N_law_draws_of "_law_draws_of" (defScope s_law_draws_of) f cdv A outer s H E) rfl
  exact ⟨rd_law_draws_of K, jss_cons (js_if (jt_cmp (kop_eq hu) (je_ix (je_var 0) (je_int)) (je_str) (nomark _)) (jss_cons (js_ret (je_listR1 B.list B.range (je_op kop_shl (je_int) (je_ix (je_var 0) (je_int))))) (jss_nil)) (jss_nil)) (jss_cons (js_set (i := 1) (je_lst (ja_cons (je_lst (ja_nil)) (ja_nil))) nd) (jss_cons (js_for po rfl (ji_range1 B.range (ja_cons (je_ix (je_var 0) (je_int)) (ja_nil))) (jg_name (i := 2) nd) (jss_cons (js_set (i := 3) (je_lst (ja_nil)) nd) (jss_cons (js_for po rfl (ji_list (je_var 1)) (jg_name (i := 4) nd) (jss_cons (js_set (i := 3) (je_op kop_add (je_var 3) (je_comp (own := [("_law_number", 5)]) rfl nd (ji_range1 B.range (ja_cons (je_op kop_add (je_var 2) (je_int)) (ja_nil))) (blkOk_by (own := [("_law_number", 5)]) (N := N_law_draws_of) (sc := defScope s_law_draws_of) (by decide +kernel)) (fun _ _ _ _ _ => by exact jg_name (i := 5) nd) (fun _ _ _ _ _ => by exact jts_nil) (fun _ _ _ _ _ => by exact je_op kop_add (je_var 4) (je_lst (ja_cons (je_var 5) (ja_nil)))))) nd) (jss_nil))) (jss_cons (js_set (i := 1) (je_var 3) nd) (jss_nil))))) (jss_cons (js_ret (je_var 1)) (jss_nil)))), fun vs G M R Z h => pf_law_draws_of h⟩
theorem df_law_draws_of {P : Program} {w : World} {K : PySem.W.Frag} {mg : Str → Option Value} {base : Heap} {f : Addr} {fd : FuncData} (B : Bs mg) (C : Cs K mg) (F : Fun K "_law_draws_of" "_law_draws_of" s_law_draws_of f fd) (b : Binds K fd ["_law_kind_here"] []) (gm : mg "_law_draws_of" = some (.ref f))  :
    Def P w K mg base 1 "_law_draws_of" ["_law_kind_here"] (S_law_draws_of K) := ⟨f, fd, fo_law_draws_of B C F , gm, F.kp, b⟩
abbrev s_law_all : Stmt := topS 17
abbrev N_law_all : List Str := ["_law_kinds", "_law_found", "_law_kind_here", "_law_more", "_law_draws", "_law_draw"]
theorem sc_law_all : FnScope N_law_all ["_law_kinds"] (defScope s_law_all) := ⟨rfl, rfl, rfl, by decide +kernel, rfl, by decide +kernel, by decide +kernel⟩
theorem fo_law_all {P : Program} {w : World} {K : PySem.W.Frag} {mg : Str → Option Value} {base : Heap} {f : Addr} {fd : FuncData} (B : Bs mg) (C : Cs K mg) (F : Fun K "_law_all" "_law_all" s_law_all f fd) (D_law_draws_of : Def P w K mg base 1 "_law_draws_of" ["_law_kind_here"] (S_law_draws_of K)) :
    FnOk P w K mg base (L2.CX P w) 2 f fd ["_law_kinds"] (lift (S_law_all K)) := by
  refine fn_ok F sc_law_all (fun vs G M R Z h => sp_len1 h) (fun cdv A outer s H E hr => ?_)
  have nd : N_law_all.Nodup := sc_law_all.nd
  have hu : _ + 64 < cLine := hr.units
  have tk : Takes (cxOf (L2.CX P w) P w K mg base N_law_all "_law_all" (defScope s_law_all) f cdv A outer s H E) (fun c d _ H => E c d H) := takes_of rfl rfl rfl rfl
  have po : PassesOwn (model P w) _ _ _ := passes_of (X := cxOf (L2.CX P w) P w K mg base N_law_all "_law_all" (defScope s_law_all) f cdv A outer s H E) rfl
  exact ⟨rd_law_all K, jss_cons (js_set (i := 1) (je_lst (ja_cons (je_lst (ja_nil)) (ja_nil))) nd) (jss_cons (js_for po rfl (ji_list (je_var 0)) (jg_name (i := 2) nd) (jss_cons (js_set (i := 3) (je_lst (ja_nil)) nd) (jss_cons (js_for po rfl (ji_list (je_var 1)) (jg_name (i := 4) nd) (jss_cons (js_set (i := 3) (je_op kop_add (je_var 3) (je_comp (own := [("_law_draw", 5)]) rfl nd (ji_list (je_callD D_law_draws_of hr tk (ja_cons (je_var 2) (ja_nil)))) (blkOk_by (own := [("_law_draw", 5)]) (N := N_law_all) (sc := defScope s_law_all) (by decide +kernel)) (fun _ _ _ _ _ => by exact jg_name (i := 5) nd) (fun _ _ _ _ _ => by exact jts_nil) (fun _ _ _ _ _ => by exact je_op kop_add (je_var 4) (je_lst (ja_cons (je_var 5) (ja_nil)))))) nd) (jss_nil))) (jss_cons (js_set (i := 1) (je_var 3) nd) (jss_nil))))) (jss_cons (js_ret (je_var 1)) (jss_nil))), fun vs G M R Z h => pf_law_all h⟩
theorem df_law_all {P : Program} {w : World} {K : PySem.W.Frag} {mg : Str → Option Value} {base : Heap} {f : Addr} {fd : FuncData} (B : Bs mg) (C : Cs K mg) (F : Fun K "_law_all" "_law_all" s_law_all f fd) (b : Binds K fd ["_law_kinds"] []) (gm : mg "_law_all" = some (.ref f)) (D_law_draws_of : Def P w K mg base 1 "_law_draws_of" ["_law_kind_here"] (S_law_draws_of K)) :
    Def P w K mg base 2 "_law_all" ["_law_kinds"] (S_law_all K) := ⟨f, fd, fo_law_all B C F D_law_draws_of, gm, F.kp, b⟩
abbrev s_law_order : Stmt := topS 14
abbrev N_law_order : List Str := ["_law_row", "_law_order_here", "_law_k", "_law_at"]
theorem sc_law_order : FnScope N_law_order ["_law_row"] (defScope s_law_order) := ⟨rfl, rfl, rfl, by decide +kernel, rfl, by decide +kernel, by decide +kernel⟩
theorem fo_law_order {P : Program} {w : World} {K : PySem.W.Frag} {mg : Str → Option Value} {base : Heap} {f : Addr} {fd : FuncData} (B : Bs mg) (C : Cs K mg) (F : Fun K "_law_order" "_law_order" s_law_order f fd)  :
    FnOk P w K mg base (L2.CX P w) 1 f fd ["_law_row"] (lift (S_law_order K)) := by
  refine fn_ok F sc_law_order (fun vs G M R Z h => sp_len1 h) (fun cdv A outer s H E hr => ?_)
  have nd : N_law_order.Nodup := sc_law_order.nd
  have hu : _ + 64 < cLine := hr.units
  have tk : Takes (cxOf (L2.CX P w) P w K mg base N_law_order "_law_order" (defScope s_law_order) f cdv A outer s H E) (fun c d _ H => E c d H) := takes_of rfl rfl rfl rfl
  have po : PassesOwn (model P w) _ _ _ := passes_of (X := cxOf (L2.CX P w) P w K mg base N_law_order "_law_order" (defScope s_law_order) f cdv A outer s H E) rfl
  exact ⟨rd_law_order K, jss_cons (js_set (i := 1) (je_listR1 B.list B.range (je_callB kc_len B.len (ja_cons (je_var 0) (ja_nil)))) nd) (jss_cons (js_for po rfl (ji_range3 B.range (ja_cons (je_op kop_sub (je_callB kc_len B.len (ja_cons (je_var 0) (ja_nil))) (je_int)) (ja_cons (je_int) (ja_cons (je_neg (je_int)) (ja_nil))))) (jg_name (i := 2) nd) (jss_cons (js_set (i := 3) (je_ix (je_var 0) (je_var 2)) nd) (jss_cons (js_asg (je_tup (ja_cons (je_ix (je_var 1) (je_var 3)) (ja_cons (je_ix (je_var 1) (je_var 2)) (ja_nil)))) (jg_tup rfl (jgs_cons (jg_ix (je_var 1) (je_var 2)) (jgs_cons (jg_ix (je_var 1) (je_var 3)) (jgs_nil))))) (jss_nil)))) (jss_cons (js_ret (je_var 1)) (jss_nil))), fun vs G M R Z h => pf_law_order h⟩
theorem df_law_order {P : Program} {w : World} {K : PySem.W.Frag} {mg : Str → Option Value} {base : Heap} {f : Addr} {fd : FuncData} (B : Bs mg) (C : Cs K mg) (F : Fun K "_law_order" "_law_order" s_law_order f fd) (b : Binds K fd ["_law_row"] []) (gm : mg "_law_order" = some (.ref f))  :
    Def P w K mg base 1 "_law_order" ["_law_row"] (S_law_order K) := ⟨f, fd, fo_law_order B C F , gm, F.kp, b⟩
abbrev s_law_touch : Stmt := topS 19
abbrev N_law_touch : List Str := ["_law_kinds", "_law_sign_here", "_law_draws", "_law_high", "_law_node"]
theorem sc_law_touch : FnScope N_law_touch ["_law_kinds", "_law_sign_here", "_law_draws"] (defScope s_law_touch) := ⟨rfl, rfl, rfl, by decide +kernel, rfl, by decide +kernel, by decide +kernel⟩
theorem fo_law_touch {P : Program} {w : World} {K : PySem.W.Frag} {mg : Str → Option Value} {base : Heap} {f : Addr} {fd : FuncData} (B : Bs mg) (C : Cs K mg) (F : Fun K "_law_touch" "_law_touch" s_law_touch f fd) (D_law_order : Def P w K mg base 1 "_law_order" ["_law_row"] (S_law_order K)) :
    FnOk P w K mg base (L2.CX P w) 2 f fd ["_law_kinds", "_law_sign_here", "_law_draws"] (lift (S_law_touch K)) := by
  refine fn_ok F sc_law_touch (fun vs G M R Z h => sp_len3 h) (fun cdv A outer s H E hr => ?_)
  have nd : N_law_touch.Nodup := sc_law_touch.nd
  have hu : _ + 64 < cLine := hr.units
  have tk : Takes (cxOf (L2.CX P w) P w K mg base N_law_touch "_law_touch" (defScope s_law_touch) f cdv A outer s H E) (fun c d _ H => E c d H) := takes_of rfl rfl rfl rfl
  have po : PassesOwn (model P w) _ _ _ := passes_of (X := cxOf (L2.CX P w) P w K mg base N_law_touch "_law_touch" (defScope s_law_touch) f cdv A outer s H E) rfl
  exact ⟨rd_law_touch K, jss_cons (js_if (jt_cmp (kop_eq hu) (je_ix (je_var 1) (je_int)) (je_str) (nomark _)) (jss_cons (js_ret (je_slT (je_var 1) (jo_some (je_int)) (jo_none))) (jss_nil)) (jss_nil)) (jss_cons (js_if (jt_cmp (kop_eq hu) (je_ix (je_var 1) (je_int)) (je_str) (nomark _)) (jss_cons (js_ret (je_tup (ja_cons (je_ix (je_var 1) (je_int)) (ja_cons (je_ix (je_var 1) (je_int)) (ja_cons (je_ix (je_callD D_law_order hr tk (ja_cons (je_ix (je_var 2) (je_ix (je_var 1) (je_int))) (ja_nil))) (je_ix (je_var 1) (je_int))) (ja_nil)))))) (jss_nil)) (jss_nil)) (jss_cons (js_set (i := 3) (je_ix (je_ix (je_var 0) (je_ix (je_var 1) (je_int))) (je_int)) nd) (jss_cons (js_set (i := 4) (je_op kop_add (je_op kop_sub (je_op kop_shl (je_int) (je_ix (je_var 1) (je_int))) (je_int)) (je_op kop_fdiv (je_ix (je_var 2) (je_ix (je_var 1) (je_int))) (je_op kop_shl (je_int) (je_op kop_sub (je_var 3) (je_ix (je_var 1) (je_int)))))) nd) (jss_cons (js_ret (je_tup (ja_cons (je_ix (je_var 1) (je_int)) (ja_cons (je_ix (je_var 1) (je_int)) (ja_cons (je_op kop_add (je_op kop_mul (je_int) (je_var 4)) (je_ix (je_var 1) (je_int))) (ja_nil)))))) (jss_nil))))), fun vs G M R Z h => pf_law_touch h⟩
theorem df_law_touch {P : Program} {w : World} {K : PySem.W.Frag} {mg : Str → Option Value} {base : Heap} {f : Addr} {fd : FuncData} (B : Bs mg) (C : Cs K mg) (F : Fun K "_law_touch" "_law_touch" s_law_touch f fd) (b : Binds K fd ["_law_kinds", "_law_sign_here", "_law_draws"] []) (gm : mg "_law_touch" = some (.ref f)) (D_law_order : Def P w K mg base 1 "_law_order" ["_law_row"] (S_law_order K)) :
    Def P w K mg base 2 "_law_touch" ["_law_kinds", "_law_sign_here", "_law_draws"] (S_law_touch K) := ⟨f, fd, fo_law_touch B C F D_law_order, gm, F.kp, b⟩
abbrev s_law_seen : Stmt := topS 20
abbrev N_law_seen : List Str := ["_law_kinds", "_law_signs", "_law_draws", "_law_sign_here"]
theorem sc_law_seen : FnScope N_law_seen ["_law_kinds", "_law_signs", "_law_draws"] (defScope s_law_seen) := ⟨rfl, rfl, rfl, by decide +kernel, rfl, by decide +kernel, by decide +kernel⟩
theorem fo_law_seen {P : Program} {w : World} {K : PySem.W.Frag} {mg : Str → Option Value} {base : Heap} {f : Addr} {fd : FuncData} (B : Bs mg) (C : Cs K mg) (F : Fun K "_law_seen" "_law_seen" s_law_seen f fd) (D_law_touch : Def P w K mg base 2 "_law_touch" ["_law_kinds", "_law_sign_here", "_law_draws"] (S_law_touch K)) :
    FnOk P w K mg base (L2.CX P w) 3 f fd ["_law_kinds", "_law_signs", "_law_draws"] (lift (S_law_seen K)) := by
  refine fn_ok F sc_law_seen (fun vs G M R Z h => sp_len3 h) (fun cdv A outer s H E hr => ?_)
  have nd : N_law_seen.Nodup := sc_law_seen.nd
  have hu : _ + 64 < cLine := hr.units
  have tk : Takes (cxOf (L2.CX P w) P w K mg base N_law_seen "_law_seen" (defScope s_law_seen) f cdv A outer s H E) (fun c d _ H => E c d H) := takes_of rfl rfl rfl rfl
  have po : PassesOwn (model P w) _ _ _ := passes_of (X := cxOf (L2.CX P w) P w K mg base N_law_seen "_law_seen" (defScope s_law_seen) f cdv A outer s H E) rfl
  exact ⟨rd_law_seen K, jss_cons (js_ret (je_comp (own := [("_law_sign_here", 3)]) rfl nd (ji_list (je_var 1)) (blkOk_by (own := [("_law_sign_here", 3)]) (N := N_law_seen) (sc := defScope s_law_seen) (by decide +kernel)) (fun _ _ _ _ _ => by exact jg_name (i := 3) nd) (fun _ _ _ _ _ => by exact jts_nil) (fun _ _ _ _ _ => by exact je_callD D_law_touch hr takes0 (ja_cons (je_var 0) (ja_cons (je_var 3) (ja_cons (je_var 2) (ja_nil))))))) (jss_nil), fun vs G M R Z h => pf_law_seen h⟩
theorem df_law_seen {P : Program} {w : World} {K : PySem.W.Frag} {mg : Str → Option Value} {base : Heap} {f : Addr} {fd : FuncData} (B : Bs mg) (C : Cs K mg) (F : Fun K "_law_seen" "_law_seen" s_law_seen f fd) (b : Binds K fd ["_law_kinds", "_law_signs", "_law_draws"] []) (gm : mg "_law_seen" = some (.ref f)) (D_law_touch : Def P w K mg base 2 "_law_touch" ["_law_kinds", "_law_sign_here", "_law_draws"] (S_law_touch K)) :
    Def P w K mg base 3 "_law_seen" ["_law_kinds", "_law_signs", "_law_draws"] (S_law_seen K) := ⟨f, fd, fo_law_seen B C F D_law_touch, gm, F.kp, b⟩
abbrev s_law_bent : Stmt := topS 21
abbrev N_law_bent : List Str := ["_law_pool_here", "_law_touches", "_law_other", "_law_way", "_law_at", "_law_deed", "_law_shelf", "_law_room", "_law_lay", "_law_some"]
theorem sc_law_bent : FnScope N_law_bent ["_law_pool_here", "_law_touches", "_law_other"] (defScope s_law_bent) := ⟨rfl, rfl, rfl, by decide +kernel, rfl, by decide +kernel, by decide +kernel⟩
theorem fo_law_bent {P : Program} {w : World} {K : PySem.W.Frag} {mg : Str → Option Value} {base : Heap} {f : Addr} {fd : FuncData} (B : Bs mg) (C : Cs K mg) (F : Fun K "_law_bent" "_law_bent" s_law_bent f fd) (D_law_take : Def P w K mg base 1 "_law_take" ["_law_pool_here", "_law_many"] (S_law_take K)) :
    FnOk P w K mg base (L2.CX P w) 2 f fd ["_law_pool_here", "_law_touches", "_law_other"] (lift (S_law_bent K)) := by
  refine fn_ok F sc_law_bent (fun vs G M R Z h => sp_len3 h) (fun cdv A outer s H E hr => ?_)
  have nd : N_law_bent.Nodup := sc_law_bent.nd
  have hu : _ + 64 < cLine := hr.units
  have tk : Takes (cxOf (L2.CX P w) P w K mg base N_law_bent "_law_bent" (defScope s_law_bent) f cdv A outer s H E) (fun c d _ H => E c d H) := takes_of rfl rfl rfl rfl
  have po : PassesOwn (model P w) _ _ _ := passes_of (X := cxOf (L2.CX P w) P w K mg base N_law_bent "_law_bent" (defScope s_law_bent) f cdv A outer s H E) rfl
  exact ⟨rd_law_bent K, jss_cons (js_set (i := 3) (je_callD D_law_take hr tk (ja_cons (je_var 0) (ja_cons (je_int) (ja_nil)))) nd) (jss_cons (js_set (i := 4) (je_callD D_law_take hr tk (ja_cons (je_var 0) (ja_cons (je_op kop_add (je_callB kc_len B.len (ja_cons (je_var 1) (ja_nil))) (je_int)) (ja_nil)))) nd) (jss_cons (js_if (jt_cmp (kop_eq hu) (je_var 3) (je_int) (nomark _)) (jss_cons (js_ret (je_var 2)) (jss_nil)) (jss_nil)) (jss_cons (js_if (jt_cmp (kop_eq hu) (je_var 3) (je_int) (nomark _)) (jss_cons (js_ret (je_op kop_add (je_var 1) (je_lst (ja_cons (je_tup (ja_cons (je_str) (ja_cons (je_int) (ja_cons (je_int) (ja_nil))))) (ja_nil))))) (jss_nil)) (jss_nil)) (jss_cons (js_if ((jw_or (jt_cmp (kop_gt) (je_var 3) (je_int) (nomark _)) (jw_or1 (jt_cmp (kop_eq hu) (je_var 4) (je_callB kc_len B.len (ja_cons (je_var 1) (ja_nil))) (nomark _)))).jt) (jss_cons (js_ret (je_var 1)) (jss_nil)) (jss_nil)) (jss_cons (js_asg (je_ix (je_var 1) (je_var 4)) (jg_tup rfl (jgs_cons (jg_name (i := 5) nd) (jgs_cons (jg_name (i := 6) nd) (jgs_cons (jg_name (i := 7) nd) (jgs_nil)))))) (jss_cons (js_set (i := 8) (je_ix (je_lst (ja_cons (je_str) (ja_cons (je_str) (ja_nil)))) (je_callTy kc_int B.int (ja_cons (je_cmp (kop_eq hu) (je_var 5) (je_str) (nomark _)) (ja_nil)))) nd) (jss_cons (js_set (i := 9) (je_lst (ja_cons (je_lst (ja_nil)) (ja_cons (je_lst (ja_cons (je_tup (ja_cons (je_var 8) (ja_cons (je_var 6) (ja_cons (je_var 7) (ja_nil))))) (ja_nil))) (ja_cons (je_lst (ja_cons (je_tup (ja_cons (je_var 5) (ja_cons (je_op kop_add (je_var 6) (je_int)) (ja_cons (je_var 7) (ja_nil))))) (ja_nil))) (ja_cons (je_lst (ja_cons (je_tup (ja_cons (je_var 5) (ja_cons (je_var 6) (ja_cons (je_op kop_add (je_var 7) (je_int)) (ja_nil))))) (ja_nil))) (ja_cons (je_lst (ja_cons (je_tup (ja_cons (je_var 5) (ja_cons (je_var 6) (ja_cons (je_int) (ja_nil))))) (ja_nil))) (ja_nil))))))) nd) (jss_cons (js_set (i := 9) (je_op kop_add (je_var 9) (je_lst (ja_cons (je_revl (je_slice (je_var 1) (jo_some (je_var 4)) (jo_some (je_op kop_add (je_var 4) (je_int))))) (ja_nil)))) nd) (jss_cons (js_ret (je_op kop_add (je_op kop_add (je_slice (je_var 1) (jo_none) (jo_some (je_var 4))) (je_ix (je_var 9) (je_op kop_sub (je_var 3) (je_int)))) (je_slice (je_var 1) (jo_some (je_op kop_add (je_op kop_add (je_var 4) (je_int)) (je_callTy kc_int B.int (ja_cons (je_cmp (kop_eq hu) (je_var 3) (je_int) (nomark _)) (ja_nil))))) (jo_none)))) (jss_nil)))))))))), fun vs G M R Z h => pf_law_bent h⟩
theorem df_law_bent {P : Program} {w : World} {K : PySem.W.Frag} {mg : Str → Option Value} {base : Heap} {f : Addr} {fd : FuncData} (B : Bs mg) (C : Cs K mg) (F : Fun K "_law_bent" "_law_bent" s_law_bent f fd) (b : Binds K fd ["_law_pool_here", "_law_touches", "_law_other"] []) (gm : mg "_law_bent" = some (.ref f)) (D_law_take : Def P w K mg base 1 "_law_take" ["_law_pool_here", "_law_many"] (S_law_take K)) :
    Def P w K mg base 2 "_law_bent" ["_law_pool_here", "_law_touches", "_law_other"] (S_law_bent K) := ⟨f, fd, fo_law_bent B C F D_law_take, gm, F.kp, b⟩
abbrev s_grouped : Stmt := topS 7
abbrev N_grouped : List Str := ["kinds", "signs", "touches", "found", "kind", "sign", "touch"]
theorem sc_grouped : FnScope N_grouped ["kinds", "signs", "touches"] (defScope s_grouped) := ⟨rfl, rfl, rfl, by decide +kernel, rfl, by decide +kernel, by decide +kernel⟩
theorem fo_grouped {P : Program} {w : World} {K : PySem.W.Frag} {mg : Str → Option Value} {base : Heap} {f : Addr} {fd : FuncData} (B : Bs mg) (C : Cs K mg) (F : Fun K "grouped" "grouped" s_grouped f fd)  :
    FnOk P w K mg base (L2.CX P w) 1 f fd ["kinds", "signs", "touches"] (lift (S_grouped K)) := by
  refine fn_ok F sc_grouped (fun vs G M R Z h => sp_len3 h) (fun cdv A outer s H E hr => ?_)
  have nd : N_grouped.Nodup := sc_grouped.nd
  have hu : _ + 64 < cLine := hr.units
  have tk : Takes (cxOf (L2.CX P w) P w K mg base N_grouped "grouped" (defScope s_grouped) f cdv A outer s H E) (fun c d _ H => E c d H) := takes_of rfl rfl rfl rfl
  have po : PassesOwn (model P w) _ _ _ := passes_of (X := cxOf (L2.CX P w) P w K mg base N_grouped "grouped" (defScope s_grouped) f cdv A outer s H E) rfl
  exact ⟨rd_grouped K, jss_cons (js_setComp (own := [("kind", 4)]) (i := 3) rfl nd (sw_true rfl rfl rfl (by decide +kernel)) (ji_list (je_var 0)) (blkOk_by (own := [("kind", 4)]) (N := N_grouped) (sc := defScope s_grouped) (by decide +kernel)) (fun _ _ _ _ _ => by exact jg_name (i := 4) nd) (fun _ _ _ _ _ => by exact jts_nil) (fun _ _ _ _ _ => by exact je_lst (ja_nil))) (jss_cons (js_for po rfl (ji_zip B.zip (ja_cons (je_var 1) (ja_cons (je_var 2) (ja_nil)))) (jg_tup rfl (jgs_cons (jg_name (i := 5) nd) (jgs_cons (jg_name (i := 6) nd) (jgs_nil)))) (jss_cons (js_if ((jw_or (jt_cmp (kop_ne hu) (je_slT (je_var 5) (jo_some (je_int)) (jo_some (je_int))) (je_slT (je_var 6) (jo_none) (jo_some (je_int))) (nomark _)) (jw_or1 ((jw_and (jt_cmp (kop_eq hu) (je_ix (je_var 5) (je_int)) (je_str) (nomark _)) (jw_and1 (jt_cmp (kop_ne hu) (je_ix (je_var 5) (je_int)) (je_ix (je_var 6) (je_int)) (nomark _)))).jt))).jt) (jss_cons (js_ret (je_non)) (jss_nil)) (jss_nil)) (jss_cons (js_if (jt_cmp (kop_ne hu) (je_ix (je_var 5) (je_int)) (je_str) (nomark _)) (jss_cons (js_expr (je_bm PySem.F.plainAttrs_list PySem.F.slot_list_append PySem.F.type_list_append km_append (je_ix (je_var 3) (je_ix (je_var 5) (je_int))) (ja_cons (je_tup (ja_cons (je_var 5) (ja_cons (je_ix (je_var 6) (je_int)) (ja_nil)))) (ja_nil)))) (jss_nil)) (jss_nil)) (jss_nil)))) (jss_cons (js_ret (je_var 3)) (jss_nil))), fun vs G M R Z h => pf_grouped h⟩
theorem df_grouped {P : Program} {w : World} {K : PySem.W.Frag} {mg : Str → Option Value} {base : Heap} {f : Addr} {fd : FuncData} (B : Bs mg) (C : Cs K mg) (F : Fun K "grouped" "grouped" s_grouped f fd) (b : Binds K fd ["kinds", "signs", "touches"] []) (gm : mg "grouped" = some (.ref f))  :
    Def P w K mg base 1 "grouped" ["kinds", "signs", "touches"] (S_grouped K) := ⟨f, fd, fo_grouped B C F , gm, F.kp, b⟩
abbrev s_leaves : Stmt := topS 4
abbrev N_leaves : List Str := ["high"]
theorem sc_leaves : FnScope N_leaves ["high"] (defScope s_leaves) := ⟨rfl, rfl, rfl, by decide +kernel, rfl, by decide +kernel, by decide +kernel⟩
theorem fo_leaves {P : Program} {w : World} {K : PySem.W.Frag} {mg : Str → Option Value} {base : Heap} {f : Addr} {fd : FuncData} (B : Bs mg) (C : Cs K mg) (F : Fun K "leaves" "leaves" s_leaves f fd)  :
    FnOk P w K mg base (L2.CX P w) 1 f fd ["high"] (lift (S_leaves K)) := by
  refine fn_ok F sc_leaves (fun vs G M R Z h => sp_len1 h) (fun cdv A outer s H E hr => ?_)
  have nd : N_leaves.Nodup := sc_leaves.nd
  have hu : _ + 64 < cLine := hr.units
  have tk : Takes (cxOf (L2.CX P w) P w K mg base N_leaves "leaves" (defScope s_leaves) f cdv A outer s H E) (fun c d _ H => E c d H) := takes_of rfl rfl rfl rfl
  have po : PassesOwn (model P w) _ _ _ := passes_of (X := cxOf (L2.CX P w) P w K mg base N_leaves "leaves" (defScope s_leaves) f cdv A outer s H E) rfl
  exact ⟨rd_leaves K, jss_cons (js_ret (je_op kop_shl (je_int) (je_var 0))) (jss_nil), fun vs G M R Z h => pf_leaves h⟩
theorem df_leaves {P : Program} {w : World} {K : PySem.W.Frag} {mg : Str → Option Value} {base : Heap} {f : Addr} {fd : FuncData} (B : Bs mg) (C : Cs K mg) (F : Fun K "leaves" "leaves" s_leaves f fd) (b : Binds K fd ["high"] []) (gm : mg "leaves" = some (.ref f))  :
    Def P w K mg base 1 "leaves" ["high"] (S_leaves K) := ⟨f, fd, fo_leaves B C F , gm, F.kp, b⟩
abbrev s_node_at : Stmt := topS 1
abbrev N_node_at : List Str := ["high", "depth", "leaf"]
theorem sc_node_at : FnScope N_node_at ["high", "depth", "leaf"] (defScope s_node_at) := ⟨rfl, rfl, rfl, by decide +kernel, rfl, by decide +kernel, by decide +kernel⟩
theorem fo_node_at {P : Program} {w : World} {K : PySem.W.Frag} {mg : Str → Option Value} {base : Heap} {f : Addr} {fd : FuncData} (B : Bs mg) (C : Cs K mg) (F : Fun K "node_at" "node_at" s_node_at f fd)  :
    FnOk P w K mg base (L2.CX P w) 1 f fd ["high", "depth", "leaf"] (lift (S_node_at K)) := by
  refine fn_ok F sc_node_at (fun vs G M R Z h => sp_len3 h) (fun cdv A outer s H E hr => ?_)
  have nd : N_node_at.Nodup := sc_node_at.nd
  have hu : _ + 64 < cLine := hr.units
  have tk : Takes (cxOf (L2.CX P w) P w K mg base N_node_at "node_at" (defScope s_node_at) f cdv A outer s H E) (fun c d _ H => E c d H) := takes_of rfl rfl rfl rfl
  have po : PassesOwn (model P w) _ _ _ := passes_of (X := cxOf (L2.CX P w) P w K mg base N_node_at "node_at" (defScope s_node_at) f cdv A outer s H E) rfl
  exact ⟨rd_node_at K, jss_cons (js_ret (je_op kop_add (je_op kop_sub (je_op kop_shl (je_int) (je_var 1)) (je_int)) (je_op kop_shr (je_var 2) (je_op kop_sub (je_var 0) (je_var 1))))) (jss_nil), fun vs G M R Z h => pf_node_at h⟩
theorem df_node_at {P : Program} {w : World} {K : PySem.W.Frag} {mg : Str → Option Value} {base : Heap} {f : Addr} {fd : FuncData} (B : Bs mg) (C : Cs K mg) (F : Fun K "node_at" "node_at" s_node_at f fd) (b : Binds K fd ["high", "depth", "leaf"] []) (gm : mg "node_at" = some (.ref f))  :
    Def P w K mg base 1 "node_at" ["high", "depth", "leaf"] (S_node_at K) := ⟨f, fd, fo_node_at B C F , gm, F.kp, b⟩
abbrev s_room_of : Stmt := topS 2
abbrev N_room_of : List Str := ["node", "side"]
theorem sc_room_of : FnScope N_room_of ["node", "side"] (defScope s_room_of) := ⟨rfl, rfl, rfl, by decide +kernel, rfl, by decide +kernel, by decide +kernel⟩
theorem fo_room_of {P : Program} {w : World} {K : PySem.W.Frag} {mg : Str → Option Value} {base : Heap} {f : Addr} {fd : FuncData} (B : Bs mg) (C : Cs K mg) (F : Fun K "room_of" "room_of" s_room_of f fd)  :
    FnOk P w K mg base (L2.CX P w) 1 f fd ["node", "side"] (lift (S_room_of K)) := by
  refine fn_ok F sc_room_of (fun vs G M R Z h => sp_len2 h) (fun cdv A outer s H E hr => ?_)
  have nd : N_room_of.Nodup := sc_room_of.nd
  have hu : _ + 64 < cLine := hr.units
  have tk : Takes (cxOf (L2.CX P w) P w K mg base N_room_of "room_of" (defScope s_room_of) f cdv A outer s H E) (fun c d _ H => E c d H) := takes_of rfl rfl rfl rfl
  have po : PassesOwn (model P w) _ _ _ := passes_of (X := cxOf (L2.CX P w) P w K mg base N_room_of "room_of" (defScope s_room_of) f cdv A outer s H E) rfl
  exact ⟨rd_room_of K, jss_cons (js_ret (je_op kop_add (je_op kop_mul (je_int) (je_var 0)) (je_var 1))) (jss_nil), fun vs G M R Z h => pf_room_of h⟩
theorem df_room_of {P : Program} {w : World} {K : PySem.W.Frag} {mg : Str → Option Value} {base : Heap} {f : Addr} {fd : FuncData} (B : Bs mg) (C : Cs K mg) (F : Fun K "room_of" "room_of" s_room_of f fd) (b : Binds K fd ["node", "side"] []) (gm : mg "room_of" = some (.ref f))  :
    Def P w K mg base 1 "room_of" ["node", "side"] (S_room_of K) := ⟨f, fd, fo_room_of B C F , gm, F.kp, b⟩
abbrev s_leaves_left : Stmt := topS 8
abbrev N_leaves_left : List Str := ["high", "rows", "many", "leaf", "missed", "sign", "room"]
theorem sc_leaves_left : FnScope N_leaves_left ["high", "rows"] (defScope s_leaves_left) := ⟨rfl, rfl, rfl, by decide +kernel, rfl, by decide +kernel, by decide +kernel⟩
theorem fo_leaves_left {P : Program} {w : World} {K : PySem.W.Frag} {mg : Str → Option Value} {base : Heap} {f : Addr} {fd : FuncData} (B : Bs mg) (C : Cs K mg) (F : Fun K "leaves_left" "leaves_left" s_leaves_left f fd) (D_leaves : Def P w K mg base 1 "leaves" ["high"] (S_leaves K)) (D_node_at : Def P w K mg base 1 "node_at" ["high", "depth", "leaf"] (S_node_at K)) (D_room_of : Def P w K mg base 1 "room_of" ["node", "side"] (S_room_of K)) :
    FnOk P w K mg base (L2.CX P w) 2 f fd ["high", "rows"] (lift (S_leaves_left K)) := by
  refine fn_ok F sc_leaves_left (fun vs G M R Z h => sp_len2 h) (fun cdv A outer s H E hr => ?_)
  have nd : N_leaves_left.Nodup := sc_leaves_left.nd
  have hu : _ + 64 < cLine := hr.units
  have tk : Takes (cxOf (L2.CX P w) P w K mg base N_leaves_left "leaves_left" (defScope s_leaves_left) f cdv A outer s H E) (fun c d _ H => E c d H) := takes_of rfl rfl rfl rfl
  have po : PassesOwn (model P w) _ _ _ := passes_of (X := cxOf (L2.CX P w) P w K mg base N_leaves_left "leaves_left" (defScope s_leaves_left) f cdv A outer s H E) rfl
  exact ⟨rd_leaves_left K, jss_cons (js_set (i := 2) (je_int) nd) (jss_cons (js_for po rfl (ji_range1 B.range (ja_cons (je_callD D_leaves hr tk (ja_cons (je_var 0) (ja_nil))) (ja_nil))) (jg_name (i := 3) nd) (jss_cons (js_setComp (own := [("sign", 5), ("room", 6)]) (i := 4) rfl nd (sw_true rfl rfl rfl (by decide +kernel)) (ji_list (je_var 1)) (blkOk_by (own := [("sign", 5), ("room", 6)]) (N := N_leaves_left) (sc := defScope s_leaves_left) (by decide +kernel)) (fun _ _ _ _ _ => by exact jg_tup rfl (jgs_cons (jg_name (i := 5) nd) (jgs_cons (jg_name (i := 6) nd) (jgs_nil)))) (fun _ _ _ _ _ => by exact jts_one (jt_cmp (kop_ne hu) (je_callD D_room_of hr takes0 (ja_cons (je_callD D_node_at hr takes0 (ja_cons (je_var 0) (ja_cons (je_ix (je_var 5) (je_int)) (ja_cons (je_var 3) (ja_nil))))) (ja_cons (je_ix (je_var 5) (je_int)) (ja_nil)))) (je_var 6) (nomark _))) (fun _ _ _ _ _ => by exact je_var 6)) (jss_cons (js_set (i := 2) (je_op kop_add (je_var 2) (je_callTy kc_int B.int (ja_cons (je_cmp (kop_eq hu) (je_var 4) (je_lst (ja_nil)) (nomark _)) (ja_nil)))) nd) (jss_nil)))) (jss_cons (js_ret (je_var 2)) (jss_nil))), fun vs G M R Z h => pf_leaves_left h⟩
theorem df_leaves_left {P : Program} {w : World} {K : PySem.W.Frag} {mg : Str → Option Value} {base : Heap} {f : Addr} {fd : FuncData} (B : Bs mg) (C : Cs K mg) (F : Fun K "leaves_left" "leaves_left" s_leaves_left f fd) (b : Binds K fd ["high", "rows"] []) (gm : mg "leaves_left" = some (.ref f)) (D_leaves : Def P w K mg base 1 "leaves" ["high"] (S_leaves K)) (D_node_at : Def P w K mg base 1 "node_at" ["high", "depth", "leaf"] (S_node_at K)) (D_room_of : Def P w K mg base 1 "room_of" ["node", "side"] (S_room_of K)) :
    Def P w K mg base 2 "leaves_left" ["high", "rows"] (S_leaves_left K) := ⟨f, fd, fo_leaves_left B C F D_leaves D_node_at D_room_of, gm, F.kp, b⟩
abbrev s_many_of : Stmt := topS 5
abbrev N_many_of : List Str := ["kind", "many", "number"]
theorem sc_many_of : FnScope N_many_of ["kind"] (defScope s_many_of) := ⟨rfl, rfl, rfl, by decide +kernel, rfl, by decide +kernel, by decide +kernel⟩
theorem fo_many_of {P : Program} {w : World} {K : PySem.W.Frag} {mg : Str → Option Value} {base : Heap} {f : Addr} {fd : FuncData} (B : Bs mg) (C : Cs K mg) (F : Fun K "many_of" "many_of" s_many_of f fd) (D_leaves : Def P w K mg base 1 "leaves" ["high"] (S_leaves K)) :
    FnOk P w K mg base (L2.CX P w) 2 f fd ["kind"] (lift (S_many_of K)) := by
  refine fn_ok F sc_many_of (fun vs G M R Z h => sp_len1 h) (fun cdv A outer s H E hr => ?_)
  have nd : N_many_of.Nodup := sc_many_of.nd
  have hu : _ + 64 < cLine := hr.units
  have tk : Takes (cxOf (L2.CX P w) P w K mg base N_many_of "many_of" (defScope s_many_of) f cdv A outer s H E) (fun c d _ H => E c d H) := takes_of rfl rfl rfl rfl
  have po : PassesOwn (model P w) _ _ _ := passes_of (X := cxOf (L2.CX P w) P w K mg base N_many_of "many_of" (defScope s_many_of) f cdv A outer s H E) rfl
  exact ⟨rd_many_of K, jss_cons (js_if (jt_cmp (kop_eq hu) (je_ix (je_var 0) (je_int)) (je_str) (nomark _)) (jss_cons (js_ret (je_callD D_leaves hr tk (ja_cons (je_ix (je_var 0) (je_int)) (ja_nil)))) (jss_nil)) (jss_nil)) (jss_cons (js_set (i := 1) (je_int) nd) (jss_cons (js_for po rfl (ji_range2 B.range (ja_cons (je_int) (ja_cons (je_op kop_add (je_ix (je_var 0) (je_int)) (je_int)) (ja_nil)))) (jg_name (i := 2) nd) (jss_cons (js_set (i := 1) (je_op kop_mul (je_var 1) (je_var 2)) nd) (jss_nil))) (jss_cons (js_ret (je_var 1)) (jss_nil)))), fun vs G M R Z h => pf_many_of h⟩
theorem df_many_of {P : Program} {w : World} {K : PySem.W.Frag} {mg : Str → Option Value} {base : Heap} {f : Addr} {fd : FuncData} (B : Bs mg) (C : Cs K mg) (F : Fun K "many_of" "many_of" s_many_of f fd) (b : Binds K fd ["kind"] []) (gm : mg "many_of" = some (.ref f)) (D_leaves : Def P w K mg base 1 "leaves" ["high"] (S_leaves K)) :
    Def P w K mg base 2 "many_of" ["kind"] (S_many_of K) := ⟨f, fd, fo_many_of B C F D_leaves, gm, F.kp, b⟩
abbrev s_orders_left : Stmt := topS 9
abbrev N_orders_left : List Str := ["size", "rows", "rooms", "sign", "room"]
theorem sc_orders_left : FnScope N_orders_left ["size", "rows"] (defScope s_orders_left) := ⟨rfl, rfl, rfl, by decide +kernel, rfl, by decide +kernel, by decide +kernel⟩
theorem fo_orders_left {P : Program} {w : World} {K : PySem.W.Frag} {mg : Str → Option Value} {base : Heap} {f : Addr} {fd : FuncData} (B : Bs mg) (C : Cs K mg) (F : Fun K "orders_left" "orders_left" s_orders_left f fd) (D_many_of : Def P w K mg base 2 "many_of" ["kind"] (S_many_of K)) :
    FnOk P w K mg base (L2.CX P w) 3 f fd ["size", "rows"] (lift (S_orders_left K)) := by
  refine fn_ok F sc_orders_left (fun vs G M R Z h => sp_len2 h) (fun cdv A outer s H E hr => ?_)
  have nd : N_orders_left.Nodup := sc_orders_left.nd
  have hu : _ + 64 < cLine := hr.units
  have tk : Takes (cxOf (L2.CX P w) P w K mg base N_orders_left "orders_left" (defScope s_orders_left) f cdv A outer s H E) (fun c d _ H => E c d H) := takes_of rfl rfl rfl rfl
  have po : PassesOwn (model P w) _ _ _ := passes_of (X := cxOf (L2.CX P w) P w K mg base N_orders_left "orders_left" (defScope s_orders_left) f cdv A outer s H E) rfl
  exact ⟨rd_orders_left K, jss_cons (js_set (i := 2) (je_dnew) nd) (jss_cons (js_for po rfl (ji_list (je_var 1)) (jg_tup rfl (jgs_cons (jg_name (i := 3) nd) (jgs_cons (jg_name (i := 4) nd) (jgs_nil)))) (jss_cons (js_if ((jw_or (jt_cmp (kop_ne hu) (je_dsetd (je_var 2) (je_ix (je_var 3) (je_int)) (je_var 4)) (je_var 4) (nomark _)) (jw_or1 (jt_cmp (kop_ge) (je_var 4) (je_var 0) (nomark _)))).jt) (jss_cons (js_ret (je_int)) (jss_nil)) (jss_nil)) (jss_nil))) (jss_cons (js_if (jt_cmp (kop_lt) (je_lenSet B.len B.set (je_listVals B.list (je_var 2))) (je_callB kc_lenD B.len (ja_cons (je_var 2) (ja_nil))) (nomark _)) (jss_cons (js_ret (je_int)) (jss_nil)) (jss_nil)) (jss_cons (js_ret (je_callD D_many_of hr tk (ja_cons (je_tup (ja_cons (je_str) (ja_cons (je_op kop_sub (je_var 0) (je_callB kc_lenD B.len (ja_cons (je_var 2) (ja_nil)))) (ja_nil)))) (ja_nil)))) (jss_nil)))), fun vs G M R Z h => pf_orders_left h⟩
theorem df_orders_left {P : Program} {w : World} {K : PySem.W.Frag} {mg : Str → Option Value} {base : Heap} {f : Addr} {fd : FuncData} (B : Bs mg) (C : Cs K mg) (F : Fun K "orders_left" "orders_left" s_orders_left f fd) (b : Binds K fd ["size", "rows"] []) (gm : mg "orders_left" = some (.ref f)) (D_many_of : Def P w K mg base 2 "many_of" ["kind"] (S_many_of K)) :
    Def P w K mg base 3 "orders_left" ["size", "rows"] (S_orders_left K) := ⟨f, fd, fo_orders_left B C F D_many_of, gm, F.kp, b⟩
abbrev s_comes_of : Stmt := topS 10
abbrev N_comes_of : List Str := ["kinds", "signs", "touches", "rows", "many", "kind", "own"]
theorem sc_comes_of : FnScope N_comes_of ["kinds", "signs", "touches"] (defScope s_comes_of) := ⟨rfl, rfl, rfl, by decide +kernel, rfl, by decide +kernel, by decide +kernel⟩
theorem fo_comes_of {P : Program} {w : World} {K : PySem.W.Frag} {mg : Str → Option Value} {base : Heap} {f : Addr} {fd : FuncData} (B : Bs mg) (C : Cs K mg) (F : Fun K "comes_of" "comes_of" s_comes_of f fd) (D_grouped : Def P w K mg base 1 "grouped" ["kinds", "signs", "touches"] (S_grouped K)) (D_leaves_left : Def P w K mg base 2 "leaves_left" ["high", "rows"] (S_leaves_left K)) (D_orders_left : Def P w K mg base 3 "orders_left" ["size", "rows"] (S_orders_left K)) :
    FnOk P w K mg base (L2.CX P w) 4 f fd ["kinds", "signs", "touches"] (lift (S_comes_of K)) := by
  refine fn_ok F sc_comes_of (fun vs G M R Z h => sp_len3 h) (fun cdv A outer s H E hr => ?_)
  have nd : N_comes_of.Nodup := sc_comes_of.nd
  have hu : _ + 64 < cLine := hr.units
  have tk : Takes (cxOf (L2.CX P w) P w K mg base N_comes_of "comes_of" (defScope s_comes_of) f cdv A outer s H E) (fun c d _ H => E c d H) := takes_of rfl rfl rfl rfl
  have po : PassesOwn (model P w) _ _ _ := passes_of (X := cxOf (L2.CX P w) P w K mg base N_comes_of "comes_of" (defScope s_comes_of) f cdv A outer s H E) rfl
  exact ⟨rd_comes_of K, jss_cons (js_if (jt_cmp (kop_ne hu) (je_callB kc_len B.len (ja_cons (je_var 1) (ja_nil))) (je_callB kc_len B.len (ja_cons (je_var 2) (ja_nil))) (nomark _)) (jss_cons (js_ret (je_int)) (jss_nil)) (jss_nil)) (jss_cons (js_set (i := 3) (je_callD D_grouped hr tk (ja_cons (je_var 0) (ja_cons (je_var 1) (ja_cons (je_var 2) (ja_nil))))) nd) (jss_cons (js_if (jt_cmp (kop_is2) (je_var 3) (je_non) (nomark _)) (jss_cons (js_ret (je_int)) (jss_nil)) (jss_nil)) (jss_cons (js_set (i := 4) (je_int) nd) (jss_cons (js_for po rfl (ji_zip B.zip (ja_cons (je_var 0) (ja_cons (je_var 3) (ja_nil)))) (jg_tup rfl (jgs_cons (jg_name (i := 5) nd) (jgs_cons (jg_name (i := 6) nd) (jgs_nil)))) (jss_cons (js_if (jt_cmp (kop_eq hu) (je_ix (je_var 5) (je_int)) (je_str) (nomark _)) (jss_cons (js_set (i := 4) (je_op kop_mul (je_var 4) (je_callD D_leaves_left hr tk (ja_cons (je_ix (je_var 5) (je_int)) (ja_cons (je_var 6) (ja_nil))))) nd) (jss_nil)) (jss_cons (js_set (i := 4) (je_op kop_mul (je_var 4) (je_callD D_orders_left hr tk (ja_cons (je_ix (je_var 5) (je_int)) (ja_cons (je_var 6) (ja_nil))))) nd) (jss_nil))) (jss_nil))) (jss_cons (js_ret (je_var 4)) (jss_nil)))))), fun vs G M R Z h => pf_comes_of h⟩
theorem df_comes_of {P : Program} {w : World} {K : PySem.W.Frag} {mg : Str → Option Value} {base : Heap} {f : Addr} {fd : FuncData} (B : Bs mg) (C : Cs K mg) (F : Fun K "comes_of" "comes_of" s_comes_of f fd) (b : Binds K fd ["kinds", "signs", "touches"] []) (gm : mg "comes_of" = some (.ref f)) (D_grouped : Def P w K mg base 1 "grouped" ["kinds", "signs", "touches"] (S_grouped K)) (D_leaves_left : Def P w K mg base 2 "leaves_left" ["high", "rows"] (S_leaves_left K)) (D_orders_left : Def P w K mg base 3 "orders_left" ["size", "rows"] (S_orders_left K)) :
    Def P w K mg base 4 "comes_of" ["kinds", "signs", "touches"] (S_comes_of K) := ⟨f, fd, fo_comes_of B C F D_grouped D_leaves_left D_orders_left, gm, F.kp, b⟩
abbrev s_law_right : Stmt := topS 22
abbrev N_law_right : List Str := ["_law_pool_here", "_law_kinds", "_law_k", "_law_signs", "_law_rows", "_law_seen_here", "_law_draws", "_law_touches", "_law_handed", "_law_due", "_law_one", "_law_turn", "_law_found"]
theorem sc_law_right : FnScope N_law_right ["_law_pool_here"] (defScope s_law_right) := ⟨rfl, rfl, rfl, by decide +kernel, rfl, by decide +kernel, by decide +kernel⟩
theorem fo_law_right {P : Program} {w : World} {K : PySem.W.Frag} {mg : Str → Option Value} {base : Heap} {f : Addr} {fd : FuncData} (B : Bs mg) (C : Cs K mg) (F : Fun K "_law_right" "_law_right" s_law_right f fd) (D_law_take : Def P w K mg base 1 "_law_take" ["_law_pool_here", "_law_many"] (S_law_take K)) (D_law_kind : Def P w K mg base 2 "_law_kind" ["_law_pool_here"] (S_law_kind K)) (D_law_sign : Def P w K mg base 2 "_law_sign" ["_law_pool_here", "_law_kinds"] (S_law_sign K)) (D_law_all : Def P w K mg base 2 "_law_all" ["_law_kinds"] (S_law_all K)) (D_law_seen : Def P w K mg base 3 "_law_seen" ["_law_kinds", "_law_signs", "_law_draws"] (S_law_seen K)) (D_law_bent : Def P w K mg base 2 "_law_bent" ["_law_pool_here", "_law_touches", "_law_other"] (S_law_bent K)) (D_comes_of : Def P w K mg base 4 "comes_of" ["kinds", "signs", "touches"] (S_comes_of K)) :
    FnOk P w K mg base (L2.CX P w) 5 f fd ["_law_pool_here"] (lift (S_law_right K)) := by
  refine fn_ok F sc_law_right (fun vs G M R Z h => sp_len1 h) (fun cdv A outer s H E hr => ?_)
  have nd : N_law_right.Nodup := sc_law_right.nd
  have hu : _ + 64 < cLine := hr.units
  have tk : Takes (cxOf (L2.CX P w) P w K mg base N_law_right "_law_right" (defScope s_law_right) f cdv A outer s H E) (fun c d _ H => E c d H) := takes_of rfl rfl rfl rfl
  have po : PassesOwn (model P w) _ _ _ := passes_of (X := cxOf (L2.CX P w) P w K mg base N_law_right "_law_right" (defScope s_law_right) f cdv A outer s H E) rfl
  exact ⟨rd_law_right K, jss_cons (js_set (i := 1) (je_comp (own := [("_law_k", 2)]) rfl nd (ji_range1 B.range (ja_cons (je_op kop_add (je_int) (je_callD D_law_take hr tk (ja_cons (je_var 0) (ja_cons (je_int) (ja_nil))))) (ja_nil))) (blkOk_by (own := [("_law_k", 2)]) (N := N_law_right) (sc := defScope s_law_right) (by decide +kernel)) (fun _ _ _ _ _ => by exact jg_name (i := 2) nd) (fun _ _ _ _ _ => by exact jts_nil) (fun _ _ _ _ _ => by exact je_callD D_law_kind hr takes0 (ja_cons (je_var 0) (ja_nil)))) nd) (jss_cons (js_set (i := 3) (je_comp (own := [("_law_k", 2)]) rfl nd (ji_range1 B.range (ja_cons (je_callD D_law_take hr tk (ja_cons (je_var 0) (ja_cons (je_int) (ja_nil)))) (ja_nil))) (blkOk_by (own := [("_law_k", 2)]) (N := N_law_right) (sc := defScope s_law_right) (by decide +kernel)) (fun _ _ _ _ _ => by exact jg_name (i := 2) nd) (fun _ _ _ _ _ => by exact jts_nil) (fun _ _ _ _ _ => by exact je_callD D_law_sign hr takes0 (ja_cons (je_var 0) (ja_cons (je_var 1) (ja_nil))))) nd) (jss_cons (js_set (i := 4) (je_callD D_law_all hr tk (ja_cons (je_var 1) (ja_nil))) nd) (jss_cons (js_setComp (own := [("_law_draws", 6)]) (i := 5) rfl nd (sw_true rfl rfl rfl (by decide +kernel)) (ji_list (je_var 4)) (blkOk_by (own := [("_law_draws", 6)]) (N := N_law_right) (sc := defScope s_law_right) (by decide +kernel)) (fun _ _ _ _ _ => by exact jg_name (i := 6) nd) (fun _ _ _ _ _ => by exact jts_nil) (fun _ _ _ _ _ => by exact je_callD D_law_seen hr takes0 (ja_cons (je_var 1) (ja_cons (je_var 3) (ja_cons (je_var 6) (ja_nil)))))) (jss_cons (js_set (i := 7) (je_callD D_law_bent hr tk (ja_cons (je_var 0) (ja_cons (je_ix (je_var 5) (je_callD D_law_take hr tk (ja_cons (je_var 0) (ja_cons (je_callB kc_len B.len (ja_cons (je_var 4) (ja_nil))) (ja_nil))))) (ja_cons (je_ix (je_var 5) (je_callD D_law_take hr tk (ja_cons (je_var 0) (ja_cons (je_callB kc_len B.len (ja_cons (je_var 4) (ja_nil))) (ja_nil))))) (ja_nil))))) nd) (jss_cons (js_set (i := 8) (je_lst (ja_cons (je_callTy kc_list B.list (ja_cons (je_var 1) (ja_nil))) (ja_cons (je_callTy kc_list B.list (ja_cons (je_var 3) (ja_nil))) (ja_cons (je_callTy kc_list B.list (ja_cons (je_var 7) (ja_nil))) (ja_nil))))) nd) (jss_cons (js_set (i := 9) (je_callB kc_len B.len (ja_cons (je_comp (own := [("_law_one", 10)]) rfl nd (ji_list (je_var 5)) (blkOk_by (own := [("_law_one", 10)]) (N := N_law_right) (sc := defScope s_law_right) (by decide +kernel)) (fun _ _ _ _ _ => by exact jg_name (i := 10) nd) (fun _ _ _ _ _ => by exact jts_one (jt_cmp (kop_eq hu) (je_var 10) (je_var 7) (nomark _))) (fun _ _ _ _ _ => by exact je_var 10)) (ja_nil))) nd) (jss_cons (js_for po rfl (ji_range1 B.range (ja_cons (je_int) (ja_nil))) (jg_name (i := 11) nd) (jss_cons (js_set (i := 12) (je_callD D_comes_of hr tk (ja_cons (je_ix (je_var 8) (je_int)) (ja_cons (je_ix (je_var 8) (je_int)) (ja_cons (je_ix (je_var 8) (je_int)) (ja_nil))))) nd) (jss_cons (js_if ((jw_or (jt_not (jt_val (je_callB kc_isi B.isinstance (ja_cons (je_var 12) (ja_cons (je_ty B.int) (ja_nil)))))) (jw_or (jt_val (je_callB kc_isi B.isinstance (ja_cons (je_var 12) (ja_cons (je_ty B.bool) (ja_nil))))) (jw_or1 (jt_cmp (kop_ne hu) (je_var 12) (je_var 9) (nomark _))))).jt) (jss_cons (js_ret (je_bl)) (jss_nil)) (jss_nil)) (jss_nil)))) (jss_cons (js_ret (je_cmp (kop_eq hu) (je_var 8) (je_lst (ja_cons (je_var 1) (ja_cons (je_var 3) (ja_cons (je_var 7) (ja_nil))))) (nomark _))) (jss_nil))))))))), fun vs G M R Z h => pf_law_right h⟩
theorem df_law_right {P : Program} {w : World} {K : PySem.W.Frag} {mg : Str → Option Value} {base : Heap} {f : Addr} {fd : FuncData} (B : Bs mg) (C : Cs K mg) (F : Fun K "_law_right" "_law_right" s_law_right f fd) (b : Binds K fd ["_law_pool_here"] []) (gm : mg "_law_right" = some (.ref f)) (D_law_take : Def P w K mg base 1 "_law_take" ["_law_pool_here", "_law_many"] (S_law_take K)) (D_law_kind : Def P w K mg base 2 "_law_kind" ["_law_pool_here"] (S_law_kind K)) (D_law_sign : Def P w K mg base 2 "_law_sign" ["_law_pool_here", "_law_kinds"] (S_law_sign K)) (D_law_all : Def P w K mg base 2 "_law_all" ["_law_kinds"] (S_law_all K)) (D_law_seen : Def P w K mg base 3 "_law_seen" ["_law_kinds", "_law_signs", "_law_draws"] (S_law_seen K)) (D_law_bent : Def P w K mg base 2 "_law_bent" ["_law_pool_here", "_law_touches", "_law_other"] (S_law_bent K)) (D_comes_of : Def P w K mg base 4 "comes_of" ["kinds", "signs", "touches"] (S_comes_of K)) :
    Def P w K mg base 5 "_law_right" ["_law_pool_here"] (S_law_right K) := ⟨f, fd, fo_law_right B C F D_law_take D_law_kind D_law_sign D_law_all D_law_seen D_law_bent D_comes_of, gm, F.kp, b⟩
abbrev s_law_great_kind : Stmt := topS 23
abbrev N_law_great_kind : List Str := ["_law_pool_here"]
theorem sc_law_great_kind : FnScope N_law_great_kind ["_law_pool_here"] (defScope s_law_great_kind) := ⟨rfl, rfl, rfl, by decide +kernel, rfl, by decide +kernel, by decide +kernel⟩
theorem fo_law_great_kind {P : Program} {w : World} {K : PySem.W.Frag} {mg : Str → Option Value} {base : Heap} {f : Addr} {fd : FuncData} (B : Bs mg) (C : Cs K mg) (F : Fun K "_law_great_kind" "_law_great_kind" s_law_great_kind f fd) (D_law_take : Def P w K mg base 1 "_law_take" ["_law_pool_here", "_law_many"] (S_law_take K)) :
    FnOk P w K mg base (L2.CX P w) 2 f fd ["_law_pool_here"] (lift (S_law_great_kind K)) := by
  refine fn_ok F sc_law_great_kind (fun vs G M R Z h => sp_len1 h) (fun cdv A outer s H E hr => ?_)
  have nd : N_law_great_kind.Nodup := sc_law_great_kind.nd
  have hu : _ + 64 < cLine := hr.units
  have tk : Takes (cxOf (L2.CX P w) P w K mg base N_law_great_kind "_law_great_kind" (defScope s_law_great_kind) f cdv A outer s H E) (fun c d _ H => E c d H) := takes_of rfl rfl rfl rfl
  have po : PassesOwn (model P w) _ _ _ := passes_of (X := cxOf (L2.CX P w) P w K mg base N_law_great_kind "_law_great_kind" (defScope s_law_great_kind) f cdv A outer s H E) rfl
  exact ⟨rd_law_great_kind K, jss_cons (js_if (jt_cmp (kop_eq hu) (je_callD D_law_take hr tk (ja_cons (je_var 0) (ja_cons (je_int) (ja_nil)))) (je_int) (nomark _)) (jss_cons (js_ret (je_tup (ja_cons (je_str) (ja_cons (je_callD D_law_take hr tk (ja_cons (je_var 0) (ja_cons (je_int) (ja_nil)))) (ja_nil))))) (jss_nil)) (jss_nil)) (jss_cons (js_ret (je_tup (ja_cons (je_str) (ja_cons (je_op kop_add (je_int) (je_callD D_law_take hr tk (ja_cons (je_var 0) (ja_cons (je_int) (ja_nil))))) (ja_nil))))) (jss_nil)), fun vs G M R Z h => pf_law_great_kind h⟩
theorem df_law_great_kind {P : Program} {w : World} {K : PySem.W.Frag} {mg : Str → Option Value} {base : Heap} {f : Addr} {fd : FuncData} (B : Bs mg) (C : Cs K mg) (F : Fun K "_law_great_kind" "_law_great_kind" s_law_great_kind f fd) (b : Binds K fd ["_law_pool_here"] []) (gm : mg "_law_great_kind" = some (.ref f)) (D_law_take : Def P w K mg base 1 "_law_take" ["_law_pool_here", "_law_many"] (S_law_take K)) :
    Def P w K mg base 2 "_law_great_kind" ["_law_pool_here"] (S_law_great_kind K) := ⟨f, fd, fo_law_great_kind B C F D_law_take, gm, F.kp, b⟩
abbrev s_law_great_draw : Stmt := topS 24
abbrev N_law_great_draw : List Str := ["_law_pool_here", "_law_kind_here", "_law_k"]
theorem sc_law_great_draw : FnScope N_law_great_draw ["_law_pool_here", "_law_kind_here"] (defScope s_law_great_draw) := ⟨rfl, rfl, rfl, by decide +kernel, rfl, by decide +kernel, by decide +kernel⟩
theorem fo_law_great_draw {P : Program} {w : World} {K : PySem.W.Frag} {mg : Str → Option Value} {base : Heap} {f : Addr} {fd : FuncData} (B : Bs mg) (C : Cs K mg) (F : Fun K "_law_great_draw" "_law_great_draw" s_law_great_draw f fd) (D_law_take : Def P w K mg base 1 "_law_take" ["_law_pool_here", "_law_many"] (S_law_take K)) :
    FnOk P w K mg base (L2.CX P w) 2 f fd ["_law_pool_here", "_law_kind_here"] (lift (S_law_great_draw K)) := by
  refine fn_ok F sc_law_great_draw (fun vs G M R Z h => sp_len2 h) (fun cdv A outer s H E hr => ?_)
  have nd : N_law_great_draw.Nodup := sc_law_great_draw.nd
  have hu : _ + 64 < cLine := hr.units
  have tk : Takes (cxOf (L2.CX P w) P w K mg base N_law_great_draw "_law_great_draw" (defScope s_law_great_draw) f cdv A outer s H E) (fun c d _ H => E c d H) := takes_of rfl rfl rfl rfl
  have po : PassesOwn (model P w) _ _ _ := passes_of (X := cxOf (L2.CX P w) P w K mg base N_law_great_draw "_law_great_draw" (defScope s_law_great_draw) f cdv A outer s H E) rfl
  exact ⟨rd_law_great_draw K, jss_cons (js_if (jt_cmp (kop_eq hu) (je_ix (je_var 1) (je_int)) (je_str) (nomark _)) (jss_cons (js_ret (je_callD D_law_take hr tk (ja_cons (je_var 0) (ja_cons (je_op kop_shl (je_int) (je_ix (je_var 1) (je_int))) (ja_nil))))) (jss_nil)) (jss_nil)) (jss_cons (js_ret (je_comp (own := [("_law_k", 2)]) rfl nd (ji_range1 B.range (ja_cons (je_ix (je_var 1) (je_int)) (ja_nil))) (blkOk_by (own := [("_law_k", 2)]) (N := N_law_great_draw) (sc := defScope s_law_great_draw) (by decide +kernel)) (fun _ _ _ _ _ => by exact jg_name (i := 2) nd) (fun _ _ _ _ _ => by exact jts_nil) (fun _ _ _ _ _ => by exact je_callD D_law_take hr takes0 (ja_cons (je_var 0) (ja_cons (je_op kop_add (je_var 2) (je_int)) (ja_nil)))))) (jss_nil)), fun vs G M R Z h => pf_law_great_draw h⟩
theorem df_law_great_draw {P : Program} {w : World} {K : PySem.W.Frag} {mg : Str → Option Value} {base : Heap} {f : Addr} {fd : FuncData} (B : Bs mg) (C : Cs K mg) (F : Fun K "_law_great_draw" "_law_great_draw" s_law_great_draw f fd) (b : Binds K fd ["_law_pool_here", "_law_kind_here"] []) (gm : mg "_law_great_draw" = some (.ref f)) (D_law_take : Def P w K mg base 1 "_law_take" ["_law_pool_here", "_law_many"] (S_law_take K)) :
    Def P w K mg base 2 "_law_great_draw" ["_law_pool_here", "_law_kind_here"] (S_law_great_draw K) := ⟨f, fd, fo_law_great_draw B C F D_law_take, gm, F.kp, b⟩
abbrev s_law_fit : Stmt := topS 25
abbrev N_law_fit : List Str := ["_law_kinds", "_law_at", "_law_signs", "_law_touches", "_law_kind_here", "_law_pairs", "_law_sign_here", "_law_touch_here", "_law_draws", "_law_leaf", "_law_one", "_law_rooms", "_law_found", "_law_left"]
theorem sc_law_fit : FnScope N_law_fit ["_law_kinds", "_law_at", "_law_signs", "_law_touches"] (defScope s_law_fit) := ⟨rfl, rfl, rfl, by decide +kernel, rfl, by decide +kernel, by decide +kernel⟩
theorem fo_law_fit {P : Program} {w : World} {K : PySem.W.Frag} {mg : Str → Option Value} {base : Heap} {f : Addr} {fd : FuncData} (B : Bs mg) (C : Cs K mg) (F : Fun K "_law_fit" "_law_fit" s_law_fit f fd) (D_law_touch : Def P w K mg base 2 "_law_touch" ["_law_kinds", "_law_sign_here", "_law_draws"] (S_law_touch K)) :
    FnOk P w K mg base (L2.CX P w) 3 f fd ["_law_kinds", "_law_at", "_law_signs", "_law_touches"] (lift (S_law_fit K)) := by
  refine fn_ok F sc_law_fit (fun vs G M R Z h => sp_len4 h) (fun cdv A outer s H E hr => ?_)
  have nd : N_law_fit.Nodup := sc_law_fit.nd
  have hu : _ + 64 < cLine := hr.units
  have tk : Takes (cxOf (L2.CX P w) P w K mg base N_law_fit "_law_fit" (defScope s_law_fit) f cdv A outer s H E) (fun c d _ H => E c d H) := takes_of rfl rfl rfl rfl
  have po : PassesOwn (model P w) _ _ _ := passes_of (X := cxOf (L2.CX P w) P w K mg base N_law_fit "_law_fit" (defScope s_law_fit) f cdv A outer s H E) rfl
  exact ⟨rd_law_fit K, jss_cons (js_set (i := 4) (je_ix (je_var 0) (je_var 1)) nd) (jss_cons (js_set (i := 5) (je_lst (ja_nil)) nd) (jss_cons (js_for po rfl (ji_zip B.zip (ja_cons (je_var 2) (ja_cons (je_var 3) (ja_nil)))) (jg_tup rfl (jgs_cons (jg_name (i := 6) nd) (jgs_cons (jg_name (i := 7) nd) (jgs_nil)))) (jss_cons (js_if ((jw_and (jt_cmp (kop_ne hu) (je_ix (je_var 6) (je_int)) (je_str) (nomark _)) (jw_and1 (jt_cmp (kop_eq hu) (je_ix (je_var 6) (je_int)) (je_var 1) (nomark _)))).jt) (jss_cons (js_expr (je_bm PySem.F.plainAttrs_list PySem.F.slot_list_append PySem.F.type_list_append km_append (je_var 5) (ja_cons (je_tup (ja_cons (je_var 6) (ja_cons (je_var 7) (ja_nil)))) (ja_nil)))) (jss_nil)) (jss_nil)) (jss_nil))) (jss_cons (js_if (jt_cmp (kop_eq hu) (je_ix (je_var 4) (je_int)) (je_str) (nomark _)) (jss_cons (js_setComp (own := [("_law_leaf", 9)]) (i := 8) rfl nd (sw_true rfl rfl rfl (by decide +kernel)) (ji_range1 B.range (ja_cons (je_op kop_shl (je_int) (je_ix (je_var 4) (je_int))) (ja_nil))) (blkOk_by (own := [("_law_leaf", 9)]) (N := N_law_fit) (sc := defScope s_law_fit) (by decide +kernel)) (fun _ _ _ _ _ => by exact jg_name (i := 9) nd) (fun _ _ _ _ _ => by exact jts_nil) (fun _ _ _ _ _ => by exact je_op kop_add (je_op kop_mul (je_lst (ja_cons (je_int) (ja_nil))) (je_var 1)) (je_lst (ja_cons (je_var 9) (ja_nil))))) (jss_cons (js_ret (je_callB kc_len B.len (ja_cons (je_comp (own := [("_law_one", 10)]) rfl nd (ji_list (je_var 8)) (blkOk_by (own := [("_law_one", 10)]) (N := N_law_fit) (sc := defScope s_law_fit) (by decide +kernel)) (fun _ _ _ _ _ => by exact jg_name (i := 10) nd) (fun _ _ _ _ _ => by exact jts_one (jt_val (je_callB kc_all B.all (ja_cons (je_comp (own := [("_law_sign_here", 6), ("_law_touch_here", 7)]) rfl nd (ji_list (je_var 5)) (blkOk_by (own := [("_law_sign_here", 6), ("_law_touch_here", 7)]) (by kernel_rfl)) (fun _ _ _ _ _ => by exact jg_tup rfl (jgs_cons (jg_name (i := 6) nd) (jgs_cons (jg_name (i := 7) nd) (jgs_nil)))) (fun _ _ _ _ _ => by exact jts_nil) (fun _ _ _ _ _ => by exact je_cmp (kop_eq hu) (je_callD D_law_touch hr takes0 (ja_cons (je_var 0) (ja_cons (je_var 6) (ja_cons (je_var 10) (ja_nil))))) (je_var 7) (nomark _))) (ja_nil))))) (fun _ _ _ _ _ => by exact je_var 10)) (ja_nil)))) (jss_nil))) (jss_nil)) (jss_cons (js_set (i := 11) (je_dnew) nd) (jss_cons (js_for po rfl (ji_list (je_var 5)) (jg_tup rfl (jgs_cons (jg_name (i := 6) nd) (jgs_cons (jg_name (i := 7) nd) (jgs_nil)))) (jss_cons (js_if ((jw_or (jt_cmp (kop_ne hu) (je_dget2 hu (je_var 11) (je_ix (je_var 6) (je_int)) (je_ix (je_var 7) (je_int))) (je_ix (je_var 7) (je_int)) (nomark _)) (jw_or (jt_not (jt_cmp (kop_lt) (je_ix (je_var 7) (je_int)) (je_ix (je_var 4) (je_int)) (nomark _))) (jw_or1 (jt_cmp (kop_ne hu) (je_slT (je_var 7) (jo_none) (jo_some (je_int))) (je_slT (je_var 6) (jo_some (je_int)) (jo_some (je_int))) (nomark _))))).jt) (jss_cons (js_ret (je_int)) (jss_nil)) (jss_nil)) (jss_cons (js_dset hu (je_var 11) (je_ix (je_var 6) (je_int)) (je_ix (je_var 7) (je_int))) (jss_nil)))) (jss_cons (js_if (jt_cmp (kop_ne hu) (je_lenSet B.len B.set (je_listVals B.list (je_var 11))) (je_callB kc_lenD B.len (ja_cons (je_var 11) (ja_nil))) (nomark _)) (jss_cons (js_ret (je_int)) (jss_nil)) (jss_nil)) (jss_cons (js_set (i := 12) (je_int) nd) (jss_cons (js_for po rfl (ji_range2 B.range (ja_cons (je_int) (ja_cons (je_op kop_add (je_op kop_sub (je_ix (je_var 4) (je_int)) (je_callB kc_lenD B.len (ja_cons (je_var 11) (ja_nil)))) (je_int)) (ja_nil)))) (jg_name (i := 13) nd) (jss_cons (js_set (i := 12) (je_op kop_mul (je_var 12) (je_var 13)) nd) (jss_nil))) (jss_cons (js_ret (je_var 12)) (jss_nil)))))))))), fun vs G M R Z h => pf_law_fit h⟩
theorem df_law_fit {P : Program} {w : World} {K : PySem.W.Frag} {mg : Str → Option Value} {base : Heap} {f : Addr} {fd : FuncData} (B : Bs mg) (C : Cs K mg) (F : Fun K "_law_fit" "_law_fit" s_law_fit f fd) (b : Binds K fd ["_law_kinds", "_law_at", "_law_signs", "_law_touches"] []) (gm : mg "_law_fit" = some (.ref f)) (D_law_touch : Def P w K mg base 2 "_law_touch" ["_law_kinds", "_law_sign_here", "_law_draws"] (S_law_touch K)) :
    Def P w K mg base 3 "_law_fit" ["_law_kinds", "_law_at", "_law_signs", "_law_touches"] (S_law_fit K) := ⟨f, fd, fo_law_fit B C F D_law_touch, gm, F.kp, b⟩
abbrev s_law_great : Stmt := topS 26
abbrev N_law_great : List Str := ["_law_pool_here", "_law_kinds", "_law_k", "_law_signs", "_law_rows", "_law_turn", "_law_kind_here", "_law_touches", "_law_due", "_law_sign_here", "_law_touch_here", "_law_at", "_law_found"]
theorem sc_law_great : FnScope N_law_great ["_law_pool_here"] (defScope s_law_great) := ⟨rfl, rfl, rfl, by decide +kernel, rfl, by decide +kernel, by decide +kernel⟩
theorem fo_law_great {P : Program} {w : World} {K : PySem.W.Frag} {mg : Str → Option Value} {base : Heap} {f : Addr} {fd : FuncData} (B : Bs mg) (C : Cs K mg) (F : Fun K "_law_great" "_law_great" s_law_great f fd) (D_law_take : Def P w K mg base 1 "_law_take" ["_law_pool_here", "_law_many"] (S_law_take K)) (D_law_great_kind : Def P w K mg base 2 "_law_great_kind" ["_law_pool_here"] (S_law_great_kind K)) (D_law_sign : Def P w K mg base 2 "_law_sign" ["_law_pool_here", "_law_kinds"] (S_law_sign K)) (D_law_great_draw : Def P w K mg base 2 "_law_great_draw" ["_law_pool_here", "_law_kind_here"] (S_law_great_draw K)) (D_law_seen : Def P w K mg base 3 "_law_seen" ["_law_kinds", "_law_signs", "_law_draws"] (S_law_seen K)) (D_law_bent : Def P w K mg base 2 "_law_bent" ["_law_pool_here", "_law_touches", "_law_other"] (S_law_bent K)) (D_law_fit : Def P w K mg base 3 "_law_fit" ["_law_kinds", "_law_at", "_law_signs", "_law_touches"] (S_law_fit K)) (D_comes_of : Def P w K mg base 4 "comes_of" ["kinds", "signs", "touches"] (S_comes_of K)) :
    FnOk P w K mg base (L2.CX P w) 5 f fd ["_law_pool_here"] (lift (S_law_great K)) := by
  refine fn_ok F sc_law_great (fun vs G M R Z h => sp_len1 h) (fun cdv A outer s H E hr => ?_)
  have nd : N_law_great.Nodup := sc_law_great.nd
  have hu : _ + 64 < cLine := hr.units
  have tk : Takes (cxOf (L2.CX P w) P w K mg base N_law_great "_law_great" (defScope s_law_great) f cdv A outer s H E) (fun c d _ H => E c d H) := takes_of rfl rfl rfl rfl
  have po : PassesOwn (model P w) _ _ _ := passes_of (X := cxOf (L2.CX P w) P w K mg base N_law_great "_law_great" (defScope s_law_great) f cdv A outer s H E) rfl
  exact ⟨rd_law_great K, jss_cons (js_set (i := 1) (je_comp (own := [("_law_k", 2)]) rfl nd (ji_range1 B.range (ja_cons (je_op kop_add (je_int) (je_callD D_law_take hr tk (ja_cons (je_var 0) (ja_cons (je_int) (ja_nil))))) (ja_nil))) (blkOk_by (own := [("_law_k", 2)]) (N := N_law_great) (sc := defScope s_law_great) (by decide +kernel)) (fun _ _ _ _ _ => by exact jg_name (i := 2) nd) (fun _ _ _ _ _ => by exact jts_nil) (fun _ _ _ _ _ => by exact je_callD D_law_great_kind hr takes0 (ja_cons (je_var 0) (ja_nil)))) nd) (jss_cons (js_setComp (own := [("_law_k", 2)]) (i := 3) rfl nd (sw_true rfl rfl rfl (by decide +kernel)) (ji_range1 B.range (ja_cons (je_callD D_law_take hr tk (ja_cons (je_var 0) (ja_cons (je_int) (ja_nil)))) (ja_nil))) (blkOk_by (own := [("_law_k", 2)]) (N := N_law_great) (sc := defScope s_law_great) (by decide +kernel)) (fun _ _ _ _ _ => by exact jg_name (i := 2) nd) (fun _ _ _ _ _ => by exact jts_nil) (fun _ _ _ _ _ => by exact je_callD D_law_sign hr takes0 (ja_cons (je_var 0) (ja_cons (je_var 1) (ja_nil))))) (jss_cons (js_setComp (own := [("_law_turn", 5)]) (i := 4) rfl nd (sw_true rfl rfl rfl (by decide +kernel)) (ji_range1 B.range (ja_cons (je_int) (ja_nil))) (blkOk_by (own := [("_law_turn", 5)]) (N := N_law_great) (sc := defScope s_law_great) (by decide +kernel)) (fun _ _ _ _ _ => by exact jg_name (i := 5) nd) (fun _ _ _ _ _ => by exact jts_nil) (fun _ _ _ _ _ => by exact je_comp (own := [("_law_kind_here", 6)]) rfl nd (ji_list (je_var 1)) (blkOk_by (own := [("_law_kind_here", 6)]) (by kernel_rfl)) (fun _ _ _ _ _ => by exact jg_name (i := 6) nd) (fun _ _ _ _ _ => by exact jts_nil) (fun _ _ _ _ _ => by exact je_callD D_law_great_draw hr takes0 (ja_cons (je_var 0) (ja_cons (je_var 6) (ja_nil)))))) (jss_cons (js_set (i := 7) (je_callD D_law_bent hr tk (ja_cons (je_var 0) (ja_cons (je_callD D_law_seen hr tk (ja_cons (je_var 1) (ja_cons (je_var 3) (ja_cons (je_ix (je_var 4) (je_int)) (ja_nil))))) (ja_cons (je_callD D_law_seen hr tk (ja_cons (je_var 1) (ja_cons (je_var 3) (ja_cons (je_ix (je_var 4) (je_int)) (ja_nil))))) (ja_nil))))) nd) (jss_cons (js_set (i := 8) (je_callTy kc_int B.int (ja_cons (je_cmp (kop_eq hu) (je_callB kc_len B.len (ja_cons (je_var 7) (ja_nil))) (je_callB kc_len B.len (ja_cons (je_var 3) (ja_nil))) (nomark _)) (ja_nil))) nd) (jss_cons (js_for po rfl (ji_zip B.zip (ja_cons (je_var 3) (ja_cons (je_var 7) (ja_nil)))) (jg_tup rfl (jgs_cons (jg_name (i := 9) nd) (jgs_cons (jg_name (i := 10) nd) (jgs_nil)))) (jss_cons (js_if ((jw_and (jt_cmp (kop_eq hu) (je_ix (je_var 9) (je_int)) (je_str) (nomark _)) (jw_and1 (jt_cmp (kop_ne hu) (je_slT (je_var 9) (jo_some (je_int)) (jo_none)) (je_var 10) (nomark _)))).jt) (jss_cons (js_set (i := 8) (je_int) nd) (jss_nil)) (jss_nil)) (jss_nil))) (jss_cons (js_for po rfl (ji_range1 B.range (ja_cons (je_callB kc_len B.len (ja_cons (je_var 1) (ja_nil))) (ja_nil))) (jg_name (i := 11) nd) (jss_cons (js_set (i := 8) (je_op kop_mul (je_var 8) (je_callD D_law_fit hr tk (ja_cons (je_var 1) (ja_cons (je_var 11) (ja_cons (je_var 3) (ja_cons (je_var 7) (ja_nil))))))) nd) (jss_nil))) (jss_cons (js_set (i := 12) (je_callD D_comes_of hr tk (ja_cons (je_var 1) (ja_cons (je_var 3) (ja_cons (je_var 7) (ja_nil))))) nd) (jss_cons (js_ret (je_and (je_callB kc_isi B.isinstance (ja_cons (je_var 12) (ja_cons (je_ty B.int) (ja_nil)))) (je_and (je_not (je_callB kc_isi B.isinstance (ja_cons (je_var 12) (ja_cons (je_ty B.bool) (ja_nil))))) (je_one (je_cmp (kop_eq hu) (je_var 12) (je_var 8) (nomark _)))))) (jss_nil))))))))), fun vs G M R Z h => pf_law_great h⟩
theorem df_law_great {P : Program} {w : World} {K : PySem.W.Frag} {mg : Str → Option Value} {base : Heap} {f : Addr} {fd : FuncData} (B : Bs mg) (C : Cs K mg) (F : Fun K "_law_great" "_law_great" s_law_great f fd) (b : Binds K fd ["_law_pool_here"] []) (gm : mg "_law_great" = some (.ref f)) (D_law_take : Def P w K mg base 1 "_law_take" ["_law_pool_here", "_law_many"] (S_law_take K)) (D_law_great_kind : Def P w K mg base 2 "_law_great_kind" ["_law_pool_here"] (S_law_great_kind K)) (D_law_sign : Def P w K mg base 2 "_law_sign" ["_law_pool_here", "_law_kinds"] (S_law_sign K)) (D_law_great_draw : Def P w K mg base 2 "_law_great_draw" ["_law_pool_here", "_law_kind_here"] (S_law_great_draw K)) (D_law_seen : Def P w K mg base 3 "_law_seen" ["_law_kinds", "_law_signs", "_law_draws"] (S_law_seen K)) (D_law_bent : Def P w K mg base 2 "_law_bent" ["_law_pool_here", "_law_touches", "_law_other"] (S_law_bent K)) (D_law_fit : Def P w K mg base 3 "_law_fit" ["_law_kinds", "_law_at", "_law_signs", "_law_touches"] (S_law_fit K)) (D_comes_of : Def P w K mg base 4 "comes_of" ["kinds", "signs", "touches"] (S_comes_of K)) :
    Def P w K mg base 5 "_law_great" ["_law_pool_here"] (S_law_great K) := ⟨f, fd, fo_law_great B C F D_law_take D_law_great_kind D_law_sign D_law_great_draw D_law_seen D_law_bent D_law_fit D_comes_of, gm, F.kp, b⟩
abbrev s_law : Stmt := topS 27
abbrev N_law : List Str := ["_law_script", "_law_k"]
theorem sc_law : FnScope N_law ["_law_script"] (defScope s_law) := ⟨rfl, rfl, rfl, by decide +kernel, rfl, by decide +kernel, by decide +kernel⟩
theorem fo_law {P : Program} {w : World} {K : PySem.W.Frag} {mg : Str → Option Value} {base : Heap} {f : Addr} {fd : FuncData} (B : Bs mg) (C : Cs K mg) (F : Fun K "law" "law" s_law f fd) (D_law_pool : Def P w K mg base 1 "_law_pool" ["_law_script", "_law_k"] (S_law_pool K)) (D_law_right : Def P w K mg base 5 "_law_right" ["_law_pool_here"] (S_law_right K)) (D_law_great : Def P w K mg base 5 "_law_great" ["_law_pool_here"] (S_law_great K)) :
    FnOk P w K mg base (L2.CX P w) 6 f fd ["_law_script"] (lift (S_law K)) := by
  refine fn_ok F sc_law (fun vs G M R Z h => sp_len1 h) (fun cdv A outer s H E hr => ?_)
  have nd : N_law.Nodup := sc_law.nd
  have hu : _ + 64 < cLine := hr.units
  have tk : Takes (cxOf (L2.CX P w) P w K mg base N_law "law" (defScope s_law) f cdv A outer s H E) (fun c d _ H => E c d H) := takes_of rfl rfl rfl rfl
  have po : PassesOwn (model P w) _ _ _ := passes_of (X := cxOf (L2.CX P w) P w K mg base N_law "law" (defScope s_law) f cdv A outer s H E) rfl
  exact ⟨rd_law K, jss_cons (js_for po rfl (ji_range1 B.range (ja_cons (je_op kop_add (je_callB kc_min2 B.min (ja_cons (je_callB kc_len B.len (ja_cons (je_var 0) (ja_nil))) (ja_cons (je_int) (ja_nil)))) (je_int)) (ja_nil))) (jg_name (i := 1) nd) (jss_cons (js_if ((jw_or (jt_not (jt_val (je_callD D_law_right hr tk (ja_cons (je_callD D_law_pool hr tk (ja_cons (je_var 0) (ja_cons (je_var 1) (ja_nil)))) (ja_nil))))) (jw_or1 (jt_not (jt_val (je_callD D_law_great hr tk (ja_cons (je_callD D_law_pool hr tk (ja_cons (je_var 0) (ja_cons (je_var 1) (ja_nil)))) (ja_nil))))))).jt) (jss_cons (js_ret (je_bl)) (jss_nil)) (jss_nil)) (jss_nil))) (jss_cons (js_ret (je_bl)) (jss_nil)), fun vs G M R Z h => pf_law h⟩
theorem df_law {P : Program} {w : World} {K : PySem.W.Frag} {mg : Str → Option Value} {base : Heap} {f : Addr} {fd : FuncData} (B : Bs mg) (C : Cs K mg) (F : Fun K "law" "law" s_law f fd) (b : Binds K fd ["_law_script"] []) (gm : mg "law" = some (.ref f)) (D_law_pool : Def P w K mg base 1 "_law_pool" ["_law_script", "_law_k"] (S_law_pool K)) (D_law_right : Def P w K mg base 5 "_law_right" ["_law_pool_here"] (S_law_right K)) (D_law_great : Def P w K mg base 5 "_law_great" ["_law_pool_here"] (S_law_great K)) :
    Def P w K mg base 6 "law" ["_law_script"] (S_law K) := ⟨f, fd, fo_law B C F D_law_pool D_law_right D_law_great, gm, F.kp, b⟩
theorem len_0 {α : Type} {P : List α → Prop} (h : P []) : ∀ us : List α, us.length = 0 → P us := fun us hl => match us, hl with
  | [], _ => h
theorem len_1 {α : Type} {P : List α → Prop} (h : ∀ a0, P [a0]) : ∀ us : List α, us.length = 1 → P us := fun us hl => match us, hl with
  | [a0], _ => h a0
theorem len_2 {α : Type} {P : List α → Prop} (h : ∀ a0 a1, P [a0, a1]) : ∀ us : List α, us.length = 2 → P us := fun us hl => match us, hl with
  | [a0, a1], _ => h a0 a1
theorem len_3 {α : Type} {P : List α → Prop} (h : ∀ a0 a1 a2, P [a0, a1, a2]) : ∀ us : List α, us.length = 3 → P us := fun us hl => match us, hl with
  | [a0, a1, a2], _ => h a0 a1 a2
theorem len_4 {α : Type} {P : List α → Prop} (h : ∀ a0 a1 a2 a3, P [a0, a1, a2, a3]) : ∀ us : List α, us.length = 4 → P us := fun us hl => match us, hl with
  | [a0, a1, a2, a3], _ => h a0 a1 a2 a3
theorem len_5 {α : Type} {P : List α → Prop} (h : ∀ a0 a1 a2 a3 a4, P [a0, a1, a2, a3, a4]) : ∀ us : List α, us.length = 5 → P us := fun us hl => match us, hl with
  | [a0, a1, a2, a3, a4], _ => h a0 a1 a2 a3 a4
theorem len_6 {α : Type} {P : List α → Prop} (h : ∀ a0 a1 a2 a3 a4 a5, P [a0, a1, a2, a3, a4, a5]) : ∀ us : List α, us.length = 6 → P us := fun us hl => match us, hl with
  | [a0, a1, a2, a3, a4, a5], _ => h a0 a1 a2 a3 a4 a5
theorem len_7 {α : Type} {P : List α → Prop} (h : ∀ a0 a1 a2 a3 a4 a5 a6, P [a0, a1, a2, a3, a4, a5, a6]) : ∀ us : List α, us.length = 7 → P us := fun us hl => match us, hl with
  | [a0, a1, a2, a3, a4, a5, a6], _ => h a0 a1 a2 a3 a4 a5 a6
theorem fa_nil {α : Type} {P : α → Prop} : ∀ x ∈ ([] : List α), P x := fun _ z => nomatch z
theorem all_mk {l : PySem.W.OpenLaw} {w : World} {K : PySem.W.Frag} {h : Heap} {mg : Str → Option Value} {fa f0 f1 f2 f3 f4 f5 f6 f7 f8 f9 f10 f11 f12 f13 f14 f15 f16 f17 f18 f19 f20 f21 f22 f23 : Addr} (X : K.In h) (G : h.Ns mainGlobals mg) (hfa : mg "law" = some (.ref fa))
    {od0 an0 od1 an1 od2 an2 od3 an3 od4 an4 od5 an5 od6 an6 od7 an7 od8 an8 od9 an9 od10 an10 od11 an11 od12 an12 od13 an13 od14 an14 od15 an15 od16 an16 od17 an17 od18 an18 od19 an19 od20 an20 od21 an21 od22 an22 od23 an23 : Option Addr} {sl0 sl1 sl2 sl3 sl4 sl5 sl6 sl7 sl8 sl9 sl10 sl11 sl12 sl13 sl14 sl15 sl16 sl17 sl18 sl19 sl20 sl21 sl22 sl23 : Array (Option Value)} {oc0 kV0 dc0 pm0 cd0 ct0 oc1 kV1 dc1 pm1 cd1 ct1 oc2 kV2 dc2 pm2 cd2 ct2 oc3 kV3 dc3 pm3 cd3 ct3 oc4 kV4 dc4 pm4 cd4 ct4 oc5 kV5 dc5 pm5 cd5 ct5 oc6 kV6 dc6 pm6 cd6 ct6 oc7 kV7 dc7 pm7 cd7 ct7 oc8 kV8 dc8 pm8 cd8 ct8 oc9 kV9 dc9 pm9 cd9 ct9 oc10 kV10 dc10 pm10 cd10 ct10 oc11 kV11 dc11 pm11 cd11 ct11 oc12 kV12 dc12 pm12 cd12 ct12 oc13 kV13 dc13 pm13 cd13 ct13 oc14 kV14 dc14 pm14 cd14 ct14 oc15 kV15 dc15 pm15 cd15 ct15 oc16 kV16 dc16 pm16 cd16 ct16 oc17 kV17 dc17 pm17 cd17 ct17 oc18 kV18 dc18 pm18 cd18 ct18 oc19 kV19 dc19 pm19 cd19 ct19 oc20 kV20 dc20 pm20 cd20 ct20 oc21 kV21 dc21 pm21 cd21 ct21 oc22 kV22 dc22 pm22 cd22 ct22 oc23 kV23 dc23 pm23 cd23 ct23 : Value}
    (a0 : PySem.W.nsIn K mainGlobals "_law_pool" = some (some (.ref f0))) (l0 : K.lookup f0 = some ⟨oc0, od0, .func (PySem.W.fnOf "_law_pool" "_law_pool" (defArgs s_law_pool) (defBody s_law_pool) (defScope s_law_pool) .none kV0 dc0 pm0 an0 cd0 ct0), sl0⟩) (c0 : PySem.W.codeIn K cd0 "_law_pool" = true) (k0 : PySem.W.keepIn K (.ref f0) = true)
    (a1 : PySem.W.nsIn K mainGlobals "_law_take" = some (some (.ref f1))) (l1 : K.lookup f1 = some ⟨oc1, od1, .func (PySem.W.fnOf "_law_take" "_law_take" (defArgs s_law_take) (defBody s_law_take) (defScope s_law_take) .none kV1 dc1 pm1 an1 cd1 ct1), sl1⟩) (c1 : PySem.W.codeIn K cd1 "_law_take" = true) (k1 : PySem.W.keepIn K (.ref f1) = true)
    (a2 : PySem.W.nsIn K mainGlobals "_law_kind" = some (some (.ref f2))) (l2 : K.lookup f2 = some ⟨oc2, od2, .func (PySem.W.fnOf "_law_kind" "_law_kind" (defArgs s_law_kind) (defBody s_law_kind) (defScope s_law_kind) .none kV2 dc2 pm2 an2 cd2 ct2), sl2⟩) (c2 : PySem.W.codeIn K cd2 "_law_kind" = true) (k2 : PySem.W.keepIn K (.ref f2) = true)
    (a3 : PySem.W.nsIn K mainGlobals "_law_sign" = some (some (.ref f3))) (l3 : K.lookup f3 = some ⟨oc3, od3, .func (PySem.W.fnOf "_law_sign" "_law_sign" (defArgs s_law_sign) (defBody s_law_sign) (defScope s_law_sign) .none kV3 dc3 pm3 an3 cd3 ct3), sl3⟩) (c3 : PySem.W.codeIn K cd3 "_law_sign" = true) (k3 : PySem.W.keepIn K (.ref f3) = true)
    (a4 : PySem.W.nsIn K mainGlobals "_law_draws_of" = some (some (.ref f4))) (l4 : K.lookup f4 = some ⟨oc4, od4, .func (PySem.W.fnOf "_law_draws_of" "_law_draws_of" (defArgs s_law_draws_of) (defBody s_law_draws_of) (defScope s_law_draws_of) .none kV4 dc4 pm4 an4 cd4 ct4), sl4⟩) (c4 : PySem.W.codeIn K cd4 "_law_draws_of" = true) (k4 : PySem.W.keepIn K (.ref f4) = true)
    (a5 : PySem.W.nsIn K mainGlobals "_law_all" = some (some (.ref f5))) (l5 : K.lookup f5 = some ⟨oc5, od5, .func (PySem.W.fnOf "_law_all" "_law_all" (defArgs s_law_all) (defBody s_law_all) (defScope s_law_all) .none kV5 dc5 pm5 an5 cd5 ct5), sl5⟩) (c5 : PySem.W.codeIn K cd5 "_law_all" = true) (k5 : PySem.W.keepIn K (.ref f5) = true)
    (a6 : PySem.W.nsIn K mainGlobals "_law_order" = some (some (.ref f6))) (l6 : K.lookup f6 = some ⟨oc6, od6, .func (PySem.W.fnOf "_law_order" "_law_order" (defArgs s_law_order) (defBody s_law_order) (defScope s_law_order) .none kV6 dc6 pm6 an6 cd6 ct6), sl6⟩) (c6 : PySem.W.codeIn K cd6 "_law_order" = true) (k6 : PySem.W.keepIn K (.ref f6) = true)
    (a7 : PySem.W.nsIn K mainGlobals "_law_touch" = some (some (.ref f7))) (l7 : K.lookup f7 = some ⟨oc7, od7, .func (PySem.W.fnOf "_law_touch" "_law_touch" (defArgs s_law_touch) (defBody s_law_touch) (defScope s_law_touch) .none kV7 dc7 pm7 an7 cd7 ct7), sl7⟩) (c7 : PySem.W.codeIn K cd7 "_law_touch" = true) (k7 : PySem.W.keepIn K (.ref f7) = true)
    (a8 : PySem.W.nsIn K mainGlobals "_law_seen" = some (some (.ref f8))) (l8 : K.lookup f8 = some ⟨oc8, od8, .func (PySem.W.fnOf "_law_seen" "_law_seen" (defArgs s_law_seen) (defBody s_law_seen) (defScope s_law_seen) .none kV8 dc8 pm8 an8 cd8 ct8), sl8⟩) (c8 : PySem.W.codeIn K cd8 "_law_seen" = true) (k8 : PySem.W.keepIn K (.ref f8) = true)
    (a9 : PySem.W.nsIn K mainGlobals "_law_bent" = some (some (.ref f9))) (l9 : K.lookup f9 = some ⟨oc9, od9, .func (PySem.W.fnOf "_law_bent" "_law_bent" (defArgs s_law_bent) (defBody s_law_bent) (defScope s_law_bent) .none kV9 dc9 pm9 an9 cd9 ct9), sl9⟩) (c9 : PySem.W.codeIn K cd9 "_law_bent" = true) (k9 : PySem.W.keepIn K (.ref f9) = true)
    (a10 : PySem.W.nsIn K mainGlobals "grouped" = some (some (.ref f10))) (l10 : K.lookup f10 = some ⟨oc10, od10, .func (PySem.W.fnOf "grouped" "grouped" (defArgs s_grouped) (defBody s_grouped) (defScope s_grouped) .none kV10 dc10 pm10 an10 cd10 ct10), sl10⟩) (c10 : PySem.W.codeIn K cd10 "grouped" = true) (k10 : PySem.W.keepIn K (.ref f10) = true)
    (a11 : PySem.W.nsIn K mainGlobals "leaves" = some (some (.ref f11))) (l11 : K.lookup f11 = some ⟨oc11, od11, .func (PySem.W.fnOf "leaves" "leaves" (defArgs s_leaves) (defBody s_leaves) (defScope s_leaves) .none kV11 dc11 pm11 an11 cd11 ct11), sl11⟩) (c11 : PySem.W.codeIn K cd11 "leaves" = true) (k11 : PySem.W.keepIn K (.ref f11) = true)
    (a12 : PySem.W.nsIn K mainGlobals "node_at" = some (some (.ref f12))) (l12 : K.lookup f12 = some ⟨oc12, od12, .func (PySem.W.fnOf "node_at" "node_at" (defArgs s_node_at) (defBody s_node_at) (defScope s_node_at) .none kV12 dc12 pm12 an12 cd12 ct12), sl12⟩) (c12 : PySem.W.codeIn K cd12 "node_at" = true) (k12 : PySem.W.keepIn K (.ref f12) = true)
    (a13 : PySem.W.nsIn K mainGlobals "room_of" = some (some (.ref f13))) (l13 : K.lookup f13 = some ⟨oc13, od13, .func (PySem.W.fnOf "room_of" "room_of" (defArgs s_room_of) (defBody s_room_of) (defScope s_room_of) .none kV13 dc13 pm13 an13 cd13 ct13), sl13⟩) (c13 : PySem.W.codeIn K cd13 "room_of" = true) (k13 : PySem.W.keepIn K (.ref f13) = true)
    (a14 : PySem.W.nsIn K mainGlobals "leaves_left" = some (some (.ref f14))) (l14 : K.lookup f14 = some ⟨oc14, od14, .func (PySem.W.fnOf "leaves_left" "leaves_left" (defArgs s_leaves_left) (defBody s_leaves_left) (defScope s_leaves_left) .none kV14 dc14 pm14 an14 cd14 ct14), sl14⟩) (c14 : PySem.W.codeIn K cd14 "leaves_left" = true) (k14 : PySem.W.keepIn K (.ref f14) = true)
    (a15 : PySem.W.nsIn K mainGlobals "many_of" = some (some (.ref f15))) (l15 : K.lookup f15 = some ⟨oc15, od15, .func (PySem.W.fnOf "many_of" "many_of" (defArgs s_many_of) (defBody s_many_of) (defScope s_many_of) .none kV15 dc15 pm15 an15 cd15 ct15), sl15⟩) (c15 : PySem.W.codeIn K cd15 "many_of" = true) (k15 : PySem.W.keepIn K (.ref f15) = true)
    (a16 : PySem.W.nsIn K mainGlobals "orders_left" = some (some (.ref f16))) (l16 : K.lookup f16 = some ⟨oc16, od16, .func (PySem.W.fnOf "orders_left" "orders_left" (defArgs s_orders_left) (defBody s_orders_left) (defScope s_orders_left) .none kV16 dc16 pm16 an16 cd16 ct16), sl16⟩) (c16 : PySem.W.codeIn K cd16 "orders_left" = true) (k16 : PySem.W.keepIn K (.ref f16) = true)
    (a17 : PySem.W.nsIn K mainGlobals "comes_of" = some (some (.ref f17))) (l17 : K.lookup f17 = some ⟨oc17, od17, .func (PySem.W.fnOf "comes_of" "comes_of" (defArgs s_comes_of) (defBody s_comes_of) (defScope s_comes_of) .none kV17 dc17 pm17 an17 cd17 ct17), sl17⟩) (c17 : PySem.W.codeIn K cd17 "comes_of" = true) (k17 : PySem.W.keepIn K (.ref f17) = true)
    (a18 : PySem.W.nsIn K mainGlobals "_law_right" = some (some (.ref f18))) (l18 : K.lookup f18 = some ⟨oc18, od18, .func (PySem.W.fnOf "_law_right" "_law_right" (defArgs s_law_right) (defBody s_law_right) (defScope s_law_right) .none kV18 dc18 pm18 an18 cd18 ct18), sl18⟩) (c18 : PySem.W.codeIn K cd18 "_law_right" = true) (k18 : PySem.W.keepIn K (.ref f18) = true)
    (a19 : PySem.W.nsIn K mainGlobals "_law_great_kind" = some (some (.ref f19))) (l19 : K.lookup f19 = some ⟨oc19, od19, .func (PySem.W.fnOf "_law_great_kind" "_law_great_kind" (defArgs s_law_great_kind) (defBody s_law_great_kind) (defScope s_law_great_kind) .none kV19 dc19 pm19 an19 cd19 ct19), sl19⟩) (c19 : PySem.W.codeIn K cd19 "_law_great_kind" = true) (k19 : PySem.W.keepIn K (.ref f19) = true)
    (a20 : PySem.W.nsIn K mainGlobals "_law_great_draw" = some (some (.ref f20))) (l20 : K.lookup f20 = some ⟨oc20, od20, .func (PySem.W.fnOf "_law_great_draw" "_law_great_draw" (defArgs s_law_great_draw) (defBody s_law_great_draw) (defScope s_law_great_draw) .none kV20 dc20 pm20 an20 cd20 ct20), sl20⟩) (c20 : PySem.W.codeIn K cd20 "_law_great_draw" = true) (k20 : PySem.W.keepIn K (.ref f20) = true)
    (a21 : PySem.W.nsIn K mainGlobals "_law_fit" = some (some (.ref f21))) (l21 : K.lookup f21 = some ⟨oc21, od21, .func (PySem.W.fnOf "_law_fit" "_law_fit" (defArgs s_law_fit) (defBody s_law_fit) (defScope s_law_fit) .none kV21 dc21 pm21 an21 cd21 ct21), sl21⟩) (c21 : PySem.W.codeIn K cd21 "_law_fit" = true) (k21 : PySem.W.keepIn K (.ref f21) = true)
    (a22 : PySem.W.nsIn K mainGlobals "_law_great" = some (some (.ref f22))) (l22 : K.lookup f22 = some ⟨oc22, od22, .func (PySem.W.fnOf "_law_great" "_law_great" (defArgs s_law_great) (defBody s_law_great) (defScope s_law_great) .none kV22 dc22 pm22 an22 cd22 ct22), sl22⟩) (c22 : PySem.W.codeIn K cd22 "_law_great" = true) (k22 : PySem.W.keepIn K (.ref f22) = true)
    (a23 : PySem.W.nsIn K mainGlobals "law" = some (some (.ref f23))) (l23 : K.lookup f23 = some ⟨oc23, od23, .func (PySem.W.fnOf "law" "law" (defArgs s_law) (defBody s_law) (defScope s_law) .none kV23 dc23 pm23 an23 cd23 ct23), sl23⟩) (c23 : PySem.W.codeIn K cd23 "law" = true) (k23 : PySem.W.keepIn K (.ref f23) = true)
    (z_all : PySem.W.nsIn K mainGlobals "all" = some none)
    (z_bool : PySem.W.nsIn K mainGlobals "bool" = some none)
    (z_int : PySem.W.nsIn K mainGlobals "int" = some none)
    (z_isinstance : PySem.W.nsIn K mainGlobals "isinstance" = some none)
    (z_len : PySem.W.nsIn K mainGlobals "len" = some none)
    (z_list : PySem.W.nsIn K mainGlobals "list" = some none)
    (z_min : PySem.W.nsIn K mainGlobals "min" = some none)
    (z_range : PySem.W.nsIn K mainGlobals "range" = some none)
    (z_set : PySem.W.nsIn K mainGlobals "set" = some none)
    (z_zip : PySem.W.nsIn K mainGlobals "zip" = some none)
    : ∃ fd : FuncData, (∀ (s : Shared) (v : Value), BindsTo s fd ⟨[v], []⟩ [("_law_script", v)]) ∧ ∀ base : Heap, K.In base → base.Ns mainGlobals mg → FnOk l.prog w K mg base (L2.CX l.prog w) 6 fa fd ["_law_script"] (lift (S_law K)) := by
  have e := hfa.symm.trans (PySem.W.mg_of X G a23)
  cases e
  have B : Bs mg := ⟨PySem.W.mg_none_of X G z_all, PySem.W.mg_none_of X G z_bool, PySem.W.mg_none_of X G z_int, PySem.W.mg_none_of X G z_isinstance, PySem.W.mg_none_of X G z_len, PySem.W.mg_none_of X G z_list, PySem.W.mg_none_of X G z_min, PySem.W.mg_none_of X G z_range, PySem.W.mg_none_of X G z_set, PySem.W.mg_none_of X G z_zip⟩
  have C : Cs K mg := ⟨trivial⟩
  have F0 := fun_mk (st := s_law_pool) l0 c0 k0
  have b0 := F0.binds (ps := ["_law_script", "_law_k"]) fun _ _ _ _ _ _ us hl => len_2 (P := fun us => bindArgs _ { pos := us } = pure (List.zip _ us)) (fun _ _ => rfl) us hl
  have F1 := fun_mk (st := s_law_take) l1 c1 k1
  have b1 := F1.binds (ps := ["_law_pool_here", "_law_many"]) fun _ _ _ _ _ _ us hl => len_2 (P := fun us => bindArgs _ { pos := us } = pure (List.zip _ us)) (fun _ _ => rfl) us hl
  have F2 := fun_mk (st := s_law_kind) l2 c2 k2
  have b2 := F2.binds (ps := ["_law_pool_here"]) fun _ _ _ _ _ _ us hl => len_1 (P := fun us => bindArgs _ { pos := us } = pure (List.zip _ us)) (fun _ => rfl) us hl
  have F3 := fun_mk (st := s_law_sign) l3 c3 k3
  have b3 := F3.binds (ps := ["_law_pool_here", "_law_kinds"]) fun _ _ _ _ _ _ us hl => len_2 (P := fun us => bindArgs _ { pos := us } = pure (List.zip _ us)) (fun _ _ => rfl) us hl
  have F4 := fun_mk (st := s_law_draws_of) l4 c4 k4
  have b4 := F4.binds (ps := ["_law_kind_here"]) fun _ _ _ _ _ _ us hl => len_1 (P := fun us => bindArgs _ { pos := us } = pure (List.zip _ us)) (fun _ => rfl) us hl
  have F5 := fun_mk (st := s_law_all) l5 c5 k5
  have b5 := F5.binds (ps := ["_law_kinds"]) fun _ _ _ _ _ _ us hl => len_1 (P := fun us => bindArgs _ { pos := us } = pure (List.zip _ us)) (fun _ => rfl) us hl
  have F6 := fun_mk (st := s_law_order) l6 c6 k6
  have b6 := F6.binds (ps := ["_law_row"]) fun _ _ _ _ _ _ us hl => len_1 (P := fun us => bindArgs _ { pos := us } = pure (List.zip _ us)) (fun _ => rfl) us hl
  have F7 := fun_mk (st := s_law_touch) l7 c7 k7
  have b7 := F7.binds (ps := ["_law_kinds", "_law_sign_here", "_law_draws"]) fun _ _ _ _ _ _ us hl => len_3 (P := fun us => bindArgs _ { pos := us } = pure (List.zip _ us)) (fun _ _ _ => rfl) us hl
  have F8 := fun_mk (st := s_law_seen) l8 c8 k8
  have b8 := F8.binds (ps := ["_law_kinds", "_law_signs", "_law_draws"]) fun _ _ _ _ _ _ us hl => len_3 (P := fun us => bindArgs _ { pos := us } = pure (List.zip _ us)) (fun _ _ _ => rfl) us hl
  have F9 := fun_mk (st := s_law_bent) l9 c9 k9
  have b9 := F9.binds (ps := ["_law_pool_here", "_law_touches", "_law_other"]) fun _ _ _ _ _ _ us hl => len_3 (P := fun us => bindArgs _ { pos := us } = pure (List.zip _ us)) (fun _ _ _ => rfl) us hl
  have F10 := fun_mk (st := s_grouped) l10 c10 k10
  have b10 := F10.binds (ps := ["kinds", "signs", "touches"]) fun _ _ _ _ _ _ us hl => len_3 (P := fun us => bindArgs _ { pos := us } = pure (List.zip _ us)) (fun _ _ _ => rfl) us hl
  have F11 := fun_mk (st := s_leaves) l11 c11 k11
  have b11 := F11.binds (ps := ["high"]) fun _ _ _ _ _ _ us hl => len_1 (P := fun us => bindArgs _ { pos := us } = pure (List.zip _ us)) (fun _ => rfl) us hl
  have F12 := fun_mk (st := s_node_at) l12 c12 k12
  have b12 := F12.binds (ps := ["high", "depth", "leaf"]) fun _ _ _ _ _ _ us hl => len_3 (P := fun us => bindArgs _ { pos := us } = pure (List.zip _ us)) (fun _ _ _ => rfl) us hl
  have F13 := fun_mk (st := s_room_of) l13 c13 k13
  have b13 := F13.binds (ps := ["node", "side"]) fun _ _ _ _ _ _ us hl => len_2 (P := fun us => bindArgs _ { pos := us } = pure (List.zip _ us)) (fun _ _ => rfl) us hl
  have F14 := fun_mk (st := s_leaves_left) l14 c14 k14
  have b14 := F14.binds (ps := ["high", "rows"]) fun _ _ _ _ _ _ us hl => len_2 (P := fun us => bindArgs _ { pos := us } = pure (List.zip _ us)) (fun _ _ => rfl) us hl
  have F15 := fun_mk (st := s_many_of) l15 c15 k15
  have b15 := F15.binds (ps := ["kind"]) fun _ _ _ _ _ _ us hl => len_1 (P := fun us => bindArgs _ { pos := us } = pure (List.zip _ us)) (fun _ => rfl) us hl
  have F16 := fun_mk (st := s_orders_left) l16 c16 k16
  have b16 := F16.binds (ps := ["size", "rows"]) fun _ _ _ _ _ _ us hl => len_2 (P := fun us => bindArgs _ { pos := us } = pure (List.zip _ us)) (fun _ _ => rfl) us hl
  have F17 := fun_mk (st := s_comes_of) l17 c17 k17
  have b17 := F17.binds (ps := ["kinds", "signs", "touches"]) fun _ _ _ _ _ _ us hl => len_3 (P := fun us => bindArgs _ { pos := us } = pure (List.zip _ us)) (fun _ _ _ => rfl) us hl
  have F18 := fun_mk (st := s_law_right) l18 c18 k18
  have b18 := F18.binds (ps := ["_law_pool_here"]) fun _ _ _ _ _ _ us hl => len_1 (P := fun us => bindArgs _ { pos := us } = pure (List.zip _ us)) (fun _ => rfl) us hl
  have F19 := fun_mk (st := s_law_great_kind) l19 c19 k19
  have b19 := F19.binds (ps := ["_law_pool_here"]) fun _ _ _ _ _ _ us hl => len_1 (P := fun us => bindArgs _ { pos := us } = pure (List.zip _ us)) (fun _ => rfl) us hl
  have F20 := fun_mk (st := s_law_great_draw) l20 c20 k20
  have b20 := F20.binds (ps := ["_law_pool_here", "_law_kind_here"]) fun _ _ _ _ _ _ us hl => len_2 (P := fun us => bindArgs _ { pos := us } = pure (List.zip _ us)) (fun _ _ => rfl) us hl
  have F21 := fun_mk (st := s_law_fit) l21 c21 k21
  have b21 := F21.binds (ps := ["_law_kinds", "_law_at", "_law_signs", "_law_touches"]) fun _ _ _ _ _ _ us hl => len_4 (P := fun us => bindArgs _ { pos := us } = pure (List.zip _ us)) (fun _ _ _ _ => rfl) us hl
  have F22 := fun_mk (st := s_law_great) l22 c22 k22
  have b22 := F22.binds (ps := ["_law_pool_here"]) fun _ _ _ _ _ _ us hl => len_1 (P := fun us => bindArgs _ { pos := us } = pure (List.zip _ us)) (fun _ => rfl) us hl
  have F23 := fun_mk (st := s_law) l23 c23 k23
  have b23 := F23.binds (ps := ["_law_script"]) fun _ _ _ _ _ _ us hl => len_1 (P := fun us => bindArgs _ { pos := us } = pure (List.zip _ us)) (fun _ => rfl) us hl
  refine ⟨PySem.W.fnOf "law" "law" (defArgs s_law) (defBody s_law) (defScope s_law) .none kV23 dc23 pm23 an23 cd23 ct23, fun s v => .of_eq rfl, fun base _ _ => ?_⟩
  have D_law_pool := df_law_pool (P := l.prog) (w := w) (base := base) B C F0 b0 (PySem.W.mg_of X G a0) 
  have D_law_take := df_law_take (P := l.prog) (w := w) (base := base) B C F1 b1 (PySem.W.mg_of X G a1) 
  have D_law_kind := df_law_kind (P := l.prog) (w := w) (base := base) B C F2 b2 (PySem.W.mg_of X G a2) D_law_take
  have D_law_sign := df_law_sign (P := l.prog) (w := w) (base := base) B C F3 b3 (PySem.W.mg_of X G a3) D_law_take
  have D_law_draws_of := df_law_draws_of (P := l.prog) (w := w) (base := base) B C F4 b4 (PySem.W.mg_of X G a4) 
  have D_law_all := df_law_all (P := l.prog) (w := w) (base := base) B C F5 b5 (PySem.W.mg_of X G a5) D_law_draws_of
  have D_law_order := df_law_order (P := l.prog) (w := w) (base := base) B C F6 b6 (PySem.W.mg_of X G a6) 
  have D_law_touch := df_law_touch (P := l.prog) (w := w) (base := base) B C F7 b7 (PySem.W.mg_of X G a7) D_law_order
  have D_law_seen := df_law_seen (P := l.prog) (w := w) (base := base) B C F8 b8 (PySem.W.mg_of X G a8) D_law_touch
  have D_law_bent := df_law_bent (P := l.prog) (w := w) (base := base) B C F9 b9 (PySem.W.mg_of X G a9) D_law_take
  have D_grouped := df_grouped (P := l.prog) (w := w) (base := base) B C F10 b10 (PySem.W.mg_of X G a10) 
  have D_leaves := df_leaves (P := l.prog) (w := w) (base := base) B C F11 b11 (PySem.W.mg_of X G a11) 
  have D_node_at := df_node_at (P := l.prog) (w := w) (base := base) B C F12 b12 (PySem.W.mg_of X G a12) 
  have D_room_of := df_room_of (P := l.prog) (w := w) (base := base) B C F13 b13 (PySem.W.mg_of X G a13) 
  have D_leaves_left := df_leaves_left (P := l.prog) (w := w) (base := base) B C F14 b14 (PySem.W.mg_of X G a14) D_leaves D_node_at D_room_of
  have D_many_of := df_many_of (P := l.prog) (w := w) (base := base) B C F15 b15 (PySem.W.mg_of X G a15) D_leaves
  have D_orders_left := df_orders_left (P := l.prog) (w := w) (base := base) B C F16 b16 (PySem.W.mg_of X G a16) D_many_of
  have D_comes_of := df_comes_of (P := l.prog) (w := w) (base := base) B C F17 b17 (PySem.W.mg_of X G a17) D_grouped D_leaves_left D_orders_left
  have D_law_right := df_law_right (P := l.prog) (w := w) (base := base) B C F18 b18 (PySem.W.mg_of X G a18) D_law_take D_law_kind D_law_sign D_law_all D_law_seen D_law_bent D_comes_of
  have D_law_great_kind := df_law_great_kind (P := l.prog) (w := w) (base := base) B C F19 b19 (PySem.W.mg_of X G a19) D_law_take
  have D_law_great_draw := df_law_great_draw (P := l.prog) (w := w) (base := base) B C F20 b20 (PySem.W.mg_of X G a20) D_law_take
  have D_law_fit := df_law_fit (P := l.prog) (w := w) (base := base) B C F21 b21 (PySem.W.mg_of X G a21) D_law_touch
  have D_law_great := df_law_great (P := l.prog) (w := w) (base := base) B C F22 b22 (PySem.W.mg_of X G a22) D_law_take D_law_great_kind D_law_sign D_law_great_draw D_law_seen D_law_bent D_law_fit D_comes_of
  exact fo_law (P := l.prog) (w := w) (base := base) B C F23 D_law_pool D_law_right D_law_great
end BT
def PySem.W.Fast.tw3111606020800489289 := 0
def PySem.W.Fast.tw15561422058078475981 := 0
def PySem.W.Fast.tw6553107460474219763 := 0
def PySem.W.Fast.tw4421354801890856341 := 0
def PySem.W.Fast.tw13893578048438383062 := 0
def PySem.W.Fast.tw16123754066943010263 := 0
open PySem PySem.W PyProof.Rows
set_option maxHeartbeats 0 in
theorem PySem.Challenge.cw_blindtouch_k70_comes_of_few_holds : PySem.Challenge.rw_blindtouch_k70_comes_of_few.Holds := by
  w_on; o_law; k_head; (case hw => w_witness2)
  k_fill
  refine L2.walk_of (l := PySem.Challenge.rw_blindtouch_k70_comes_of_few) (n := 63) (k := 6) (x := "_law_script") (CX := fun w => L2.CX (PySem.Challenge.rw_blindtouch_k70_comes_of_few).prog w) (sp := fun w => BT.lift (BT.S_law _)) rfl (by decide) rfl ⟨rfl, by decide, by decide⟩ (fun w h Y => PySem.W.kIn_of Y) ?F (fun _ H a ns hl _ hS => BT.law_start hl hS) (fun _ _ _ _ _ h => BT.cx_none h)
  case F =>
    intro w mg fa h KX G hmg
    refine' BT.all_mk KX G hmg ?a0 ?l0 ?c0 ?k0 ?a1 ?l1 ?c1 ?k1 ?a2 ?l2 ?c2 ?k2 ?a3 ?l3 ?c3 ?k3 ?a4 ?l4 ?c4 ?k4 ?a5 ?l5 ?c5 ?k5 ?a6 ?l6 ?c6 ?k6 ?a7 ?l7 ?c7 ?k7 ?a8 ?l8 ?c8 ?k8 ?a9 ?l9 ?c9 ?k9 ?a10 ?l10 ?c10 ?k10 ?a11 ?l11 ?c11 ?k11 ?a12 ?l12 ?c12 ?k12 ?a13 ?l13 ?c13 ?k13 ?a14 ?l14 ?c14 ?k14 ?a15 ?l15 ?c15 ?k15 ?a16 ?l16 ?c16 ?k16 ?a17 ?l17 ?c17 ?k17 ?a18 ?l18 ?c18 ?k18 ?a19 ?l19 ?c19 ?k19 ?a20 ?l20 ?c20 ?k20 ?a21 ?l21 ?c21 ?k21 ?a22 ?l22 ?c22 ?k22 ?a23 ?l23 ?c23 ?k23 ?z_all ?z_bool ?z_int ?z_isinstance ?z_len ?z_list ?z_min ?z_range ?z_set ?z_zip 
    (case a0 => k_is); (case l0 => k_is); (case c0 => k_is); (case k0 => k_is); (case a1 => k_is); (case l1 => k_is); (case c1 => k_is); (case k1 => k_is); (case a2 => k_is); (case l2 => k_is); (case c2 => k_is); (case k2 => k_is); (case a3 => k_is); (case l3 => k_is); (case c3 => k_is); (case k3 => k_is); (case a4 => k_is); (case l4 => k_is); (case c4 => k_is); (case k4 => k_is); (case a5 => k_is); (case l5 => k_is); (case c5 => k_is); (case k5 => k_is); (case a6 => k_is); (case l6 => k_is); (case c6 => k_is); (case k6 => k_is); (case a7 => k_is); (case l7 => k_is); (case c7 => k_is); (case k7 => k_is); (case a8 => k_is); (case l8 => k_is); (case c8 => k_is); (case k8 => k_is); (case a9 => k_is); (case l9 => k_is); (case c9 => k_is); (case k9 => k_is); (case a10 => k_is); (case l10 => k_is); (case c10 => k_is); (case k10 => k_is); (case a11 => k_is); (case l11 => k_is); (case c11 => k_is); (case k11 => k_is); (case a12 => k_is); (case l12 => k_is); (case c12 => k_is); (case k12 => k_is); (case a13 => k_is); (case l13 => k_is); (case c13 => k_is); (case k13 => k_is); (case a14 => k_is); (case l14 => k_is); (case c14 => k_is); (case k14 => k_is); (case a15 => k_is); (case l15 => k_is); (case c15 => k_is); (case k15 => k_is); (case a16 => k_is); (case l16 => k_is); (case c16 => k_is); (case k16 => k_is); (case a17 => k_is); (case l17 => k_is); (case c17 => k_is); (case k17 => k_is); (case a18 => k_is); (case l18 => k_is); (case c18 => k_is); (case k18 => k_is); (case a19 => k_is); (case l19 => k_is); (case c19 => k_is); (case k19 => k_is); (case a20 => k_is); (case l20 => k_is); (case c20 => k_is); (case k20 => k_is); (case a21 => k_is); (case l21 => k_is); (case c21 => k_is); (case k21 => k_is); (case a22 => k_is); (case l22 => k_is); (case c22 => k_is); (case k22 => k_is); (case a23 => k_is); (case l23 => k_is); (case c23 => k_is); (case k23 => k_is); (case z_all => k_is); (case z_bool => k_is); (case z_int => k_is); (case z_isinstance => k_is); (case z_len => k_is); (case z_list => k_is); (case z_min => k_is); (case z_range => k_is); (case z_set => k_is); (case z_zip => k_is)
