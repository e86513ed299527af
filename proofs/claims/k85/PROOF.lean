import PyProof.Rows.All
import Wide.All
import OpenK.AllK
import Wide.FinOn
import HandS.ForMost
import HandS.Exc
import HandS.TryOnly
import HandS.ExcOwn
import HandS.WordsExc
import HandS.Wide
import HandS.WideBits
import HandS.IsInst
import HandS.SortInts
import HandS.Style
import HandS.ExcIs
import HandS.ExcValue
import HandS.Conv
import HandS.Dict
import KE.DataMinMax
import HandS.RevRange
import HandS.More
import PyProof.SetRoads
import HandS.SetKeys
import HandS.TupAny
import HandS.NoneIn
import PyProof.EqKinds
import PyProof.FactsAll.dict
import HandS.ListItems
import PyProof.ReprRoads
import PyProof.ReprLen
import PyProof.Rows.StrJoinMade
import HandS.Set
import HandS.SetFor
import HandS.Text
import HandS.FStr
import HandS.Flow
import PySem.Challenge.RW_blindtouch_k85_touches_and_pockets_shown
set_option Elab.async false
set_option linter.all false
set_option maxRecDepth 100000
set_option maxHeartbeats 4000000
/-! KL: readings over what is known of the heap: a frozen part G, and cells M that may be written. -/
namespace BT
open PySem PySem.Spec L2
open PyProof.Rows hiding St

abbrev Mem := List (Addr × HO)
structure Hv (G : Hp) (M : Mem) (H : Hp) : Prop where
  ex : ∀ a o, G a = some o → H a = some o
  mu : ∀ x, x ∈ M → H x.1 = some x.2
  nd : (M.map (·.1)).Nodup
  dj : ∀ x, x ∈ M → G x.1 = none
def Fr (G : Hp) (M : Mem) (p : Addr) : Prop := G p = none ∧ ∀ x, x ∈ M → x.1 ≠ p
def At (G : Hp) (M : Mem) (a : Addr) (o : HO) : Prop := (a, o) ∈ M ∨ G a = some o
section
variable {G : Hp} {M : Mem} {H : Hp} {p a : Addr} {o o' : HO} {n : Nat}
theorem Hv.self (H : Hp) : Hv H [] H := ⟨fun _ _ h => h, fun _ h => (nomatch h), List.nodup_nil, fun _ h => (nomatch h)⟩
theorem Hv.fr (h : Hv G M H) (hp : H p = none) : Fr G M p := by
  refine ⟨?_, fun x hx e => ?_⟩
  · cases e : G p with
    | none => rfl
    | some o => rw [h.ex p o e] at hp; cases hp
  · have := h.mu x hx
    rw [e, hp] at this; cases this
theorem Hv.at (h : Hv G M H) (q : At G M a o) : H a = some o := by
  rcases q with q | q
  · exact h.mu _ q
  · exact h.ex _ _ q
theorem Hv.newM (h : Hv G M H) (hp : H p = none) : Hv G ((p, o) :: M) (upd H p o) := by
  have f := h.fr hp
  refine ⟨fun b u e => ?_, fun x hx => ?_, ?_, fun x hx => ?_⟩
  · rw [upd_ne (ne_of_none (h.ex b u e) hp)]; exact h.ex b u e
  · rcases List.mem_cons.mp hx with rfl | hx
    · exact upd_same
    · rw [upd_ne (f.2 x hx)]; exact h.mu x hx
  · rw [List.map_cons, List.nodup_cons]
    refine ⟨fun hm => ?_, h.nd⟩
    obtain ⟨x, hx, e⟩ := List.mem_map.mp hm
    exact f.2 x hx e
  · rcases List.mem_cons.mp hx with rfl | hx
    · exact f.1
    · exact h.dj x hx
theorem Hv.newG (h : Hv G M H) (hp : H p = none) : Hv (upd G p o) M (upd H p o) := by
  have f := h.fr hp
  refine ⟨fun b u e => ?_, fun x hx => ?_, h.nd, fun x hx => ?_⟩
  · by_cases hb : b = p
    · subst hb; rw [upd_same] at e ⊢; exact e
    · rw [upd_ne hb] at e ⊢; exact h.ex b u e
  · rw [upd_ne (f.2 x hx)]; exact h.mu x hx
  · rw [upd_ne (f.2 x hx)]; exact h.dj x hx
/-- an object that nobody knows of is laid: nothing known changes -/
theorem Hv.junk (h : Hv G M H) (hp : H p = none) : Hv G M (upd H p o) := by
  have f := h.fr hp
  refine ⟨fun b u e => ?_, fun x hx => ?_, h.nd, h.dj⟩
  · rw [upd_ne (ne_of_none (h.ex b u e) hp)]; exact h.ex b u e
  · rw [upd_ne (f.2 x hx)]; exact h.mu x hx
theorem Hv.get (h : Hv G M H) (hn : M[n]? = some (p, o)) : H p = some o := h.mu _ (List.mem_of_getElem? hn)
theorem map_set_fst : ∀ (M : Mem) (n : Nat) (p : Addr) (o o' : HO), M[n]? = some (p, o) → (M.set n (p, o')).map (·.1) = M.map (·.1)
  | [], _, _, _, _, h => by simp at h
  | x :: M, 0, p, o, o', h => by
    have e : x = (p, o) := by simpa using h
    subst e; rfl
  | x :: M, n + 1, p, o, o', h => by
    have e : M[n]? = some (p, o) := by simpa using h
    show x.1 :: (M.set n (p, o')).map (·.1) = _
    rw [map_set_fst M n p o o' e]; rfl
theorem nodup_at : ∀ (M : Mem) (n : Nat) (p : Addr) (o : HO) (x : Addr × HO) (m : Nat), (M.map (·.1)).Nodup → M[n]? = some (p, o) → M[m]? = some x → x.1 = p → m = n := by
  intro M n p o x m hd h1 h2 e
  have q1 : (M.map (·.1))[n]? = some p := by rw [List.getElem?_map, h1]; rfl
  have q2 : (M.map (·.1))[m]? = some p := by rw [List.getElem?_map, h2, ← e]; rfl
  obtain ⟨l1, e1⟩ := List.getElem?_eq_some_iff.mp q1
  obtain ⟨l2, e2⟩ := List.getElem?_eq_some_iff.mp q2
  exact (List.getElem_inj hd).mp (e2.trans e1.symm)
theorem Hv.set (h : Hv G M H) (hn : M[n]? = some (p, o)) : Hv G (M.set n (p, o')) (upd H p o') := by
  have hlt : n < M.length := (List.getElem?_eq_some_iff.mp hn).1
  refine ⟨fun b u e => ?_, fun x hx => ?_, ?_, fun x hx => ?_⟩
  · have : b ≠ p := fun z => by
      have q := h.dj _ (List.mem_of_getElem? hn)
      rw [z] at e
      rw [show G p = none from q] at e; cases e
    rw [upd_ne this]; exact h.ex b u e
  · obtain ⟨m, hm⟩ := List.getElem?_of_mem hx
    by_cases e : m = n
    · subst e
      rw [List.getElem?_set_self hlt] at hm
      cases hm
      exact upd_same
    · rw [List.getElem?_set_ne (Ne.symm e)] at hm
      have : x.1 ≠ p := fun z => e (nodup_at M n p o x m h.nd hn hm z)
      rw [upd_ne this]
      exact h.mu x (List.mem_of_getElem? hm)
  · rw [map_set_fst M n p o o' hn]; exact h.nd
  · have : x.1 ∈ M.map (·.1) := by
      rw [← map_set_fst M n p o o' hn]; exact List.mem_map.mpr ⟨x, hx, rfl⟩
    obtain ⟨y, hy, e⟩ := List.mem_map.mp this
    rw [← e]; exact h.dj y hy
/-- what is known may be forgotten, and what may be written may be frozen -/
def Wk (G : Hp) (M : Mem) (G' : Hp) (M' : Mem) : Prop := ∀ H, Hv G M H → Hv G' M' H
theorem Wk.refl : Wk G M G M := fun _ h => h
theorem Wk.trans {G1 G2 G3 : Hp} {M1 M2 M3 : Mem} (a : Wk G1 M1 G2 M2) (b : Wk G2 M2 G3 M3) : Wk G1 M1 G3 M3 := fun H h => b H (a H h)
theorem Wk.drop (M1 : Mem) {x : Addr × HO} {M2 : Mem} : Wk G (M1 ++ x :: M2) G (M1 ++ M2) := fun H h => by
  refine ⟨h.ex, fun y hy => h.mu y ?_, ?_, fun y hy => h.dj y ?_⟩
  · rcases List.mem_append.mp hy with q | q
    · exact List.mem_append.mpr (.inl q)
    · exact List.mem_append.mpr (.inr (List.mem_cons_of_mem _ q))
  · refine h.nd.sublist ?_
    simp
  · rcases List.mem_append.mp hy with q | q
    · exact List.mem_append.mpr (.inl q)
    · exact List.mem_append.mpr (.inr (List.mem_cons_of_mem _ q))
theorem Wk.drop0 {x : Addr × HO} : Wk G (x :: M) G M := Wk.drop []
theorem Wk.drop1 {x y : Addr × HO} : Wk G (y :: x :: M) G (y :: M) := Wk.drop [y]
theorem Wk.drop2 {x y z : Addr × HO} : Wk G (z :: y :: x :: M) G (z :: y :: M) := Wk.drop [z, y]
theorem Wk.frz (M1 : Mem) {M2 : Mem} : Wk G (M1 ++ (p, o) :: M2) (upd G p o) (M1 ++ M2) := fun H h => by
  have hp : H p = some o := h.mu (p, o) (by simp)
  have hg : G p = none := h.dj (p, o) (by simp)
  have h2 := Wk.drop (G := G) M1 (x := (p, o)) (M2 := M2) H h
  refine ⟨fun b u e => ?_, h2.mu, h2.nd, fun x hx => ?_⟩
  · by_cases hb : b = p
    · subst hb; rw [upd_same] at e; cases e; exact hp
    · rw [upd_ne hb] at e; exact h.ex b u e
  · have : x.1 ≠ p := fun z => by
      have nd := h.nd
      rw [List.map_append, List.map_cons, List.nodup_append] at nd
      obtain ⟨n1, n2, n3⟩ := nd
      rcases List.mem_append.mp hx with q | q
      · exact n3 x.1 (List.mem_map.mpr ⟨x, q, rfl⟩) p (by simp) z
      · rw [List.nodup_cons] at n2
        exact n2.1 (by rw [← z]; exact List.mem_map.mpr ⟨x, q, rfl⟩)
    rw [upd_ne this]; exact h2.dj x hx
theorem Wk.frz0 : Wk G ((p, o) :: M) (upd G p o) M := Wk.frz []
theorem Wk.frz1 {y : Addr × HO} : Wk G (y :: (p, o) :: M) (upd G p o) (y :: M) := Wk.frz [y]
theorem Wk.perm {M' : Mem} (e : M'.Perm M) : Wk G M G M' := fun H h =>
  ⟨h.ex, fun x hx => h.mu x (e.mem_iff.mp hx), (e.map _).nodup_iff.mpr h.nd, fun x hx => h.dj x (e.mem_iff.mp hx)⟩
theorem Wk.swap {x y : Addr × HO} : Wk G (x :: y :: M) G (y :: x :: M) := Wk.perm (List.Perm.swap x y M)
/-- less of the frozen part -/
theorem Wk.less {G' : Hp} (e : ∀ a o, G' a = some o → G a = some o) : Wk G M G' M := fun H h =>
  ⟨fun a o q => h.ex a o (e a o q), h.mu, h.nd, fun x hx => by
    cases q : G' x.1 with
    | none => rfl
    | some o => have := h.dj x hx; rw [e _ _ q] at this; cases this⟩
end

/-! ### extension of the frozen part -/
def Ex (G G' : Hp) : Prop := ∀ a o, G a = some o → G' a = some o
theorem Ex.refl {G : Hp} : Ex G G := fun _ _ h => h
theorem Ex.trans {G G1 G2 : Hp} (a : Ex G G1) (b : Ex G1 G2) : Ex G G2 := fun x o h => b x o (a x o h)
theorem Ex.new {G : Hp} {M : Mem} {p : Addr} {o : HO} (h : Fr G M p) : Ex G (upd G p o) := fun a u e => by
  rw [upd_ne (ne_of_none e h.1)]; exact e
theorem Ex.new' {G : Hp} {p : Addr} {o : HO} (h : G p = none) : Ex G (upd G p o) := fun a u e => by
  rw [upd_ne (ne_of_none e h)]; exact e
theorem ex_rd {H H' : Hp} {a : Addr} {u : HO} (e : Ex H H') (h : Rd H a u) : Rd H' a u := by
  rcases h with h | ⟨o, h⟩
  · exact .inl (e a _ h)
  · exact .inr ⟨o, e a _ h⟩
theorem ex_l {K : PySem.W.Frag} {H H' : Hp} {a : Addr} {xs : List V} (e : Ex H H') (h : SqL K H a xs) : SqL K H' a xs := by
  rcases h with h | h
  · exact .inl (ex_rd e h)
  · exact .inr h
theorem ex_t {K : PySem.W.Frag} {H H' : Hp} {a : Addr} {xs : List V} (e : Ex H H') (h : SqT K H a xs) : SqT K H' a xs := by
  rcases h with h | h
  · exact .inl (ex_rd e h)
  · exact .inr h
mutual
theorem ex_d {K : PySem.W.Frag} {H H' : Hp} (e : Ex H H') : ∀ (d : PyData) {v : V}, Dp K H v d → Dp K H' v d
  | _, _, .non => .non
  | _, _, .bl b => .bl b
  | _, _, .int b => .int b
  | _, _, .str b => .str b
  | .list ds, _, .lst s a => .lst (ex_l e s) (ex_ds e ds a)
  | .tuple ds, _, .tup s a => .tup (ex_t e s) (ex_ds e ds a)
theorem ex_ds {K : PySem.W.Frag} {H H' : Hp} (e : Ex H H') : ∀ (ds : List PyData) {vs : List V}, DpAll K H vs ds → DpAll K H' vs ds
  | _, _, .nil => .nil
  | d :: ds, _, .cons a b => .cons (ex_d e d a) (ex_ds e ds b)
end
/-- a list, a tuple that can be read -/
def LstAt (K : PySem.W.Frag) (G : Hp) (M : Mem) (a : Addr) (xs : List V) : Prop := (a, HO.lst xs) ∈ M ∨ SqL K G a xs
def TupAt (K : PySem.W.Frag) (G : Hp) (M : Mem) (a : Addr) (xs : List V) : Prop := SqT K G a xs
def SeqAt' (K : PySem.W.Frag) (G : Hp) (M : Mem) (a : Addr) (xs : List V) : Prop := LstAt K G M a xs ∨ SqT K G a xs
/-- data that can be read -/
def DatAt (K : PySem.W.Frag) (G : Hp) (M : Mem) (v : V) (d : PyData) : Prop := ∀ H, Hv G M H → Dp K H v d
section
variable {K : PySem.W.Frag} {G : Hp} {M : Mem} {H : Hp} {a : Addr} {xs : List V}
theorem Hv.exx (h : Hv G M H) : Ex G H := h.ex
theorem Hv.lst (h : Hv G M H) (q : LstAt K G M a xs) : SqL K H a xs := by
  rcases q with q | q
  · exact .inl (.inl (h.mu _ q))
  · exact ex_l h.exx q
theorem Hv.tup (h : Hv G M H) (q : SqT K G a xs) : SqT K H a xs := ex_t h.exx q
theorem Hv.dat (h : Hv G M H) {v : V} {d : PyData} (q : DatAt K G M v d) : Dp K H v d := q H h
end

/-! ### judgements -/
abbrev KR := V → Hp → Mem → Prop
abbrev KX := Value → Option Addr → Hp → Mem → Prop
abbrev KK (α : Type) := St → Hp → Mem → (α → Hp → Mem → Prop) → KX → Prop
abbrev KE := KK V
abbrev KA := KK (List V)
abbrev KT := KK Bool
def upG {α : Type} (W : WX) (t : KK α) : St → Hp → (α → Hp → Prop) → Prop := fun σ H Q =>
  ∃ G M R E, Hv G M H ∧ t σ G M R E ∧ (∀ v G' M' H', Hv G' M' H' → R v G' M' → Q v H') ∧ (∀ c d G' M' H', Hv G' M' H' → E c d G' M' → W c d σ H')
def JE (X : Cx) (W : WX) (e : Expr) (t : KE) : Prop := PE X e (upG W t)
def JT (X : Cx) (W : WX) (e : Expr) (t : KT) : Prop := PT X e (upG W t)
def JW (X : Cx) (W : WX) (e : Expr) (t : KT) : Prop := PW X e (upG W t)
def JA (X : Cx) (W : WX) (es : List Expr) (t : KA) : Prop := PA X es (upG W t)
theorem pe_mono {X : Cx} {e : Expr} {t t' : TE} (h : PE X e t) (i : ∀ σ H Q, t' σ H Q → t σ H Q) : PE X e t' := ⟨fun pins s σ H Q I q => h.run pins s σ H Q I (i σ H Q q)⟩
theorem pt_mono {X : Cx} {e : Expr} {t t' : TT} (h : PT X e t) (i : ∀ σ H Q, t' σ H Q → t σ H Q) : PT X e t' := ⟨fun pins s σ H Q I q => h.run pins s σ H Q I (i σ H Q q)⟩
theorem pw_mono {X : Cx} {e : Expr} {t t' : TT} (h : PW X e t) (i : ∀ σ H Q, t' σ H Q → t σ H Q) : PW X e t' := ⟨fun wh pins s σ H Q I q => h.run wh pins s σ H Q I (i σ H Q q)⟩
theorem pa_mono {X : Cx} {e : List Expr} {t t' : TA} (h : PA X e t) (i : ∀ σ H Q, t' σ H Q → t σ H Q) : PA X e t' := ⟨fun pos pins s σ H Q I q => h.run pos pins s σ H Q I (i σ H Q q)⟩

section
variable {X : Cx} {W : WX} {pos : Pos}
/-- names, constants -/
def kVar (i : Nat) : KE := fun σ G M R _ => match σ[i]? with
  | some (some v) => R v G M
  | _ => False
def kC (v : V) : KE := fun _ G M R _ => R v G M
theorem je_var (i : Nat) {x : Str} (hN : X.N[i]? = some x := by rfl) (hv : Vis X.env.scope x := by first | exact Or.inl rfl | exact Or.inr (Or.inl rfl) | exact Or.inr (Or.inr rfl)) (hd : (x == ("__debug__" : Str)) = false := by decide)
    (hcd : (x == ("__classdict__" : Str)) = false := by decide) : JE X W (.Name x pos) (kVar i) := pe_mono (pe_var hN hv hd hcd) fun σ H Q ⟨G, M, R, E, hv, h, hR, _⟩ => by
  unfold kVar at h
  split at h
  · rename_i v e
    exact ⟨v, e, hR v G M H hv h⟩
  · exact h.elim
theorem je_c {e : Expr} {v : V} (h : PE X e (tC v)) : JE X W e (kC v) := pe_mono h fun σ H Q ⟨G, M, R, E, hv, h, hR, _⟩ => hR v G M H hv h
theorem je_int {i : Int} {j pos} : JE X W (.Constant (.int i) j pos) (kC (.int i)) := je_c pe_int
theorem je_bl {i : Bool} {j pos} : JE X W (.Constant (.bool i) j pos) (kC (.bl i)) := je_c pe_bl
theorem je_non {j pos} : JE X W (.Constant .none j pos) (kC .non) := je_c pe_non
theorem je_str {i : Str} {j pos} : JE X W (.Constant (.str i) j pos) (kC (.str i)) := je_c pe_str
/-- two in a row -/
def kBin {β : Type} (k : V → V → Hp → Mem → (β → Hp → Mem → Prop) → Prop) (ta tb : KE) : KK β := fun σ G M R E => ta σ G M (fun x G M => tb σ G M (fun y G M => k x y G M R) E) E
abbrev KR2 := V → V → Hp → Mem → KR → Prop
def KOp (X : Cx) (f : Value → Value → Sem Value) (k : KR2) : Prop :=
  ∀ (pins : List (Addr × Obj)) (s : Shared) (σ : St) (H : Hp) (x y : V) (v u : Value) (Q : VK) (G : Hp) (M : Mem) (R : KR), Inv X pins σ H s → RelV x v → RelV y u → Hv G M H → k x y G M R →
    (∀ v G' M' H', Hv G' M' H' → R v G' M' → Q v H') → wpAny (model X.prog X.w) X.A (f v u) (EP X pins σ Q) X.xe s
theorem kop_of {f : Value → Value → Sem Value} {r : R2} {k : KR2} (ho : OpR X f r)
    (s : ∀ x y G M R H Q, Hv G M H → k x y G M R → (∀ v G' M' H', Hv G' M' H' → R v G' M' → Q v H') → r x y H Q) : KOp X f k :=
  fun pins st σ H x y v u Q G M R I rx ry hv h hR => ho pins st σ H x y v u Q I rx ry (s x y G M R H Q hv h hR)
/-- an OpR whose reading is: it holds of k in some knowledge -/
def rUp (k : KR2) : R2 := fun x y H Q => ∃ G M R, Hv G M H ∧ k x y G M R ∧ ∀ v G' M' H', Hv G' M' H' → R v G' M' → Q v H'
theorem KOp.opr {f : Value → Value → Sem Value} {k : KR2} (h : KOp X f k) : OpR X f (rUp k) := fun pins s σ H x y v u Q I rx ry ⟨G, M, R, hv, hk, hR⟩ => h pins s σ H x y v u Q G M R I rx ry hv hk hR
theorem bin_sim {ta tb : KE} {k : KR2} {σ : St} {H : Hp} {Q : VK} (h : upG W (kBin k ta tb) σ H Q) : tOp (rUp k) (upG W ta) (upG W tb) σ H Q := by
  obtain ⟨G, M, R, E, hv, h, hR, hE⟩ := h
  exact ⟨G, M, _, E, hv, h, fun x G1 M1 H1 hv1 h1 => ⟨G1, M1, _, E, hv1, h1, fun y G2 M2 H2 hv2 h2 => ⟨G2, M2, R, hv2, h2, hR⟩, hE⟩, hE⟩
theorem je_op {a b : Expr} {op : Operator} {k : KR2} {ta tb : KE} (ho : KOp X (binaryOp op) k) (ha : JE X W a ta) (hb : JE X W b tb) : JE X W (.BinOp a op b pos) (kBin k ta tb) :=
  pe_mono (pe_op ho.opr ha hb) fun _ _ _ h => bin_sim h
theorem je_cmp {a b : Expr} {op : CmpOp} {k : KR2} {ta tb : KE} (ho : KOp X (compareOp op) k) (ha : JE X W a ta) (hb : JE X W b tb) (hm : behindInMarks op b = false) : JE X W (.Compare a [op] [b] pos) (kBin k ta tb) :=
  pe_mono (pe_cmpR ho.opr ha hb hm) fun _ _ _ h => bin_sim h
/-- a value as a test -/
def asB (R : Bool → Hp → Mem → Prop) : KR := fun v G M => match v with
  | .bl b => R b G M
  | _ => False
def kT (t : KE) : KT := fun σ G M R E => t σ G M (asB R) E
theorem asB_of {R : Bool → Hp → Mem → Prop} {v : V} {G : Hp} {M : Mem} (h : asB R v G M) : ∃ c, v = .bl c ∧ R c G M := by
  cases v <;> first | exact ⟨_, rfl, h⟩ | exact h.elim
theorem t_sim {t : KE} {σ : St} {H : Hp} {Q : Bool → Hp → Prop} (h : upG W (kT t) σ H Q) : tTest (upG W t) σ H Q := by
  obtain ⟨G, M, R, E, hv, h, hR, hE⟩ := h
  refine ⟨G, M, _, E, hv, h, fun v G1 M1 H1 hv1 h1 => ?_, hE⟩
  obtain ⟨c, rfl, h2⟩ := asB_of h1
  exact ⟨c, rfl, hR c G1 M1 H1 hv1 h2⟩
theorem jt_cmp {a b : Expr} {op : CmpOp} {k : KR2} {ta tb : KE} (ho : KOp X (compareOp op) k) (ha : JE X W a ta) (hb : JE X W b tb) (hm : behindInMarks op b = false) : JT X W (.Compare a [op] [b] pos) (kT (kBin k ta tb)) :=
  pt_mono (pt_cmpR ho.opr ha hb hm) fun σ H Q h => by
    have h2 := t_sim h
    exact bin_sim h2
theorem jt_val {e : Expr} {t : KE} (h : JE X W e t) (he : ∀ whole, isTrue e X.env whole = (do let v ← whole; standAt e.pos; holding [v] (truthy v)) := by intro _; rfl) : JT X W e (kT t) :=
  pt_mono (pt_val h he) fun σ H Q h => t_sim h
/-- chains -/
def kChain (k k' : KR2) (ta tb tc : KE) : KE := fun σ G M R E => ta σ G M (fun x G M => tb σ G M (fun y G M => k x y G M (asB fun c G M => if c = true then tc σ G M (fun z G M => k' y z G M R) E else R (.bl false) G M)) E) E
theorem chain_sim {ta tb tc : KE} {k k' : KR2} {σ : St} {H : Hp} {Q : VK} (h : upG W (kChain k k' ta tb tc) σ H Q) : tChain (rUp k) (rUp k') (upG W ta) (upG W tb) (upG W tc) σ H Q := by
  obtain ⟨G, M, R, E, hv, h, hR, hE⟩ := h
  refine ⟨G, M, _, E, hv, h, fun x G1 M1 H1 hv1 h1 => ⟨G1, M1, _, E, hv1, h1, fun y G2 M2 H2 hv2 h2 => ⟨G2, M2, _, hv2, h2, fun v G3 M3 H3 hv3 h3 => ?_⟩, hE⟩, hE⟩
  obtain ⟨c, rfl, h4⟩ := asB_of h3
  refine ⟨c, rfl, ?_⟩
  cases c with
  | true =>
    rw [if_pos rfl] at h4 ⊢
    exact ⟨G3, M3, _, E, hv3, h4, fun z G4 M4 H4 hv4 h5 => ⟨G4, M4, R, hv4, h5, hR⟩, hE⟩
  | false =>
    rw [if_neg Bool.false_ne_true] at h4 ⊢
    exact hR _ G3 M3 H3 hv3 h4
theorem je_chain {a b c : Expr} {op op' : CmpOp} {k k' : KR2} {ta tb tc : KE} (ho : KOp X (compareOp op) k) (ho' : KOp X (compareOp op') k') (ha : JE X W a ta) (hb : JE X W b tb) (hc : JE X W c tc)
    (hm : lastMarks [op, op'] [b, c] = false := by with_unfolding_all rfl) : JE X W (.Compare a [op, op'] [b, c] pos) (kChain k k' ta tb tc) := pe_mono (pe_chain ho.opr ho'.opr ha hb hc hm) fun _ _ _ h => chain_sim h
theorem jt_chain {a b c : Expr} {op op' : CmpOp} {k k' : KR2} {ta tb tc : KE} (ho : KOp X (compareOp op) k) (ho' : KOp X (compareOp op') k') (ha : JE X W a ta) (hb : JE X W b tb) (hc : JE X W c tc)
    (hm : lastMarks [op, op'] [b, c] = false := by with_unfolding_all rfl) : JT X W (.Compare a [op, op'] [b, c] pos) (kT (kChain k k' ta tb tc)) := pt_mono (pt_chain ho.opr ho'.opr ha hb hc hm) fun _ _ _ h => chain_sim (t_sim h)
/-- and, or, not -/
def kAnd (t u : KT) : KT := fun σ G M R E => t σ G M (fun c G M => if c = true then u σ G M R E else R false G M) E
def kOr (t u : KT) : KT := fun σ G M R E => t σ G M (fun c G M => if c = true then R true G M else u σ G M R E) E
def kNot (t : KT) : KT := fun σ G M R E => t σ G M (fun c G M => R (!c) G M) E
def kAndV (t u : KE) : KE := fun σ G M R E => t σ G M (asB fun c G M => if c = true then u σ G M R E else R (.bl false) G M) E
def kOrV (t u : KE) : KE := fun σ G M R E => t σ G M (asB fun c G M => if c = true then R (.bl true) G M else u σ G M R E) E
def kNotV (t : KE) : KE := fun σ G M R E => t σ G M (asB fun c G M => R (.bl (!c)) G M) E
variable {a b : Expr} {rest : List Expr}
theorem jw_and1 {t : KT} (h : JT X W a t) : JW X W (.BoolOp .And [a] pos) t := pw_and1 h
theorem jw_or1 {t : KT} (h : JT X W a t) : JW X W (.BoolOp .Or [a] pos) t := pw_or1 h
theorem jw_and {t u : KT} (ha : JT X W a t) (hb : JW X W (.BoolOp .And (b :: rest) pos) u) : JW X W (.BoolOp .And (a :: b :: rest) pos) (kAnd t u) :=
  pw_mono (pw_and ha hb) fun σ H Q ⟨G, M, R, E, hv, h, hR, hE⟩ => ⟨G, M, _, E, hv, h, fun c G1 M1 H1 hv1 h1 => by
    cases c with
    | true => rw [if_pos rfl] at h1 ⊢; exact ⟨G1, M1, R, E, hv1, h1, hR, hE⟩
    | false => rw [if_neg Bool.false_ne_true] at h1 ⊢; exact hR _ G1 M1 H1 hv1 h1, hE⟩
theorem jw_or {t u : KT} (ha : JT X W a t) (hb : JW X W (.BoolOp .Or (b :: rest) pos) u) : JW X W (.BoolOp .Or (a :: b :: rest) pos) (kOr t u) :=
  pw_mono (pw_or ha hb) fun σ H Q ⟨G, M, R, E, hv, h, hR, hE⟩ => ⟨G, M, _, E, hv, h, fun c G1 M1 H1 hv1 h1 => by
    cases c with
    | true => rw [if_pos rfl] at h1 ⊢; exact hR _ G1 M1 H1 hv1 h1
    | false => rw [if_neg Bool.false_ne_true] at h1 ⊢; exact ⟨G1, M1, R, E, hv1, h1, hR, hE⟩, hE⟩
theorem JW.jt {e : Expr} {t : KT} (h : JW X W e t) : JT X W e t := PW.pt h
theorem jt_not {t : KT} (h : JT X W a t) : JT X W (.UnaryOp .Not a pos) (kNot t) :=
  pt_mono (pt_not h) fun σ H Q ⟨G, M, R, E, hv, h, hR, hE⟩ => ⟨G, M, _, E, hv, h, fun c G1 M1 H1 hv1 h1 => hR _ G1 M1 H1 hv1 h1, hE⟩
theorem je_one {op} {t : KE} (h : JE X W a t) : JE X W (.BoolOp op [a] pos) t := pe_one h
theorem je_and {t u : KE} (ha : JE X W a t) (hb : JE X W (.BoolOp .And (b :: rest) pos) u) : JE X W (.BoolOp .And (a :: b :: rest) pos) (kAndV t u) :=
  pe_mono (pe_and ha hb) fun σ H Q ⟨G, M, R, E, hv, h, hR, hE⟩ => ⟨G, M, _, E, hv, h, fun v G1 M1 H1 hv1 h1 => by
    obtain ⟨c, rfl, h2⟩ := asB_of h1
    refine ⟨c, rfl, ?_⟩
    cases c with
    | true => rw [if_pos rfl] at h2 ⊢; exact ⟨G1, M1, R, E, hv1, h2, hR, hE⟩
    | false => rw [if_neg Bool.false_ne_true] at h2 ⊢; exact hR _ G1 M1 H1 hv1 h2, hE⟩
theorem je_or {t u : KE} (ha : JE X W a t) (hb : JE X W (.BoolOp .Or (b :: rest) pos) u) : JE X W (.BoolOp .Or (a :: b :: rest) pos) (kOrV t u) :=
  pe_mono (pe_or ha hb) fun σ H Q ⟨G, M, R, E, hv, h, hR, hE⟩ => ⟨G, M, _, E, hv, h, fun v G1 M1 H1 hv1 h1 => by
    obtain ⟨c, rfl, h2⟩ := asB_of h1
    refine ⟨c, rfl, ?_⟩
    cases c with
    | true => rw [if_pos rfl] at h2 ⊢; exact hR _ G1 M1 H1 hv1 h2
    | false => rw [if_neg Bool.false_ne_true] at h2 ⊢; exact ⟨G1, M1, R, E, hv1, h2, hR, hE⟩, hE⟩
theorem je_not {t : KE} (h : JE X W a t) : JE X W (.UnaryOp .Not a pos) (kNotV t) :=
  pe_mono (pe_not h) fun σ H Q ⟨G, M, R, E, hv, h, hR, hE⟩ => ⟨G, M, _, E, hv, h, fun v G1 M1 H1 hv1 h1 => by
    obtain ⟨c, rfl, h2⟩ := asB_of h1
    exact ⟨c, rfl, hR _ G1 M1 H1 hv1 h2⟩, hE⟩
/-- a if c else b -/
def kIte (t : KT) (ta tb : KE) : KE := fun σ G M R E => t σ G M (fun c G M => if c = true then ta σ G M R E else tb σ G M R E) E
end
end BT
set_option Elab.async false
set_option linter.all false
set_option maxRecDepth 100000
set_option maxHeartbeats 4000000
namespace BT
open PySem PySem.Spec L2
open PyProof.Rows hiding St
section
variable {X : Cx} {W : WX} {pos : Pos} {a b c e : Expr} {es : List Expr}
theorem je_ite {t : KT} {ta tb : KE} (hc : JT X W c t) (ha : JE X W a ta) (hb : JE X W b tb) : JE X W (.IfExp c a b pos) (kIte t ta tb) :=
  pe_mono (pe_ifExp hc ha hb) fun σ H Q ⟨G, M, R, E, hv, h, hR, hE⟩ => ⟨G, M, _, E, hv, h, fun c G1 M1 H1 hv1 h1 => by
    cases c with
    | true => rw [if_pos rfl] at h1 ⊢; exact ⟨G1, M1, R, E, hv1, h1, hR, hE⟩
    | false => rw [if_neg Bool.false_ne_true] at h1 ⊢; exact ⟨G1, M1, R, E, hv1, h1, hR, hE⟩, hE⟩
/-! ### arguments, displays -/
def kNil : KA := fun _ G M R _ => R [] G M
def kCons (t : KE) (u : KA) : KA := fun σ G M R E => t σ G M (fun x G M => u σ G M (fun xs G M => R (x :: xs) G M) E) E
theorem ja_nil : JA X W [] kNil := pa_mono pa_nil fun σ H Q ⟨G, M, R, E, hv, h, hR, _⟩ => hR _ G M H hv h
theorem ja_cons {t : KE} {u : KA} (ha : JE X W e t) (hr : JA X W es u) (hs : starEach (e :: es) X.env = (false, eval e X.env) :: starEach es X.env := by rfl) : JA X W (e :: es) (kCons t u) :=
  pa_mono (pa_cons ha hr hs) fun σ H Q ⟨G, M, R, E, hv, h, hR, hE⟩ => ⟨G, M, _, E, hv, h, fun x G1 M1 H1 hv1 h1 => ⟨G1, M1, _, E, hv1, h1, fun xs G2 M2 H2 hv2 h2 => hR _ G2 M2 H2 hv2 h2, hE⟩, hE⟩
def kLst (t : KA) : KE := fun σ G M R E => t σ G M (fun xs G M => xs.length ≤ sizeLine ∧ ∀ p, Fr G M p → R (.ref p) G ((p, .lst xs) :: M)) E
def kTup (t : KA) : KE := fun σ G M R E => t σ G M (fun xs G M => xs.length ≤ sizeLine ∧ ∀ p, Fr G M p → R (.ref p) (upd G p (.tup xs)) M) E
theorem je_lst {t : KA} (h : JA X W es t) : JE X W (.List es pos) (kLst t) :=
  pe_mono (pe_lst h) fun σ H Q ⟨G, M, R, E, hv, h, hR, hE⟩ => ⟨G, M, _, E, hv, h, fun xs G1 M1 H1 hv1 h1 => ⟨h1.1, fun p hp => hR _ G1 _ _ (hv1.newM hp) (h1.2 p (hv1.fr hp))⟩, hE⟩
theorem je_tup {t : KA} {k : Nat} (h : JA X W es t) : JE X W (.Tuple es k pos) (kTup t) :=
  pe_mono (pe_tup h) fun σ H Q ⟨G, M, R, E, hv, h, hR, hE⟩ => ⟨G, M, _, E, hv, h, fun xs G1 M1 H1 hv1 h1 => ⟨h1.1, fun p hp => hR _ _ M1 _ (hv1.newG hp) (h1.2 p (hv1.fr hp))⟩, hE⟩
/-! ### operators -/
def kAdd : KR2 := fun x y G M R => match x, y with
  | .int i, .int j => R (.int (i + j)) G M
  | .str i, .str j => i.length + j.length ≤ sizeLine ∧ R (.str (i ++ j)) G M
  | .ref a, .ref b => ∃ xs ys, At G M a (.lst xs) ∧ At G M b (.lst ys) ∧ xs.length + ys.length ≤ sizeLine ∧ ∀ p, Fr G M p → R (.ref p) G ((p, .lst (xs ++ ys)) :: M)
  | _, _ => False
theorem kop_add : KOp X (binaryOp .Add) kAdd := fun pins s σ H x y v u Q G M R I rx ry hv h hR => by
  cases x <;> cases y <;> first
    | exact op_add pins s σ H _ _ v u Q I rx ry ⟨_, _, rfl, rfl, hR _ G M H hv h⟩
    | exact op_add_str pins s σ H _ _ v u Q I rx ry ⟨_, _, rfl, rfl, h.1, hR _ G M H hv h.2⟩
    | (obtain ⟨xs, ys, h1, h2, h3, h4⟩ := h
       exact op_cat pins s σ H _ _ v u Q I rx ry ⟨_, _, xs, ys, rfl, rfl, hv.at h1, hv.at h2, h3, fun p hp => hR _ G _ _ (hv.newM hp) (h4 p (hv.fr hp))⟩)
    | exact h.elim
def kI (C : Int → Int → Prop) (g : Int → Int → V) : KR2 := fun x y G M R => match x, y with
  | .int i, .int j => C i j ∧ R (g i j) G M
  | _, _ => False
def kI0 (g : Int → Int → V) : KR2 := fun x y G M R => match x, y with
  | .int i, .int j => R (g i j) G M
  | _, _ => False
theorem kop_I {f : Value → Value → Sem Value} {C : Int → Int → Prop} {g : Int → Int → V} (h : OpR X f (rI C g)) : KOp X f (kI C g) := kop_of h fun x y G M R H Q hv h hR => by
  cases x <;> cases y <;> first
    | exact ⟨_, _, rfl, rfl, h.1, hR _ G M H hv h.2⟩
    | exact h.elim
theorem kop_I0 {f : Value → Value → Sem Value} {g : Int → Int → V} (h : OpR X f (rI0 g)) : KOp X f (kI0 g) := kop_of h fun x y G M R H Q hv h hR => by
  cases x <;> cases y <;> first
    | exact ⟨_, _, rfl, rfl, hR _ G M H hv h⟩
    | exact h.elim
/-- sizes of products, quotients -/
def MulOk (i j : Int) : Prop := CMul i j ∨ CMulW i j
theorem kop_sub : KOp X (binaryOp .Sub) (kI0 fun i j => .int (i - j)) := kop_I0 op_sub
/-- a product of ints, a list repeated -/
def kMul : KR2 := fun x y G M R => match x, y with
  | .int i, .int j => MulOk i j ∧ R (.int (i * j)) G M
  | .ref a, .int k => ∃ xs, At G M a (.lst xs) ∧ -(2 ^ 63) ≤ k ∧ k < 2 ^ 63 ∧ xs.length * k.toNat ≤ sizeLine ∧ ∀ p, Fr G M p → R (.ref p) G ((p, .lst (List.replicate k.toNat xs).flatten) :: M)
  | _, _ => False
theorem kop_mul : KOp X (binaryOp .Mult) kMul := fun pins s σ H x y v u Q G M R I rx ry hv h hR => by
  cases x <;> cases y <;> first
    | (obtain ⟨hc, h⟩ := h
       rcases hc with hc | hc
       · exact op_mul pins s σ H _ _ v u Q I rx ry ⟨_, _, rfl, rfl, hc, hR _ G M H hv h⟩
       · exact op_mulW pins s σ H _ _ v u Q I rx ry ⟨_, _, rfl, rfl, hc, hR _ G M H hv h⟩)
    | (obtain ⟨xs, h1, h2, h3, h4, h5⟩ := h
       exact op_rep pins s σ H _ _ v u Q I rx ry ⟨_, _, xs, rfl, rfl, hv.at h1, h2, h3, h4, fun p hp => hR _ G _ _ (hv.newM hp) (h5 p (hv.fr hp))⟩)
    | exact h.elim
theorem kop_mod : KOp X (binaryOp .Mod) (kI (fun _ j => 0 < j) fun i j => .int (i % j)) := kop_I op_mod
theorem kop_fdiv : KOp X (binaryOp .FloorDiv) (kI CDivW fun i j => .int (i / j)) := kop_I op_fdivW
theorem kop_pow : KOp X (binaryOp .Pow) (kI CPow fun i j => .int (i ^ j.toNat)) := kop_I op_pow
theorem kop_shl : KOp X (binaryOp .LShift) (kI CPow fun i j => .int (i * 2 ^ j.toNat)) := kop_I op_shl
theorem kop_shr : KOp X (binaryOp .RShift) (kI (fun _ j => 0 ≤ j) fun i j => .int (i / 2 ^ j.toNat)) := kop_I op_shr
theorem kop_lt : KOp X (compareOp .Lt) (kI0 fun i j => .bl (decide (i < j))) := kop_I0 op_lt
theorem kop_le : KOp X (compareOp .LtE) (kI0 fun i j => .bl (decide (i ≤ j))) := kop_I0 op_le
theorem kop_gt : KOp X (compareOp .Gt) (kI0 fun i j => .bl (decide (j < i))) := kop_I0 op_gt
theorem kop_ge : KOp X (compareOp .GtE) (kI0 fun i j => .bl (decide (j ≤ i))) := kop_I0 op_ge
/-- equality: of plain values at once, of data by what they hold -/
def kEqv (neg : Bool) (K : PySem.W.Frag) : KR2 := fun x y G M R =>
  match scal x y with
  | true => R (.bl (if neg then !decide (x = y) else decide (x = y))) G M
  | false => ∃ d e, DatAt K G M x d ∧ DatAt K G M y e ∧ SeqAt.shaped d = true ∧ SeqAt.shaped e = true ∧ R (.bl (if neg then !PyData.eqv d e else PyData.eqv d e)) G M
theorem kop_eq (hu : X.A.units + 64 < cLine) : KOp X (compareOp .Eq) (kEqv false X.K) := fun pins s σ H x y v u Q G M R I rx ry hv h hR => by
  unfold kEqv at h
  split at h
  · rename_i e
    exact op_eq pins s σ H _ _ v u Q I rx ry ⟨e, hR _ G M H hv h⟩
  · obtain ⟨d, e, h1, h2, h3, h4, h5⟩ := h
    exact op_eqD hu pins s σ H _ _ v u Q I rx ry ⟨d, e, hv.dat h1, hv.dat h2, h3, h4, hR _ G M H hv h5⟩
theorem kop_ne (hu : X.A.units + 64 < cLine) : KOp X (compareOp .NotEq) (kEqv true X.K) := fun pins s σ H x y v u Q G M R I rx ry hv h hR => by
  unfold kEqv at h
  split at h
  · rename_i e
    exact op_ne pins s σ H _ _ v u Q I rx ry ⟨e, hR _ G M H hv h⟩
  · obtain ⟨d, e, h1, h2, h3, h4, h5⟩ := h
    exact op_neD hu pins s σ H _ _ v u Q I rx ry ⟨d, e, hv.dat h1, hv.dat h2, h3, h4, hR _ G M H hv h5⟩
def kIs (neg : Bool) : KR2 := fun x y G M R => match y with
  | .non => R (.bl (if neg then !decide (x = .non) else decide (x = .non))) G M
  | _ => False
theorem kop_is : KOp X (compareOp .Is) (kIs false) := kop_of op_isN fun x y G M R H Q hv h hR => by
  cases y <;> first
    | exact ⟨rfl, hR _ G M H hv h⟩
    | exact h.elim
theorem kop_isnot : KOp X (compareOp .IsNot) (kIs true) := kop_of op_notN fun x y G M R H Q hv h hR => by
  cases y <;> first
    | exact ⟨rfl, hR _ G M H hv h⟩
    | exact h.elim
def kUn (k : V → Hp → Mem → KR → Prop) (t : KE) : KE := fun σ G M R E => t σ G M (fun x G M => k x G M R) E
def kNeg : V → Hp → Mem → KR → Prop := fun x G M R => match x with
  | .int i => R (.int (-i)) G M
  | _ => False
theorem je_neg {t : KE} (h : JE X W a t) : JE X W (.UnaryOp .USub a pos) (kUn kNeg t) :=
  pe_mono (pe_un un_neg h) fun σ H Q ⟨G, M, R, E, hv, h, hR, hE⟩ => ⟨G, M, _, E, hv, h, fun x G1 M1 H1 hv1 h1 => by
    cases x <;> first
      | exact ⟨_, rfl, hR _ G1 M1 H1 hv1 h1⟩
      | exact h1.elim, hE⟩
/-! ### subscripts, slices -/
def kIx (K : PySem.W.Frag) : KR2 := fun x y G M R => match x, y with
  | .ref a, .int i => ∃ xs v, SeqAt' K G M a xs ∧ atI xs i = some v ∧ R v G M
  | .str z, .int i => ∃ c, z.length ≤ sizeLine ∧ atI z.cps.toList i = some c ∧ R (.str ⟨#[c]⟩) G M
  | _, _ => False
theorem ix_k : IxR X (rUp (kIx X.K)) := fun value slice pins s σ H x y v u Q I rx ry ⟨G, M, R, hv, h, hR⟩ hs => by
  cases x <;> cases y <;> first
    | (obtain ⟨xs, w, h1, h2, h3⟩ := h
       rcases h1 with h1 | h1
       · exact ix_list value slice pins s σ H _ _ v u Q I rx ry ⟨_, xs, _, w, rfl, rfl, hv.lst h1, h2, hR _ G M H hv h3⟩ hs
       · exact ix_tup value slice pins s σ H _ _ v u Q I rx ry ⟨_, xs, _, w, rfl, rfl, hv.tup h1, h2, hR _ G M H hv h3⟩ hs)
    | (obtain ⟨c, h1, h2, h3⟩ := h
       exact ix_str value slice pins s σ H _ _ v u Q I rx ry ⟨_, _, c, rfl, rfl, h1, h2, hR _ G M H hv h3⟩ hs)
    | exact h.elim
theorem je_ix {ta tb : KE} (ha : JE X W a ta) (hb : JE X W b tb) (hs : PlainIx b := by exact fun _ _ => rfl) : JE X W (.Subscript a b pos) (kBin (kIx X.K) ta tb) :=
  pe_mono (pe_ix ix_k ha hb hs) fun _ _ _ h => bin_sim h
abbrev KO := KK (Option Int)
def JO (X : Cx) (W : WX) (e : Option Expr) (t : KO) : Prop := PO X e (upG W t)
theorem po_mono {X : Cx} {e : Option Expr} {t t' : TO} (h : PO X e t) (i : ∀ σ H Q, t' σ H Q → t σ H Q) : PO X e t' := ⟨fun pins s σ H Q I q => h.run pins s σ H Q I (i σ H Q q)⟩
def kNoP : KO := fun _ G M R _ => R none G M
def asI (R : Option Int → Hp → Mem → Prop) : KR := fun v G M => match v with
  | .int i => R (some i) G M
  | _ => False
def kPart (t : KE) : KO := fun σ G M R E => t σ G M (asI R) E
theorem jo_none : JO X W none kNoP := po_mono po_none fun σ H Q ⟨G, M, R, E, hv, h, hR, _⟩ => hR _ G M H hv h
theorem jo_some {t : KE} (h : JE X W e t) : JO X W (some e) (kPart t) := po_mono (po_some h) fun σ H Q ⟨G, M, R, E, hv, h, hR, hE⟩ => ⟨G, M, _, E, hv, h, fun v G1 M1 H1 hv1 h1 => by
    cases v <;> first
      | exact ⟨_, rfl, hR _ G1 M1 H1 hv1 h1⟩
      | exact h1.elim, hE⟩
/-- xs[lo:hi] of a list -/
def kSl (K : PySem.W.Frag) (t : KE) (tl th : KO) : KE := fun σ G M R E => t σ G M (fun x G M => tl σ G M (fun l G M => th σ G M (fun u G M => match x with
  | .ref a => ∃ xs, LstAt K G M a xs ∧ ∀ p, Fr G M p → R (.ref p) G ((p, .lst (cutV xs l u)) :: M)
  | _ => False) E) E) E
theorem je_slice {t : KE} {lo hi : Option Expr} {tl th : KO} {p2 : Pos} (he : JE X W e t) (hl : JO X W lo tl) (hu : JO X W hi th) : JE X W (.Subscript e (.Slice lo hi none p2) pos) (kSl X.K t tl th) :=
  pe_mono (pe_slice sl_list he hl hu) fun σ H Q ⟨G, M, R, E, hv, h, hR, hE⟩ => ⟨G, M, _, E, hv, h, fun x G1 M1 H1 hv1 h1 => ⟨G1, M1, _, E, hv1, h1, fun l G2 M2 H2 hv2 h2 => ⟨G2, M2, _, E, hv2, h2, fun u G3 M3 H3 hv3 h3 => by
    cases x <;> first
      | (obtain ⟨xs, q1, q2⟩ := h3
         exact ⟨_, xs, rfl, hv3.lst q1, fun p hp => hR _ G3 _ _ (hv3.newM hp) (q2 p (hv3.fr hp))⟩)
      | exact h3.elim, hE⟩, hE⟩, hE⟩
/-! ### calls of built-ins -/
abbrev KC := List V → Hp → Mem → KR → Prop
def rUpC (k : KC) : List V → Hp → VK → Prop := fun vs H Q => ∃ G M R, Hv G M H ∧ k vs G M R ∧ ∀ v G' M' H', Hv G' M' H' → R v G' M' → Q v H'
def kCB (k : KC) (t : KA) : KE := fun σ G M R E => t σ G M (fun vs G M => k vs G M R) E
def KCall (X : Cx) (f : Value) (k : KC) : Prop := CallR X f (rUpC k)
theorem kcall_of {f : Value} {r : List V → Hp → VK → Prop} {k : KC} (h : CallR X f r)
    (s : ∀ vs G M R H Q, Hv G M H → k vs G M R → (∀ v G' M' H', Hv G' M' H' → R v G' M' → Q v H') → r vs H Q) : KCall X f k :=
  fun pins st σ H xs us Q I rv ⟨G, M, R, hv, hk, hR⟩ => h pins st σ H xs us Q I rv (s xs G M R H Q hv hk hR)
theorem cb_sim {t : KA} {k : KC} {σ : St} {H : Hp} {Q : VK} (h : upG W (kCB k t) σ H Q) : tCB (rUpC k) (upG W t) σ H Q := by
  obtain ⟨G, M, R, E, hv, h, hR, hE⟩ := h
  exact ⟨G, M, _, E, hv, h, fun vs G1 M1 H1 hv1 h1 => ⟨G1, M1, R, hv1, h1, hR⟩, hE⟩
variable {x : Str} {p : Pos} {id T : String}
theorem je_callB {k : KC} {t : KA} (hc : KCall X (.builtin id) k) (hm : X.mg x = none) (ha : JA X W (e :: es) t) (hv : bootBuiltins x = some (.builtin id) := by decide +kernel) (hg : Gl X x := by rfl) (hn : x ≠ "__name__" := by decide) (hdb : (x == ("__debug__" : Str)) = false := by decide)
    (he : starEach (e :: es) X.env = (false, eval e X.env) :: starEach es X.env := by rfl) (hpl : (backTo pos (starEach es X.env)).any (·.1) = false := by rfl) : JE X W (.Call (.Name x p) (e :: es) [] pos) (kCB k t) :=
  pe_mono (pe_callB hc hg hm hv ha hn hdb he hpl) fun _ _ _ h => cb_sim h
theorem je_callTy {k : KC} {t : KA} (hc : KCall X (.type T) k) (hm : X.mg x = none) (ha : JA X W (e :: es) t) (hv : bootBuiltins x = some (.type T) := by decide +kernel) (hg : Gl X x := by rfl) (hn : x ≠ "__name__" := by decide) (hdb : (x == ("__debug__" : Str)) = false := by decide)
    (he : starEach (e :: es) X.env = (false, eval e X.env) :: starEach es X.env := by rfl) (hpl : (backTo pos (starEach es X.env)).any (·.1) = false := by rfl) : JE X W (.Call (.Name x p) (e :: es) [] pos) (kCB k t) :=
  pe_mono (pe_callTy hc hg hm hv ha hn hdb he hpl) fun _ _ _ h => cb_sim h
/-- a built-in type's name as a value -/
theorem je_ty {T : String} {x : Str} {pos : Pos} (hm : X.mg x = none) (hv : bootBuiltins x = some (.type T) := by decide +kernel) (hg : Gl X x := by rfl) (hn : x ≠ "__name__" := by decide) (hd : (x == ("__debug__" : Str)) = false := by decide) : JE X W (.Name x pos) (kC (.ty T)) :=
  je_c (pe_bltn hg hm hv rfl hn hd)
/-- a module's constant -/
theorem je_glob {x : Str} {v : V} {u : Value} {pos : Pos} (hm : X.mg x = some u) (r : RelV v u) (hg : Gl X x := by rfl) (hd : (x == ("__debug__" : Str)) = false := by decide) : JE X W (.Name x pos) (kC v) := je_c (pe_glob hg hm r hd)
def kLen (K : PySem.W.Frag) : KC := fun vs G M R => match vs with
  | [.ref a] => ∃ xs, SeqAt' K G M a xs ∧ R (.int xs.length) G M
  | _ => False
theorem kc_len : KCall X (.builtin "len") (kLen X.K) := kcall_of call_len_seq fun vs G M R H Q hv h hR => by
  match vs, h with
  | [.ref a], ⟨xs, h1, h2⟩ => exact ⟨a, xs, rfl, h1.elim (fun q => .inl (hv.lst q)) (fun q => .inr (hv.tup q)), hR _ G M H hv h2⟩
def kList (K : PySem.W.Frag) : KC := fun vs G M R => match vs with
  | [.ref a] => ∃ xs, SeqAt' K G M a xs ∧ ∀ p, Fr G M p → R (.ref p) G ((p, .lst xs) :: M)
  | _ => False
theorem kc_list : KCall X (.type "list") (kList X.K) := kcall_of call_list_of fun vs G M R H Q hv h hR => by
  match vs, h with
  | [.ref a], ⟨xs, h1, h2⟩ => exact ⟨a, xs, rfl, h1.elim (fun q => .inl (hv.lst q)) (fun q => .inr (hv.tup q)), fun p hp => hR _ G _ _ (hv.newM hp) (h2 p (hv.fr hp))⟩
def kMin2 : KC := fun vs G M R => match vs with
  | [.int i, .int j] => R (.int (min i j)) G M
  | _ => False
def kMax2 : KC := fun vs G M R => match vs with
  | [.int i, .int j] => R (.int (max i j)) G M
  | _ => False
theorem kc_min2 (hc : X.calm = true := by rfl) : KCall X (.builtin "min") kMin2 := kcall_of (call_min2 hc) fun vs G M R H Q hv h hR => by
  match vs, h with
  | [.int i, .int j], h =>
    refine ⟨i, j, rfl, ?_⟩
    have e : (if j < i then j else i) = min i j := by split <;> omega
    rw [e]
    exact hR _ G M H hv h
theorem kc_max2 (hc : X.calm = true := by rfl) : KCall X (.builtin "max") kMax2 := kcall_of (call_max2 hc) fun vs G M R H Q hv h hR => by
  match vs, h with
  | [.int i, .int j], h =>
    refine ⟨i, j, rfl, ?_⟩
    have e : (if j > i then j else i) = max i j := by split <;> omega
    rw [e]
    exact hR _ G M H hv h
def kInt : KC := fun vs G M R => match vs with
  | [.int i] => R (.int i) G M
  | [.bl k] => R (.int (if k then 1 else 0)) G M
  | _ => False
theorem kc_int : KCall X (.type "int") kInt := kcall_of call_int1 fun vs G M R H Q hv h hR => by
  match vs, h with
  | [.int i], h => exact .inl ⟨i, rfl, hR _ G M H hv h⟩
  | [.bl i], h => exact .inr ⟨i, rfl, hR _ G M H hv h⟩
/-- min(xs), max(xs) of ints -/
def kMinL (K : PySem.W.Frag) : KC := fun vs G M R => match vs with
  | [.ref a] => ∃ ns : List Int, LstAt K G M a (ns.map V.int) ∧ 0 < ns.length ∧ ∀ m, m ∈ ns → (∀ y, y ∈ ns → m ≤ y) → R (.int m) G M
  | _ => False
def kMaxL (K : PySem.W.Frag) : KC := fun vs G M R => match vs with
  | [.ref a] => ∃ ns : List Int, LstAt K G M a (ns.map V.int) ∧ 0 < ns.length ∧ ∀ m, m ∈ ns → (∀ y, y ∈ ns → y ≤ m) → R (.int m) G M
  | _ => False
theorem kc_minL (hc : X.calm = true := by rfl) : KCall X (.builtin "min") (kMinL X.K) := kcall_of (cr_min hc) fun vs G M R H Q hv h hR => by
  match vs, h with
  | [.ref a], ⟨ns, h1, h2, h3⟩ => exact ⟨a, ns, rfl, hv.lst h1, h2, fun m q1 q2 => hR _ G M H hv (h3 m q1 q2)⟩
theorem kc_maxL (hc : X.calm = true := by rfl) : KCall X (.builtin "max") (kMaxL X.K) := kcall_of (cr_max hc) fun vs G M R H Q hv h hR => by
  match vs, h with
  | [.ref a], ⟨ns, h1, h2, h3⟩ => exact ⟨a, ns, rfl, hv.lst h1, h2, fun m q1 q2 => hR _ G M H hv (h3 m q1 q2)⟩
def kAll (K : PySem.W.Frag) : KC := fun vs G M R => match vs with
  | [.ref a] => ∃ bs : List Bool, LstAt K G M a (bs.map V.bl) ∧ R (.bl (bs.all _root_.id)) G M
  | _ => False
theorem kc_all (hc : X.calm = true := by rfl) : KCall X (.builtin "all") (kAll X.K) := kcall_of (cr_all hc) fun vs G M R H Q hv h hR => by
  match vs, h with
  | [.ref a], ⟨ns, h1, h2⟩ => exact ⟨a, ns, rfl, hv.lst h1, hR _ G M H hv h2⟩
def kSum (K : PySem.W.Frag) : KC := fun vs G M R => match vs with
  | [.ref a] => ∃ ns : List Int, LstAt K G M a (ns.map V.int) ∧ R (.int ns.sum) G M
  | _ => False
theorem kc_sum (hc : X.calm = true := by rfl) : KCall X (.builtin "sum") (kSum X.K) := kcall_of (cr_sum hc) fun vs G M R H Q hv h hR => by
  match vs, h with
  | [.ref a], ⟨ns, h1, h2⟩ => exact ⟨a, ns, rfl, hv.lst h1, hR _ G M H hv h2⟩
/-- isinstance(x, c) -/
def kIsi (K : PySem.W.Frag) : KC := fun vs G M R => match vs with
  | [x, c] => ∃ (t u : Value) (b : Bool), ClsV c u ∧ (∀ H, Hv G M H → TyX K H x t) ∧ PySem.W.kitOne K t u = some b ∧ R (.bl b) G M
  | _ => False
theorem kc_isi : KCall X (.builtin "isinstance") (kIsi X.K) := kcall_of call_isi fun vs G M R H Q hv h hR => by
  match vs, h with
  | [x, c], ⟨t, u, b, h1, h2, h3, h4⟩ => exact ⟨x, c, t, u, b, rfl, h1, h2 H hv, h3, hR _ G M H hv h4⟩
/-! ### methods of built-in types -/
abbrev KM := V → List V → Hp → Mem → KR → Prop
def rUpM (k : KM) : V → List V → Hp → VK → Prop := fun x vs H Q => ∃ G M R, Hv G M H ∧ k x vs G M R ∧ ∀ v G' M' H', Hv G' M' H' → R v G' M' → Q v H'
def KMt (X : Cx) (id : String) (k : KM) : Prop := MtR X id (rUpM k)
theorem kmt_of {r : V → List V → Hp → VK → Prop} {k : KM} (h : MtR X id r)
    (s : ∀ x vs G M R H Q, Hv G M H → k x vs G M R → (∀ v G' M' H', Hv G' M' H' → R v G' M' → Q v H') → r x vs H Q) : KMt X id k :=
  fun pins st σ H x xs v us Q I rx rv ⟨G, M, R, hv, hk, hR⟩ => h pins st σ H x xs v us Q I rx rv (s x xs G M R H Q hv hk hR)
def kBM (K : PySem.W.Frag) (T : String) (k : KM) (to : KE) (t : KA) : KE := fun σ G M R E => to σ G M (fun x G M => (∀ H, Hv G M H → tyV K T x H) ∧ t σ G M (fun vs G M => k x vs G M R) E) E
def kBM0 (K : PySem.W.Frag) (T : String) (k : KM) (to : KE) : KE := fun σ G M R E => to σ G M (fun x G M => (∀ H, Hv G M H → tyV K T x H) ∧ k x [] G M R) E
variable {o : Expr} {name : Str} {apos cpos : Pos}
theorem je_bm {k : KM} {to : KE} {t : KA} (pa : PlainAttrs T) (slot : Slot T name id) (hty : typeOf (.builtin id) = pure (.type "method_descriptor")) (hm : KMt X id k) (ho : JE X W o to) (ha : JA X W (e :: es) t)
    (hbase : attributeBase o name X.env (eval o X.env) = eval o X.env := by rfl)
    (hfew : ((backTo cpos (starEach (e :: es) X.env)).all (fun x => !x.1) && (backToKw cpos (keywordEach [] X.env)).all (fun x => x.1.isSome)
      && decide ((e :: es).length + ([] : List Keyword).length + (if ([] : List Keyword).isEmpty then 0 else 1) < 30)) = true := by rfl)
    (hline : (apos.endLine == cpos.line) = true := by rfl) (hs : starEach (e :: es) X.env = (false, eval e X.env) :: starEach es X.env := by rfl) (hplain : (backTo cpos (starEach es X.env)).any (·.1) = false := by rfl) :
    JE X W (.Call (.Attribute o name apos) (e :: es) [] cpos) (kBM X.K T k to t) :=
  pe_mono (pe_bm pa slot hty hm ho ha hbase hfew hline hs hplain) fun σ H Q ⟨G, M, R, E, hv, h, hR, hE⟩ => ⟨G, M, _, E, hv, h, fun x G1 M1 H1 hv1 h1 => ⟨h1.1 H1 hv1, G1, M1, _, E, hv1, h1.2, fun vs G2 M2 H2 hv2 h2 => ⟨G2, M2, R, hv2, h2, hR⟩, hE⟩, hE⟩
theorem je_bm0 {k : KM} {to : KE} (pa : PlainAttrs T) (slot : Slot T name id) (hty : typeOf (.builtin id) = pure (.type "method_descriptor")) (hm : KMt X id k) (ho : JE X W o to)
    (hbase : attributeBase o name X.env (eval o X.env) = eval o X.env := by rfl) (hline : (apos.endLine == cpos.line) = true := by rfl) : JE X W (.Call (.Attribute o name apos) [] [] cpos) (kBM0 X.K T k to) :=
  pe_mono (pe_bm0 pa slot hty hm ho hbase hline) fun σ H Q ⟨G, M, R, E, hv, h, hR, hE⟩ => ⟨G, M, _, E, hv, h, fun x G1 M1 H1 hv1 h1 => ⟨h1.1 H1 hv1, G1, M1, R, hv1, h1.2, hR⟩, hE⟩
def kAppend : KM := fun x vs G M R => match x, vs with
  | .ref a, [y] => ∃ n xs, M[n]? = some (a, .lst xs) ∧ xs.length < sizeLine ∧ R .non G (M.set n (a, .lst (xs ++ [y])))
  | _, _ => False
theorem km_append : KMt X "list.append" kAppend := kmt_of mt_append fun x vs G M R H Q hv h hR => by
  match x, vs, h with
  | .ref a, [y], ⟨n, xs, h1, h2, h3⟩ => exact ⟨a, xs, y, rfl, rfl, hv.get h1, h2, hR _ G _ _ (hv.set h1) h3⟩
def kExtend : KM := fun x vs G M R => match x, vs with
  | .ref a, [.ref b] => ∃ n xs ys, M[n]? = some (a, .lst xs) ∧ At G M b (.lst ys) ∧ xs.length + ys.length ≤ sizeLine ∧ R .non G (M.set n (a, .lst (xs ++ ys)))
  | _, _ => False
theorem km_extend : KMt X "list.extend" kExtend := kmt_of mt_extend fun x vs G M R H Q hv h hR => by
  match x, vs, h with
  | .ref a, [.ref b], ⟨n, xs, ys, h1, h2, h3, h4⟩ => exact ⟨a, b, xs, ys, rfl, rfl, hv.get h1, hv.at h2, h3, hR _ G _ _ (hv.set h1) h4⟩
def kReverse : KM := fun x vs G M R => match x, vs with
  | .ref a, [] => ∃ n xs, M[n]? = some (a, .lst xs) ∧ R .non G (M.set n (a, .lst xs.reverse))
  | _, _ => False
theorem km_reverse : KMt X "list.reverse" kReverse := kmt_of mt_reverse fun x vs G M R H Q hv h hR => by
  match x, vs, h with
  | .ref a, [], ⟨n, xs, h1, h3⟩ => exact ⟨a, xs, rfl, rfl, hv.get h1, hR _ G _ _ (hv.set h1) h3⟩
end
/-! ### defs -/
abbrev KSp := List V → Hp → Mem → KR → KX → Prop
def lift (S : KSp) : Sp := fun vs H Q E => ∃ G M R X, Hv G M H ∧ S vs G M R X ∧ (∀ v G' M' H', Hv G' M' H' → R v G' M' → Q v H') ∧ (∀ c d G' M' H', Hv G' M' H' → X c d G' M' → E c d H')
def kCall (S : KSp) (t : KA) : KE := fun σ G M R E => t σ G M (fun vs G M => S vs G M R E) E
section
variable {X : Cx} {W : WX} {pos p : Pos} {e : Expr} {es : List Expr} {x : Str} {k : Nat} {f : Addr} {fd : FuncData} {ps : List Str} {S : KSp} {t : KA}
theorem je_call (F : FnOk X.prog X.w X.K X.mg X.base (L2.CX X.prog X.w) k f fd ps (lift S)) (hr : Room k X.A) (tk : Takes X W) (hm : X.mg x = some (.ref f)) (hk : PySem.W.keepIn X.K (.ref f) = true) (hb : Binds X.K fd ps []) (ha : JA X W (e :: es) t) (hg : Gl X x := by rfl)
    (hdb : (x == ("__debug__" : Str)) = false := by decide) (he : starEach (e :: es) X.env = (false, eval e X.env) :: starEach es X.env := by rfl) (hpl : (backTo pos (starEach es X.env)).any (·.1) = false := by rfl) :
    JE X W (.Call (.Name x p) (e :: es) [] pos) (kCall S t) :=
  pe_mono (pe_callS F hr hg hm hk hb (passAt tk) ha hdb he hpl) fun σ H Q ⟨G, M, R, E, hv, h, hR, hE⟩ =>
    ⟨G, M, _, E, hv, h, fun vs G1 M1 H1 hv1 h1 => ⟨G1, M1, R, E, hv1, h1, hR, hE⟩, hE⟩
end
end BT
set_option Elab.async false
set_option linter.all false
set_option maxRecDepth 100000
set_option maxHeartbeats 4000000
namespace BT
open PySem PySem.Spec L2
open PyProof.Rows hiding St
/-! ### statements -/
structure Kd where
  nx : St → Hp → Mem → Prop
  rt : KR
  bk : St → Hp → Mem → Prop := fun _ _ _ => False
  ct : St → Hp → Mem → Prop := fun _ _ _ => False
  xc : Value → Option Addr → St → Hp → Mem → Prop := fun _ _ _ _ _ => False
abbrev KS := Kd → St → Hp → Mem → Prop
structure EndsTo (W : WX) (d : Kd) (D : Ends) : Prop where
  nx : ∀ σ G M H, Hv G M H → d.nx σ G M → D.nx σ H
  rt : ∀ v G M H, Hv G M H → d.rt v G M → D.rt v H
  bk : ∀ σ G M H, Hv G M H → d.bk σ G M → D.bk σ H
  ct : ∀ σ G M H, Hv G M H → d.ct σ G M → D.ct σ H
  xc : ∀ c a σ G M H, Hv G M H → d.xc c a σ G M → W c a σ H
def upS (W : WX) (t : KS) : TS := fun D σ H => ∃ G M d, Hv G M H ∧ t d σ G M ∧ EndsTo W d D
def JS (X : Cx) (W : WX) (s : Stmt) (t : KS) : Prop := PS X s (upS W t)
def JSs (X : Cx) (W : WX) (s : List Stmt) (t : KS) : Prop := PSs X s (upS W t)
theorem ps_mono {X : Cx} {s : Stmt} {t t' : TS} (h : PS X s t) (i : ∀ D σ H, t' D σ H → t D σ H) : PS X s t' := ⟨fun pins st σ H D I q => h.run pins st σ H D I (i D σ H q)⟩
theorem pss_mono {X : Cx} {s : List Stmt} {t t' : TS} (h : PSs X s t) (i : ∀ D σ H, t' D σ H → t D σ H) : PSs X s t' := ⟨fun pins st σ H D I q => h.run pins st σ H D I (i D σ H q)⟩
def Kd.x (d : Kd) (σ : St) : KX := fun c a G M => d.xc c a σ G M
section
variable {X : Cx} {W : WX} {pos : Pos} {s : Stmt} {ss : List Stmt} {e : Expr} {t u : KS}
def kNext : KS := fun D σ G M => D.nx σ G M
def kSeq (t u : KS) : KS := fun D σ G M => ∃ G' M', Wk G M G' M' ∧ t { D with nx := u D } σ G' M'
def kNever : KS := fun _ _ _ _ => False
theorem jss_nil : JSs X W [] kNext := pss_mono pss_nil fun D σ H ⟨G, M, d, hv, h, en⟩ => en.nx σ G M H hv h
theorem jss_cons (h1 : JS X W s t) (h2 : JSs X W ss u) : JSs X W (s :: ss) (kSeq t u) := pss_mono (pss_cons h1 h2) fun D σ H ⟨G, M, d, hv, ⟨G', M', wk, h⟩, en⟩ =>
  ⟨G', M', _, wk H hv, h, ⟨fun σ' G2 M2 H2 hv2 q => ⟨G2, M2, d, hv2, q, en⟩, en.rt, en.bk, en.ct, en.xc⟩⟩
theorem js_never : JS X W s kNever := ps_mono ps_never fun D σ H ⟨G, M, d, hv, h, en⟩ => h
theorem js_pass : JS X W (.Pass pos) kNext := ps_mono ps_pass fun D σ H ⟨G, M, d, hv, h, en⟩ => en.nx σ G M H hv h
def kSet (i : Nat) (t : KE) : KS := fun D σ G M => t σ G M (fun v G M => D.nx (σ.set i (some v)) G M) (D.x σ)
theorem js_set {i : Nat} {x : Str} {t : KE} {pos' : Pos} (he : JE X W e t) (hN : X.N.Nodup) (hi : X.N[i]? = some x := by rfl) (hx : Loc X.env.scope x := by first | exact Or.inl rfl | exact Or.inr rfl)
    (hs : swapsWith e (some (.Name x pos')) pos.line X.env = pure false := by rfl) (hf : X.fn x = true ∨ X.env.scope.names.lookup x = some .local := by first | exact .inl rfl | exact .inr rfl | assumption) :
    JS X W (.Assign [.Name x pos'] e pos) (kSet i t) := ps_mono (ps_set hN hi hx he hs hf) fun D σ H ⟨G, M, d, hv, h, en⟩ =>
  ⟨G, M, _, _, hv, h, fun v G' M' H' hv' q => en.nx _ G' M' H' hv' q, fun c a G' M' H' hv' q => en.xc c a σ G' M' H' hv' q⟩
def kExpr (t : KE) : KS := fun D σ G M => t σ G M (fun _ G M => D.nx σ G M) (D.x σ)
theorem js_expr {t : KE} (he : JE X W e t) (hs : swapsWith e none pos.line X.env = pure false := by rfl) : JS X W (.Expr e pos) (kExpr t) := ps_mono (ps_expr he hs) fun D σ H ⟨G, M, d, hv, h, en⟩ =>
  ⟨G, M, _, _, hv, h, fun v G' M' H' hv' q => en.nx _ G' M' H' hv' q, fun c a G' M' H' hv' q => en.xc c a σ G' M' H' hv' q⟩
def kRet (t : KE) : KS := fun D σ G M => t σ G M D.rt (D.x σ)
theorem js_ret {t : KE} (he : JE X W e t) : JS X W (.Return (some e) pos) (kRet t) := ps_mono (ps_ret he) fun D σ H ⟨G, M, d, hv, h, en⟩ =>
  ⟨G, M, _, _, hv, h, fun v G' M' H' hv' q => en.rt _ G' M' H' hv' q, fun c a G' M' H' hv' q => en.xc c a σ G' M' H' hv' q⟩
def kRetN : KS := fun D σ G M => D.rt .non G M
theorem js_retN : JS X W (.Return none pos) kRetN := ps_mono ps_retN fun D σ H ⟨G, M, d, hv, h, en⟩ => en.rt _ G M H hv h
def kIf (c : KT) (t u : KS) : KS := fun D σ G M => c σ G M (fun b G M => if b = true then t D σ G M else u D σ G M) (D.x σ)
theorem js_if {c : Expr} {a b : List Stmt} {tc : KT} (hc : JT X W c tc) (ha : JSs X W a t) (hb : JSs X W b u) : JS X W (.If c a b pos) (kIf tc t u) := ps_mono (ps_if hc ha hb) fun D σ H ⟨G, M, d, hv, h, en⟩ =>
  ⟨G, M, _, _, hv, h, fun v G' M' H' hv' q => by
    cases v with
    | true => rw [if_pos rfl] at q ⊢; exact ⟨G', M', d, hv', q, en⟩
    | false => rw [if_neg Bool.false_ne_true] at q ⊢; exact ⟨G', M', d, hv', q, en⟩, fun c a G' M' H' hv' q => en.xc c a σ G' M' H' hv' q⟩
/-! ### targets -/
structure KG where
  val : V → St → Hp → Mem → (St → Hp → Mem → Prop) → Prop
  tup : List V → St → Hp → Mem → (St → Hp → Mem → Prop) → Prop
structure JG (X : Cx) (tg : Expr) (g : KG) (gr : TG) : Prop where
  pg : PG X tg gr
  val : ∀ v σ G M R H Q, Hv G M H → g.val v σ G M R → (∀ σ' G' M' H', Hv G' M' H' → R σ' G' M' → Q σ' H') → gr v σ H Q
  tup : ∀ T vs σ G M R H Q, Hv G M H → H T = none → g.tup vs σ G M R → (∀ σ' G' M' H', Hv G' M' H' → R σ' G' M' → Q σ' H') → gr (.ref T) σ (upd H T (.tup vs)) Q
def kgName (i : Nat) : KG := ⟨fun v σ G M R => R (σ.set i (some v)) G M, fun vs σ G M R => ∀ T, Fr G M T → R (σ.set i (some (.ref T))) (upd G T (.tup vs)) M⟩
theorem jg_name {i : Nat} {x : Str} (hN : X.N.Nodup) (hi : X.N[i]? = some x := by rfl) (hx : Loc X.env.scope x := by first | exact Or.inl rfl | exact Or.inr rfl) (hf : X.fn x = true ∨ X.env.scope.names.lookup x = some .local := by first | exact .inl rfl | exact .inr rfl | assumption) : JG X (.Name x pos) (kgName i) (gName i) :=
  ⟨pg_name hN hi hx hf, fun v σ G M R H Q hv h hR => hR _ G M H hv h, fun T vs σ G M R H Q hv hT h hR => hR _ _ M _ (hv.newG hT) (h T (hv.fr hT))⟩
/-- several targets at once -/
abbrev KGs := List V → St → Hp → Mem → (St → Hp → Mem → Prop) → Prop
def kgsNil : KGs := fun vs σ G M R => match vs with
  | [] => R σ G M
  | _ => False
def kgsCons (g : KG) (r : KGs) : KGs := fun vs σ G M R => match vs with
  | v :: vs => g.val v σ G M (fun σ G M => r vs σ G M R)
  | [] => False
structure JGs (X : Cx) (ts : List Expr) (g : KGs) (gr : TGs) : Prop where
  pgs : PGs X ts gr
  sim : ∀ vs σ G M R H Q, Hv G M H → g vs σ G M R → (∀ σ' G' M' H', Hv G' M' H' → R σ' G' M' → Q σ' H') → gr vs σ H Q
theorem jgs_nil : JGs X [] kgsNil gNil := ⟨pgs_nil, fun vs σ G M R H Q hv h hR => by
  match vs, h with
  | [], h => exact ⟨rfl, hR _ G M H hv h⟩⟩
theorem jgs_cons {tg : Expr} {ts : List Expr} {g : KG} {r : KGs} {gr : TG} {gs : TGs} (h1 : JG X tg g gr) (hr : JGs X ts r gs)
    (hs : (assignEach (tg :: ts) X.env).map (·.2) = assign tg X.env :: (assignEach ts X.env).map (·.2) := by rfl) : JGs X (tg :: ts) (kgsCons g r) (gCons gr gs) :=
  ⟨pgs_cons h1.pg hr.pgs hs, fun vs σ G M R H Q hv h hR => by
    match vs, h with
    | v :: vs, h => exact ⟨v, vs, rfl, h1.val v σ G M _ H _ hv h fun σ' G' M' H' hv' q => hr.sim vs σ' G' M' R H' Q hv' q hR⟩⟩
def onLen (n : Nat) (g : KGs) : KGs := fun vs σ G M R => match vs.length == n with
  | true => g vs σ G M R
  | false => False
theorem onLen_of {n : Nat} {g : KGs} {vs : List V} {σ : St} {G : Hp} {M : Mem} {R : St → Hp → Mem → Prop} (h : onLen n g vs σ G M R) : vs.length = n ∧ g vs σ G M R := by
  unfold onLen at h
  split at h
  · rename_i e; exact ⟨beq_iff_eq.mp e, h⟩
  · exact h.elim
def kgTup (K : PySem.W.Frag) (n : Nat) (g : KGs) : KG := ⟨fun v σ G M R => match v with
    | .ref a => ∃ xs, SqT K G a xs ∧ onLen n g xs σ G M R
    | _ => False, onLen n g⟩
theorem jg_tup {K : PySem.W.Frag} {ts : List Expr} {g : KGs} {gs : TGs} {n k : Nat} (hc : X.calm = true) (h : JGs X ts g gs) (hK : X.K = K := by rfl) (hn : (assignEach ts X.env).length = n := by rfl) (hst : (assignEach ts X.env).findIdx? (·.1) = none := by rfl) :
    JG X (.Tuple ts k pos) (kgTup K n g) (gTup K n gs) := by
  subst hK
  exact ⟨pg_tup hc h.pgs hn hst, fun v σ G M R H Q hv q hR => by
    match v, q with
    | .ref a, ⟨xs, q1, q2⟩ =>
      obtain ⟨e, q3⟩ := onLen_of q2
      exact ⟨a, xs, rfl, hv.tup q1, e, h.sim xs σ G M R H Q hv q3 hR⟩,
   fun T vs σ G M R H Q hv hT q hR => by
    obtain ⟨e, q3⟩ := onLen_of q
    exact ⟨T, vs, rfl, .inl (.inl upd_same), e, h.sim vs σ G M R _ Q (hv.junk hT) q3 hR⟩⟩
/-- nothing is raised -/
def W0 : WX := fun _ _ _ _ => False
/-- a place of a list as a target -/
def setL (o i v : V) (G : Hp) (M : Mem) (R : Hp → Mem → Prop) : Prop := match o, i with
  | .ref a, .int k => ∃ n xs j, M[n]? = some (a, .lst xs) ∧ ixN xs.length k = some j ∧ R G (M.set n (a, .lst (xs.set j v)))
  | _, _ => False
def kgIx (to ti : KE) : KG := ⟨fun v σ G M R => to σ G M (fun o G M => ti σ G M (fun i G M => setL o i v G M (fun G M => R σ G M)) (fun _ _ _ _ => False)) (fun _ _ _ _ => False), fun _ _ _ _ _ => False⟩
theorem jg_ix {o i : Expr} {to ti : KE} (ho : JE X W0 o to) (hi : JE X W0 i ti)
    (ha : ∀ v, assign (.Subscript o i pos) X.env v = (do
      let ov ← holding [v] (eval o X.env)
      let iv ← holding [v, ov] (eval i X.env)
      standAt pos
      holding [v, ov, iv] (setItem ov iv v)
      release [v, ov, iv] []) := by intro _; rfl) : JG X (.Subscript o i pos) (kgIx to ti) (gSub (upG W0 to) (upG W0 ti) rSetL) :=
  ⟨pg_sub ho hi set_list ha, fun v σ G M R H Q hv q hR => ⟨G, M, _, _, hv, q, fun ov G2 M2 H2 hv2 q2 => ⟨G2, M2, _, _, hv2, q2, fun iv G3 M3 H3 hv3 q3 => by
    match ov, iv, q3 with
    | .ref a, .int k, ⟨n, xs, j, e1, e2, q⟩ => exact ⟨a, xs, k, j, rfl, rfl, hv3.get e1, e2, hR σ G3 _ _ (hv3.set e1) q⟩, fun _ _ _ _ _ _ z => z.elim⟩, fun _ _ _ _ _ _ z => z.elim⟩,
   fun _ _ _ _ _ _ _ _ _ _ z => z.elim⟩
/-- a target of an assignment -/
def kAsg (t : KE) (g : KG) : KS := fun D σ G M => t σ G M (fun v G M => g.val v σ G M D.nx) (D.x σ)
theorem js_asg {tg : Expr} {t : KE} {g : KG} {gr : TG} (he : JE X W e t) (hg : JG X tg g gr) (hs : swapsWithSole [tg] e pos.line X.env = pure false := by rfl) (hw : swappedStores [tg] e X.env = pure none := by rfl)
    (h1 : (assignEach [tg] X.env).map (·.2) = [assign tg X.env] := by rfl) : JS X W (.Assign [tg] e pos) (kAsg t g) := ps_mono (ps_asg he hg.pg hs hw h1) fun D σ H ⟨G, M, d, hv, h, en⟩ =>
  ⟨G, M, _, _, hv, h, fun v G' M' H' hv' q => hg.val v σ G' M' _ H' _ hv' q fun σ' G2 M2 H2 hv2 q2 => en.nx _ G2 M2 H2 hv2 q2, fun c a G' M' H' hv' q => en.xc c a σ G' M' H' hv' q⟩
end
end BT
set_option Elab.async false
set_option linter.all false
set_option maxRecDepth 100000
set_option maxHeartbeats 4000000
namespace BT
open PySem PySem.Spec L2
open PyProof.Rows hiding St
/-! ### what is walked -/
structure Src where
  n : Nat
  get : Nat → V ⊕ List V
  ok : Hp → Mem → Prop
abbrev KI := KK Src
/-- an iterator that gives what the source says -/
structure Goes (src : Src) (J : It) : Prop where
  go : ∀ i G M H, Hv G M H → src.ok G M → i < src.n → J.go i H
  stop : ∀ i G M H, Hv G M H → src.ok G M → src.n ≤ i → J.stop i H
  yld : ∀ i G M H x H', Hv G M H → src.ok G M → i < src.n → J.yld i H x H' → match src.get i with
    | .inl v => x = v ∧ H' = H
    | .inr vs => ∃ T, x = .ref T ∧ H T = none ∧ H' = upd H T (.tup vs)
def upI (W : WX) (t : KI) : TI := fun σ H Q => ∃ G M R E, Hv G M H ∧ t σ G M R E ∧ (∀ src G' M' H', Hv G' M' H' → R src G' M' → ∀ J, Goes src J → Q J H') ∧ (∀ c d G' M' H', Hv G' M' H' → E c d G' M' → W c d σ H')
def JI (X : Cx) (W : WX) (tg it : Expr) (t : KI) : Prop := PI X tg it (upI W t)
theorem pi_mono {X : Cx} {tg it : Expr} {t t' : TI} (h : PI X tg it t) (i : ∀ σ H Q, t' σ H Q → t σ H Q) : PI X tg it t' := ⟨fun pins s σ H Q I q => h.run pins s σ H Q I (i σ H Q q)⟩
def srcL (K : PySem.W.Frag) (a : Addr) (xs : List V) : Src := ⟨xs.length, fun i => .inl (xs.getD i .non), fun G M => LstAt K G M a xs⟩
def srcT (K : PySem.W.Frag) (a : Addr) (xs : List V) : Src := ⟨xs.length, fun i => .inl (xs.getD i .non), fun G M => SqT K G a xs⟩
def srcR (lo : Int) (n : Nat) : Src := ⟨n, fun i => .inl (.int (lo + i)), fun _ _ => True⟩
def srcC (lo c : Int) (n : Nat) : Src := ⟨n, fun i => .inl (.int (lo + (i : Nat) * c)), fun _ _ => True⟩
def srcE (K : PySem.W.Frag) (a : Addr) (xs : List V) : Src := ⟨xs.length, fun i => .inr [.int i, xs.getD i .non], fun G M => LstAt K G M a xs⟩
def srcZ (K : PySem.W.Frag) (a b : Addr) (xs ys : List V) : Src := ⟨min xs.length ys.length, fun i => .inr [xs.getD i .non, ys.getD i .non], fun G M => LstAt K G M a xs ∧ LstAt K G M b ys⟩
def srcV (K : PySem.W.Frag) (a : Addr) (xs : List V) : Src := ⟨xs.length, fun i => .inl (xs.getD (xs.length - 1 - i) .non), fun G M => LstAt K G M a xs⟩
theorem getD_of {xs : List V} {i : Nat} {x : V} (h : xs[i]? = some x) : xs.getD i .non = x := by
  rw [List.getD_eq_getElem?_getD, h]; rfl
theorem get_lt {xs : List V} {i : Nat} (h : i < xs.length) : xs[i]? = some (xs.getD i .non) := by
  rw [List.getD_eq_getElem?_getD, List.getElem?_eq_getElem h]; rfl
theorem goes_L {K : PySem.W.Frag} {a : Addr} {xs : List V} : Goes (srcL K a xs) (Itl K a) where
  go := fun i G M H hv ok hi => ⟨xs, _, hv.lst ok, get_lt hi⟩
  stop := fun i G M H hv ok hi => ⟨xs, hv.lst ok, hi⟩
  yld := fun i G M H x H' hv ok hi y => ⟨(getD_of (y.2 xs (hv.lst ok))).symm, y.1⟩
theorem goes_T {K : PySem.W.Frag} {a : Addr} {xs : List V} : Goes (srcT K a xs) (Itt K a) where
  go := fun i G M H hv ok hi => ⟨xs, _, hv.tup ok, get_lt hi⟩
  stop := fun i G M H hv ok hi => ⟨xs, hv.tup ok, hi⟩
  yld := fun i G M H x H' hv ok hi y => ⟨(getD_of (y.2 xs (hv.tup ok))).symm, y.1⟩
theorem goes_R {lo : Int} {n : Nat} : Goes (srcR lo n) (Itr lo n) where
  go := fun i G M H hv ok hi => hi
  stop := fun i G M H hv ok hi => hi
  yld := fun i G M H x H' hv ok hi y => ⟨y.2, y.1⟩
theorem goes_C {lo c : Int} {n : Nat} : Goes (srcC lo c n) (Itc lo c n) where
  go := fun i G M H hv ok hi => hi
  stop := fun i G M H hv ok hi => hi
  yld := fun i G M H x H' hv ok hi y => ⟨y.2, y.1⟩
theorem goes_E {K : PySem.W.Frag} {a : Addr} {xs : List V} : Goes (srcE K a xs) (Ite K a) where
  go := fun i G M H hv ok hi => ⟨xs, _, hv.lst ok, get_lt hi⟩
  stop := fun i G M H hv ok hi => ⟨xs, hv.lst ok, hi⟩
  yld := fun i G M H x H' hv ok hi y => by
    obtain ⟨T, z, e1, e2, e3, e4⟩ := y
    have e5 := getD_of (e4 xs (hv.lst ok))
    exact ⟨T, e1, e2, by rw [e3, ← e5]⟩
theorem goes_Z {K : PySem.W.Frag} {a b : Addr} {xs ys : List V} : Goes (srcZ K a b xs ys) (Itz K a b) where
  go := fun i G M H hv ok hi => ⟨xs, ys, _, _, hv.lst ok.1, hv.lst ok.2, get_lt (Nat.lt_of_lt_of_le hi (Nat.min_le_left _ _)), get_lt (Nat.lt_of_lt_of_le hi (Nat.min_le_right _ _))⟩
  stop := fun i G M H hv ok hi => ⟨xs, ys, hv.lst ok.1, hv.lst ok.2, by
    have hi : min xs.length ys.length ≤ i := hi
    omega⟩
  yld := fun i G M H x H' hv ok hi y => by
    obtain ⟨T, z, w, e1, e2, e3, e4, e5⟩ := y
    have e6 := getD_of (e4 xs (hv.lst ok.1))
    have e7 := getD_of (e5 ys (hv.lst ok.2))
    exact ⟨T, e1, e2, by rw [e3, ← e6, ← e7]⟩
theorem goes_V {K : PySem.W.Frag} {a : Addr} {xs : List V} : Goes (srcV K a xs) (Itv K a xs.length) where
  go := fun i G M H hv ok hi => ⟨hi, xs, _, hv.lst ok, get_lt (by have hi : i < xs.length := hi; omega)⟩
  stop := fun i G M H hv ok hi => hi
  yld := fun i G M H x H' hv ok hi y => ⟨(getD_of (y.2 xs (hv.lst ok))).symm, y.1⟩
section
variable {X : Cx} {W : WX} {pos p tpos : Pos} {e e2 a b c : Expr} {es : List Expr} {tg : Expr}
def kiSeq (K : PySem.W.Frag) (t : KE) : KI := fun σ G M R E => t σ G M (fun x G M => match x with
  | .ref a => ∃ xs, LstAt K G M a xs ∧ R (srcL K a xs) G M
  | _ => False) E
def kiTup (K : PySem.W.Frag) (t : KE) : KI := fun σ G M R E => t σ G M (fun x G M => match x with
  | .ref a => ∃ xs, SqT K G a xs ∧ R (srcT K a xs) G M
  | _ => False) E
theorem ji_list {t : KE} (h : JE X W e t) : JI X W tg e (kiSeq X.K t) := pi_mono (pi_list h) fun σ H Q ⟨G, M, R, E, hv, h, hR, hE⟩ => ⟨G, M, _, E, hv, h, fun x G1 M1 H1 hv1 q => by
    match x, q with
    | .ref a, ⟨xs, q1, q2⟩ => exact ⟨a, rfl, ⟨xs, hv1.lst q1⟩, hR _ G1 M1 H1 hv1 q2 _ goes_L⟩, hE⟩
theorem ji_tup {t : KE} (h : JE X W e t) : JI X W tg e (kiTup X.K t) := pi_mono (pi_tup h) fun σ H Q ⟨G, M, R, E, hv, h, hR, hE⟩ => ⟨G, M, _, E, hv, h, fun x G1 M1 H1 hv1 q => by
    match x, q with
    | .ref a, ⟨xs, q1, q2⟩ => exact ⟨a, rfl, ⟨xs, hv1.tup q1⟩, hR _ G1 M1 H1 hv1 q2 _ goes_T⟩, hE⟩
/-- range(n), range(a, b), range(a, b, c) -/
def kiR1 (t : KA) : KI := fun σ G M R E => t σ G M (fun vs G M => match vs with
  | [.int j] => (-(2 ^ 62) ≤ j ∧ j < 2 ^ 62) ∧ R (srcR 0 j.toNat) G M
  | _ => False) E
def kiR2 (t : KA) : KI := fun σ G M R E => t σ G M (fun vs G M => match vs with
  | [.int i, .int j] => (-(2 ^ 62) ≤ i ∧ i < 2 ^ 62 ∧ -(2 ^ 62) ≤ j ∧ j < 2 ^ 62) ∧ R (srcR i (j - i).toNat) G M
  | _ => False) E
def kiR3 (t : KA) : KI := fun σ G M R E => t σ G M (fun vs G M => match vs with
  | [.int i, .int j, .int c] => ∃ n, RgC i j c n ∧ R (srcC i c n) G M
  | _ => False) E
theorem ji_range1 {t : KA} (hm : X.mg "range" = none) (ha : JA X W [a] t) (hg : Gl X "range" := by rfl) (hs : starEach [a] X.env = [(false, eval a X.env)] := by rfl) : JI X W tg (.Call (.Name "range" p) [a] [] pos) (kiR1 t) :=
  pi_mono (pi_range1 hg hm ha hs) fun σ H Q ⟨G, M, R, E, hv, h, hR, hE⟩ => ⟨G, M, _, E, hv, h, fun vs G1 M1 H1 hv1 q => by
    match vs, q with
    | [.int j], ⟨⟨q1, q2⟩, q3⟩ => exact ⟨j, rfl, q1, q2, hR _ G1 M1 H1 hv1 q3 _ goes_R⟩, hE⟩
theorem ji_range2 {t : KA} (hm : X.mg "range" = none) (ha : JA X W [a, b] t) (hg : Gl X "range" := by rfl) (hs : starEach [a, b] X.env = [(false, eval a X.env), (false, eval b X.env)] := by rfl) (hs2 : starEach [b] X.env = [(false, eval b X.env)] := by rfl) : JI X W tg (.Call (.Name "range" p) [a, b] [] pos) (kiR2 t) :=
  pi_mono (pi_range2 hg hm ha hs hs2) fun σ H Q ⟨G, M, R, E, hv, h, hR, hE⟩ => ⟨G, M, _, E, hv, h, fun vs G1 M1 H1 hv1 q => by
    match vs, q with
    | [.int i, .int j], ⟨q1, q3⟩ => exact ⟨i, j, rfl, q1, hR _ G1 M1 H1 hv1 q3 _ goes_R⟩, hE⟩
theorem ji_range3 {t : KA} (hm : X.mg "range" = none) (ha : JA X W [a, b, c] t) (hg : Gl X "range" := by rfl) (hs : starEach [a, b, c] X.env = (false, eval a X.env) :: starEach [b, c] X.env := by rfl) (hpl : (backTo pos (starEach [b, c] X.env)).any (·.1) = false := by rfl) : JI X W tg (.Call (.Name "range" p) [a, b, c] [] pos) (kiR3 t) :=
  pi_mono (pi_range3 hg hm ha hs hpl) fun σ H Q ⟨G, M, R, E, hv, h, hR, hE⟩ => ⟨G, M, _, E, hv, h, fun vs G1 M1 H1 hv1 q => by
    match vs, q with
    | [.int i, .int j, .int c], ⟨n, q1, q3⟩ => exact ⟨i, j, c, n, rfl, q1, hR _ G1 M1 H1 hv1 q3 _ goes_C⟩, hE⟩
def kiEnum (K : PySem.W.Frag) (t : KA) : KI := fun σ G M R E => t σ G M (fun vs G M => match vs with
  | [.ref a] => ∃ xs, LstAt K G M a xs ∧ R (srcE K a xs) G M
  | _ => False) E
def kiRev (K : PySem.W.Frag) (t : KA) : KI := fun σ G M R E => t σ G M (fun vs G M => match vs with
  | [.ref a] => ∃ xs, LstAt K G M a xs ∧ R (srcV K a xs) G M
  | _ => False) E
def kiZip (K : PySem.W.Frag) (t : KA) : KI := fun σ G M R E => t σ G M (fun vs G M => match vs with
  | [.ref a, .ref b] => ∃ xs ys, LstAt K G M a xs ∧ LstAt K G M b ys ∧ R (srcZ K a b xs ys) G M
  | _ => False) E
variable {elts : List Expr} {kk : Nat}
theorem ji_enum {t : KA} (hm : X.mg "enumerate" = none) (ha : JA X W [e] t) (hg : Gl X "enumerate" := by rfl) (hs : starEach [e] X.env = [(false, eval e X.env)] := by rfl) : JI X W (.Tuple elts kk tpos) (.Call (.Name "enumerate" p) [e] [] pos) (kiEnum X.K t) :=
  pi_mono (pi_enum hg hm ha hs) fun σ H Q ⟨G, M, R, E, hv, h, hR, hE⟩ => ⟨G, M, _, E, hv, h, fun vs G1 M1 H1 hv1 q => by
    match vs, q with
    | [.ref a], ⟨xs, q1, q3⟩ => exact ⟨a, xs, rfl, hv1.lst q1, hR _ G1 M1 H1 hv1 q3 _ goes_E⟩, hE⟩
theorem ji_rev {t : KA} (hm : X.mg "reversed" = none) (ha : JA X W [e] t) (hg : Gl X "reversed" := by rfl) (hs : starEach [e] X.env = [(false, eval e X.env)] := by rfl) : JI X W tg (.Call (.Name "reversed" p) [e] [] pos) (kiRev X.K t) :=
  pi_mono (pi_reversed hg hm ha hs) fun σ H Q ⟨G, M, R, E, hv, h, hR, hE⟩ => ⟨G, M, _, E, hv, h, fun vs G1 M1 H1 hv1 q => by
    match vs, q with
    | [.ref a], ⟨xs, q1, q3⟩ => exact ⟨a, xs, rfl, hv1.lst q1, hR _ G1 M1 H1 hv1 q3 _ goes_V⟩, hE⟩
theorem ji_zip {t : KA} (hm : X.mg "zip" = none) (ha : JA X W [e, e2] t) (hg : Gl X "zip" := by rfl) (hs : starEach [e, e2] X.env = (false, eval e X.env) :: starEach [e2] X.env := by rfl) (hpl : (backTo pos (starEach [e2] X.env)).any (·.1) = false := by rfl) :
    JI X W (.Tuple elts kk tpos) (.Call (.Name "zip" p) [e, e2] [] pos) (kiZip X.K t) :=
  pi_mono (pi_zip hg hm ha hs hpl) fun σ H Q ⟨G, M, R, E, hv, h, hR, hE⟩ => ⟨G, M, _, E, hv, h, fun vs G1 M1 H1 hv1 q => by
    match vs, q with
    | [.ref a, .ref b], ⟨xs, ys, q1, q2, q3⟩ => exact ⟨a, b, xs, ys, rfl, hv1.lst q1, hv1.lst q2, hR _ G1 M1 H1 hv1 q3 _ goes_Z⟩, hE⟩
/-! ### for -/
def asg (g : KG) (w : V ⊕ List V) : St → Hp → Mem → (St → Hp → Mem → Prop) → Prop := match w with
  | .inl v => g.val v
  | .inr vs => g.tup vs
def wk1 (Pv : St → Hp → Mem → Prop) : St → Hp → Mem → Prop := fun σ G M => ∃ G' M', Wk G M G' M' ∧ Pv σ G' M'
def kFor (ti : KI) (g : KG) (tb : KS) : KS := fun D σ G M => ti σ G M (fun src G M => ∃ Pv : Nat → St → Hp → Mem → Prop, Pv 0 σ G M ∧ (∀ i σ G M, i ≤ src.n → Pv i σ G M → src.ok G M) ∧
  (∀ i σ G M, i < src.n → Pv i σ G M → asg g (src.get i) σ G M (fun σ G M => tb { D with nx := wk1 (Pv (i + 1)), ct := wk1 (Pv (i + 1)), bk := D.nx } σ G M)) ∧ (∀ σ G M, Pv src.n σ G M → D.nx σ G M)) (D.x σ)
theorem asg_sim {g : KG} {gr : TG} (hg : JG X tg g gr) {w : V ⊕ List V} {σ : St} {G : Hp} {M : Mem} {R : St → Hp → Mem → Prop} {H H' : Hp} {x : V} {Q : St → Hp → Prop} (hv : Hv G M H)
    (y : match w with | .inl v => x = v ∧ H' = H | .inr vs => ∃ T, x = .ref T ∧ H T = none ∧ H' = upd H T (.tup vs)) (h : asg g w σ G M R) (hR : ∀ σ' G' M' H', Hv G' M' H' → R σ' G' M' → Q σ' H') : gr x σ H' Q := by
  cases w with
  | inl v =>
    obtain ⟨rfl, rfl⟩ := y
    exact hg.val _ σ G M R _ Q hv h hR
  | inr vs =>
    obtain ⟨T, rfl, hT, rfl⟩ := y
    exact hg.tup T vs σ G M R H Q hv hT h hR
theorem js_for {it : Expr} {body : List Stmt} {ti : KI} {g : KG} {gr : TG} {tb : KS} (hp : PassesOwn (model X.prog X.w) X.A X.env X.xe) (hc : X.calm = true) (hi : JI X W tg it ti) (hg : JG X tg g gr) (hb : JSs X W body tb)
    (hs : ∀ x, foldedSetIterable it X.env x = pure x := by intro _; rfl) : JS X W (.For tg it body [] pos) (kFor ti g tb) := ps_mono (ps_for hp hc hi hg.pg hb hs) fun D σ H ⟨G, M, d, hv, h, en⟩ => by
  refine ⟨G, M, _, _, hv, h, fun src G1 M1 H1 hv1 q J go => ?_, fun c a G' M' H' hv' q => en.xc c a σ G' M' H' hv' q⟩
  obtain ⟨Pv, p0, pok, pst, pend⟩ := q
  refine ⟨fun i m σ H => m = src.n - i ∧ i ≤ src.n ∧ ∃ G M, Hv G M H ∧ Pv i σ G M, ⟨src.n, by simp, Nat.zero_le _, G1, M1, hv1, p0⟩, ?_⟩
  rintro i m σ2 H2 ⟨rfl, hi2, G2, M2, hv2, p2⟩
  have ok := pok i σ2 G2 M2 hi2 p2
  by_cases hlt : i < src.n
  · refine .inr ⟨go.go i G2 M2 H2 hv2 ok hlt, fun σ' H' => ∃ G M, Hv G M H' ∧ Pv (i + 1) σ' G M, fun σ' H' ⟨G3, M3, hv3, p3⟩ => ⟨src.n - (i + 1), by omega, rfl, hlt, G3, M3, hv3, p3⟩, fun x H' y => ?_⟩
    refine asg_sim hg hv2 (go.yld i G2 M2 H2 x H' hv2 ok hlt y) (pst i σ2 G2 M2 hlt p2) fun σ3 G3 M3 H3 hv3 q3 => ?_
    have e1 : ∀ σ G M H, Hv G M H → wk1 (Pv (i + 1)) σ G M → ∃ G M, Hv G M H ∧ Pv (i + 1) σ G M := fun σ G M H hv ⟨G', M', wk, q⟩ => ⟨G', M', wk H hv, q⟩
    exact ⟨G3, M3, _, hv3, q3, ⟨e1, en.rt, en.nx, e1, en.xc⟩⟩
  · have e : i = src.n := by omega
    subst e
    exact .inl ⟨go.stop _ G2 M2 H2 hv2 ok (Nat.le_refl _), en.nx _ G2 M2 H2 hv2 (pend σ2 G2 M2 p2)⟩
/-! ### while -/
def kWhile (c : KT) (tb : KS) : KS := fun D σ G M => ∃ Pv : Nat → St → Hp → Mem → Prop, (∃ m, Pv m σ G M) ∧ ∀ m σ G M, Pv m σ G M →
  c σ G M (fun b G M => if b = true then tb { D with nx := fun σ G M => ∃ m', m' < m ∧ wk1 (Pv m') σ G M, ct := fun σ G M => ∃ m', m' < m ∧ wk1 (Pv m') σ G M, bk := D.nx } σ G M else D.nx σ G M) (D.x σ)
theorem js_while {c : Expr} {body : List Stmt} {tc : KT} {tb : KS} (hp : PassesOwn (model X.prog X.w) X.A X.env X.xe) (hc : JT X W c tc) (hb : JSs X W body tb) : JS X W (.While c body [] pos) (kWhile tc tb) := ps_mono (ps_while hp hc hb) fun D σ H ⟨G, M, d, hv, ⟨Pv, ⟨m0, p0⟩, st⟩, en⟩ => by
  refine ⟨fun m σ H => ∃ G M, Hv G M H ∧ Pv m σ G M, ⟨m0, G, M, hv, p0⟩, ?_⟩
  rintro m σ1 H1 ⟨G1, M1, hv1, p1⟩
  refine ⟨G1, M1, _, _, hv1, st m σ1 G1 M1 p1, fun b G2 M2 H2 hv2 q2 => ?_, fun c a G' M' H' hv' q => en.xc c a σ1 G' M' H' hv' q⟩
  cases b with
  | true =>
    rw [if_pos rfl] at q2 ⊢
    refine ⟨fun σ' H' => ∃ m', m' < m ∧ ∃ G M, Hv G M H' ∧ Pv m' σ' G M, fun σ' H' h => h, ?_⟩
    have e1 : ∀ σ G M H, Hv G M H → (∃ m', m' < m ∧ wk1 (Pv m') σ G M) → ∃ m', m' < m ∧ ∃ G M, Hv G M H ∧ Pv m' σ G M := fun σ G M H hv ⟨m', l, G', M', wk, q⟩ => ⟨m', l, G', M', wk H hv, q⟩
    exact ⟨G2, M2, _, hv2, q2, ⟨e1, en.rt, en.nx, e1, en.xc⟩⟩
  | false =>
    rw [if_neg Bool.false_ne_true] at q2 ⊢
    exact en.nx _ G2 M2 H2 hv2 q2
/-! ### list comprehensions -/
def E0 : KX := fun _ _ _ _ => False
def kYes : KT := fun _ G M R _ => R true G M
def JTs (X : Cx) (W : WX) (es : List Expr) (t : KT) : Prop := PTs X es (upG W t)
theorem jts_nil : JTs X W [] kYes := ⟨fun pins s σ H Q I ⟨G, M, R, E, hv, h, hR, _⟩ => pts_nil.run pins s σ H Q I (hR _ G M H hv h)⟩
theorem jts_one {t : KT} (h : JT X W c t) : JTs X W [c] t := pts_one h
def kComp (ti : KI) (g : KG) (tt : KT) (te : KE) (own : List Nat) : KE := fun σ G M R E => ti σ G M (fun src G M => src.n ≤ sizeLine ∧ ∃ Pv : Nat → List V → Hp → Mem → Prop, Pv 0 [] G M ∧ (∀ i acc G M, i ≤ src.n → Pv i acc G M → src.ok G M) ∧
  (∀ i acc G M D, i < src.n → acc.length ≤ i → Pv i acc G M → Fr G M D → asg g (src.get i) (wipe σ own) G ((D, .lst acc) :: M) (fun σ2 G M => wipe σ2 own = wipe σ own ∧ tt σ2 G M (fun b G M =>
    if b = true then te σ2 G M (fun y G M => ∃ G' M', Wk G M G' ((D, .lst acc) :: M') ∧ Pv (i + 1) (acc ++ [y]) G' M') E0 else ∃ G' M', Wk G M G' ((D, .lst acc) :: M') ∧ Pv (i + 1) acc G' M') E0)) ∧
  (∀ acc G M p, Pv src.n acc G M → acc.length ≤ src.n → Fr G M p → R (.ref p) G ((p, .lst acc) :: M))) E
theorem comp_sim {K : PySem.W.Frag} {ti : KI} {g : KG} {gr : TG} {tt : KT} {te : KE} {own : List Nat} {σ : St} {H : Hp} {Q : VK}
    (hgv : ∀ v σ G M R H Q, Hv G M H → g.val v σ G M R → (∀ σ' G' M' H', Hv G' M' H' → R σ' G' M' → Q σ' H') → gr v σ H Q)
    (hgt : ∀ T vs σ G M R H Q, Hv G M H → H T = none → g.tup vs σ G M R → (∀ σ' G' M' H', Hv G' M' H' → R σ' G' M' → Q σ' H') → gr (.ref T) σ (upd H T (.tup vs)) Q)
    (h : upG W (kComp ti g tt te own) σ H Q) : tLc (upI W ti) gr (upG W0 tt) (upG W0 te) own σ H Q := by
  obtain ⟨G, M, R, E, hv, h, hR, hE⟩ := h
  refine ⟨G, M, _, E, hv, h, fun src G1 M1 H1 hv1 q J go => ?_, hE⟩
  obtain ⟨hn, Pv, p0, pok, pst, pend⟩ := q
  intro D hD
  refine ⟨fun i m H => m = src.n - i ∧ i ≤ src.n ∧ ∃ acc G M, acc.length ≤ i ∧ Hv G ((D, .lst acc) :: M) H ∧ Pv i acc G M, ⟨src.n, by simp, Nat.zero_le _, [], G1, M1, Nat.le_refl _, hv1.newM hD, p0⟩, ?_⟩
  rintro i m H2 ⟨rfl, hi2, acc, G2, M2, hacc, hv2, p2⟩
  have hv2' : Hv G2 M2 H2 := Wk.drop0 H2 hv2
  have ok := pok i acc G2 M2 hi2 p2
  have fD : Fr G2 M2 D := by
    refine ⟨hv2.dj (D, .lst acc) List.mem_cons_self, fun x hx e => ?_⟩
    have nd := hv2.nd
    rw [List.map_cons, List.nodup_cons] at nd
    exact nd.1 (by rw [← e]; exact List.mem_map.mpr ⟨x, hx, rfl⟩)
  by_cases hlt : i < src.n
  · refine .inr ⟨go.go i G2 M2 H2 hv2' ok hlt, fun H' => ∃ acc G M, acc.length ≤ i + 1 ∧ Hv G ((D, .lst acc) :: M) H' ∧ Pv (i + 1) acc G M, fun H' ⟨acc', G3, M3, l3, hv3, p3⟩ => ⟨src.n - (i + 1), by omega, rfl, hlt, acc', G3, M3, l3, hv3, p3⟩, fun x H' y => ?_⟩
    have step := pst i acc G2 M2 D hlt hacc p2 fD
    have yy := go.yld i G2 M2 H2 x H' hv2' ok hlt y
    have fin : ∀ σ3 G3 M3 H3, Hv G3 M3 H3 → (wipe σ3 own = wipe σ own ∧ tt σ3 G3 M3 (fun b G M =>
        if b = true then te σ3 G M (fun y G M => ∃ G' M', Wk G M G' ((D, .lst acc) :: M') ∧ Pv (i + 1) (acc ++ [y]) G' M') E0 else ∃ G' M', Wk G M G' ((D, .lst acc) :: M') ∧ Pv (i + 1) acc G' M') E0) →
        (wipe σ3 own = wipe σ own ∧ upG W0 tt σ3 H3 fun b H3 => if b = true then upG W0 te σ3 H3 fun y H4 => ∃ acc, H4 D = some (.lst acc) ∧ acc.length < sizeLine ∧ (∃ acc' G M, acc'.length ≤ i + 1 ∧ Hv G ((D, .lst acc') :: M) (upd H4 D (.lst (acc ++ [y]))) ∧ Pv (i + 1) acc' G M) else ∃ acc' G M, acc'.length ≤ i + 1 ∧ Hv G ((D, .lst acc') :: M) H3 ∧ Pv (i + 1) acc' G M) := by
      rintro σ3 G3 M3 H3 hv3 ⟨ew, q3⟩
      refine ⟨ew, G3, M3, _, _, hv3, q3, fun b G4 M4 H4 hv4 q4 => ?_, fun _ _ _ _ _ _ z => z.elim⟩
      cases b with
      | true =>
        rw [if_pos rfl] at q4 ⊢
        refine ⟨G4, M4, _, _, hv4, q4, fun y G5 M5 H5 hv5 ⟨G6, M6, wk, p6⟩ => ?_, fun _ _ _ _ _ _ z => z.elim⟩
        have hv6 := wk H5 hv5
        refine ⟨acc, hv6.mu (D, .lst acc) List.mem_cons_self, by omega, acc ++ [y], G6, M6, by rw [List.length_append]; exact Nat.succ_le_succ hacc, ?_, p6⟩
        exact hv6.set (n := 0) (o' := .lst (acc ++ [y])) rfl
      | false =>
        rw [if_neg Bool.false_ne_true] at q4 ⊢
        obtain ⟨G6, M6, wk, p6⟩ := q4
        exact ⟨acc, G6, M6, by omega, wk H4 hv4, p6⟩
    revert yy step
    cases src.get i with
    | inl v =>
      rintro step ⟨rfl, rfl⟩
      exact hgv _ _ G2 _ _ _ _ hv2 step fin
    | inr vs =>
      rintro step ⟨T, rfl, hT, rfl⟩
      exact hgt T vs _ G2 _ _ _ _ hv2 hT step fin
  · have e : i = src.n := by omega
    subst e
    exact .inl ⟨go.stop _ G2 M2 H2 hv2' ok (Nat.le_refl _), hR _ _ _ _ hv2 (pend acc G2 M2 D p2 hacc fD)⟩
variable {elt it : Expr} {ifs : List Expr} {scope : Scope} {own : List (Str × Nat)} {spos py : Pos}
theorem je_comp {ti : KI} {g : KG} {gr : TG} {tt : KT} {te : KE} (hc : X.calm = true) (hN : X.N.Nodup) (hi : JI X W tg it ti) (ok : BlkOk X.N X.env.scope scope own)
    (hg : ∀ (s : Shared) (H : Hp) (C : Addr) (cl : List (Str × Addr)) (fp : List Addr), JG (X.blk s H scope (compEnvC scope cl C X.env) fp) tg g gr) (ht : ∀ (s : Shared) (H : Hp) (C : Addr) (cl : List (Str × Addr)) (fp : List Addr), JTs (X.blk s H scope (compEnvC scope cl C X.env) fp) W0 ifs tt)
    (he : ∀ (s : Shared) (H : Hp) (C : Addr) (cl : List (Str × Addr)) (fp : List Addr), JE (X.blk s H scope (compEnvC scope cl C X.env) fp) W0 elt te) (hs : ∀ x, foldedSetIterable it X.env x = pure x := by intro _; rfl) :
    JE X W (.ListComp elt [⟨tg, it, ifs, 0⟩] scope pos) (kComp ti g tt te (own.map (·.2))) :=
  pe_mono (pe_lc hc hN hi ok (fun s H C cl fp => (hg s H C cl fp).pg) ht he hs) fun σ H Q h =>
    comp_sim (K := X.K) (fun v σ G M R H Q hv => ((hg X.s_0 H 0 [] []).val v σ G M R H Q hv)) (fun T vs σ G M R H Q hv => ((hg X.s_0 H 0 [] []).tup T vs σ G M R H Q hv)) h
theorem js_setComp {i : Nat} {y : Str} {ti : KI} {g : KG} {gr : TG} {tt : KT} {te : KE} (hc : X.calm = true) (hN : X.N.Nodup) (hsw : swapsWith (.ListComp elt [⟨tg, it, ifs, 0⟩] scope pos) (some (.Name y py)) spos.line X.env = pure true) (hi : JI X W tg it ti) (ok : BlkOk X.N X.env.scope scope own)
    (hg : ∀ (s : Shared) (H : Hp) (C : Addr) (cl : List (Str × Addr)) (fp : List Addr), JG (X.blk s H scope (compEnvC scope cl C X.env) fp) tg g gr) (ht : ∀ (s : Shared) (H : Hp) (C : Addr) (cl : List (Str × Addr)) (fp : List Addr), JTs (X.blk s H scope (compEnvC scope cl C X.env) fp) W0 ifs tt)
    (he : ∀ (s : Shared) (H : Hp) (C : Addr) (cl : List (Str × Addr)) (fp : List Addr), JE (X.blk s H scope (compEnvC scope cl C X.env) fp) W0 elt te) (hy : X.N[i]? = some y := by rfl) (hyl : X.env.scope.names.lookup y = some .local := by rfl) (hs : ∀ x, foldedSetIterable it X.env x = pure x := by intro _; rfl) :
    JS X W (.Assign [.Name y py] (.ListComp elt [⟨tg, it, ifs, 0⟩] scope pos) spos) (kSet i (kComp ti g tt te (own.map (·.2)))) :=
  ps_mono (ps_setLc hc hN hy hyl hsw hi ok (fun s H C cl fp => (hg s H C cl fp).pg) ht he hs) fun D σ H ⟨G, M, d, hv, h, en⟩ =>
    comp_sim (K := X.K) (fun v σ G M R H Q hv => ((hg X.s_0 H 0 [] []).val v σ G M R H Q hv)) (fun T vs σ G M R H Q hv => ((hg X.s_0 H 0 [] []).tup T vs σ G M R H Q hv))
      ⟨G, M, _, _, hv, h, fun v G' M' H' hv' q => en.nx _ G' M' H' hv' q, fun c a G' M' H' hv' q => en.xc c a σ G' M' H' hv' q⟩
end
/-! ### a def -/
/-- what is known may be weakened at the end -/
def wkR (R : KR) : KR := fun v G M => ∀ H, Hv G M H → ∃ G' M', Hv G' M' H ∧ R v G' M'
def wkX (Z : KX) : KX := fun c d G M => ∃ G' M', Wk G M G' M' ∧ Z c d G' M'
theorem ret0 {R : KR} {v : V} {G : Hp} {M : Mem} (h : R v G M) : wkR R v G M := fun _ hv => ⟨G, M, hv, h⟩
theorem retW {R : KR} {v : V} {G G' : Hp} {M M' : Mem} (w : Wk G M G' M') (h : R v G' M') : wkR R v G M := fun H hv => ⟨G', M', w H hv, h⟩
theorem wkR_wk {R : KR} {v : V} {G G' : Hp} {M M' : Mem} (w : Wk G M G' M') (h : wkR R v G' M') : wkR R v G M := fun H hv => h H (w H hv)
section
variable {P : Program} {w : World} {K : PySem.W.Frag} {mg : Str → Option Value} {base : Heap}
theorem fn_ok {x qual : Str} {st : Stmt} {f : Addr} {fd : FuncData} {N ps : List Str} {k : Nat} {S : KSp} (F : Fun K x qual st f fd) (sc : FnScope N ps (defScope st)) (len : ∀ vs G M R X, S vs G M R X → vs.length = ps.length)
    (hbody : ∀ (cdv : Value) (A : Around) (outer : List Env) (s : Shared) (H : Hp) (E : XK), Room k (A.deeper (envOfC qual (defScope st) s.heap.objs.size f cdv)) →
      ∃ t, JSs (cxOf (L2.CX P w) P w K mg base N qual (defScope st) f cdv A outer s H E) (fun c d _ H => E c d H) (defBody st) t ∧
        ∀ vs G M R Z, S vs G M R Z → t { nx := fun _ G M => wkR R .non G M, rt := wkR R, xc := fun c d _ G M => wkX Z c d G M } (start N vs) G M) : FnOk P w K mg base (L2.CX P w) (k + 1) f fd ps (lift S) := by
  refine F.okX sc (fun vs H Q E ⟨G, M, R, Z, _, h, _⟩ => len vs G M R Z h) fun cdv A outer s H vs Q E hr ⟨G, M, R, Z, hv, h, hR, hZ⟩ => ?_
  obtain ⟨t, j, q⟩ := hbody cdv A outer s H E hr
  exact ⟨_, j, G, M, _, hv, q vs G M R Z h, ⟨fun σ G M H hv h => (h H hv).elim fun G' h => h.elim fun M' h => hR _ G' M' H h.1 h.2, fun v G M H hv h => (h H hv).elim fun G' h => h.elim fun M' h => hR _ G' M' H h.1 h.2, fun _ _ _ _ _ z => z.elim, fun _ _ _ _ _ z => z.elim, fun c a σ G M H hv ⟨G', M', w, q⟩ => hZ c a G' M' H (w H hv) q⟩⟩
/-- a def that keeps its promise -/
structure Def (P : Program) (w : World) (K : PySem.W.Frag) (mg : Str → Option Value) (base : Heap) (lev : Nat) (x : Str) (ps : List Str) (S : KSp) : Prop where
  ex : ∃ f fd, FnOk P w K mg base (L2.CX P w) lev f fd ps (lift S) ∧ mg x = some (.ref f) ∧ PySem.W.keepIn K (.ref f) = true ∧ Binds K fd ps []
end
section
variable {X : Cx} {W : WX} {pos p : Pos} {e : Expr} {es : List Expr} {x : Str} {k lev : Nat} {ps : List Str} {S : KSp} {t : KA}
theorem je_callD (D : Def X.prog X.w X.K X.mg X.base lev x ps S) (hr : Room k X.A) (tk : Takes X W) (ha : JA X W (e :: es) t) (hl : lev ≤ k := by decide) (hg : Gl X x := by rfl)
    (hdb : (x == ("__debug__" : Str)) = false := by decide) (he : starEach (e :: es) X.env = (false, eval e X.env) :: starEach es X.env := by rfl) (hpl : (backTo pos (starEach es X.env)).any (·.1) = false := by rfl) :
    JE X W (.Call (.Name x p) (e :: es) [] pos) (kCall S t) := by
  obtain ⟨f, fd, F, hm, hk, hb⟩ := D.ex
  exact je_call (F.mono hl) hr tk hm hk hb ha hg hdb he hpl
end
end BT
set_option Elab.async false
set_option linter.all false
set_option maxRecDepth 100000
set_option maxHeartbeats 4000000
namespace BT
open PySem PySem.Spec L2
open PyProof.Rows hiding St
/-! ### promises by the number of arguments -/
def sp1 (f : V → Hp → Mem → KR → KX → Prop) : KSp := fun vs G M R Z => match vs with
  | [x] => f x G M R Z
  | _ => False
def sp2 (f : V → V → Hp → Mem → KR → KX → Prop) : KSp := fun vs G M R Z => match vs with
  | [x, y] => f x y G M R Z
  | _ => False
def sp3 (f : V → V → V → Hp → Mem → KR → KX → Prop) : KSp := fun vs G M R Z => match vs with
  | [x, y, z] => f x y z G M R Z
  | _ => False
def sp4 (f : V → V → V → V → Hp → Mem → KR → KX → Prop) : KSp := fun vs G M R Z => match vs with
  | [x, y, z, u] => f x y z u G M R Z
  | _ => False
def sp5 (f : V → V → V → V → V → Hp → Mem → KR → KX → Prop) : KSp := fun vs G M R Z => match vs with
  | [x, y, z, u, t] => f x y z u t G M R Z
  | _ => False
section
variable {vs : List V} {G : Hp} {M : Mem} {R : KR} {Z : KX}
theorem sp1_of {f} (h : sp1 f vs G M R Z) : ∃ x, vs = [x] ∧ f x G M R Z := by
  match vs, h with
  | [x], h => exact ⟨x, rfl, h⟩
theorem sp2_of {f} (h : sp2 f vs G M R Z) : ∃ x y, vs = [x, y] ∧ f x y G M R Z := by
  match vs, h with
  | [x, y], h => exact ⟨x, y, rfl, h⟩
theorem sp3_of {f} (h : sp3 f vs G M R Z) : ∃ x y z, vs = [x, y, z] ∧ f x y z G M R Z := by
  match vs, h with
  | [x, y, z], h => exact ⟨x, y, z, rfl, h⟩
theorem sp4_of {f} (h : sp4 f vs G M R Z) : ∃ x y z u, vs = [x, y, z, u] ∧ f x y z u G M R Z := by
  match vs, h with
  | [x, y, z, u], h => exact ⟨x, y, z, u, rfl, h⟩
theorem sp5_of {f} (h : sp5 f vs G M R Z) : ∃ x y z u t, vs = [x, y, z, u, t] ∧ f x y z u t G M R Z := by
  match vs, h with
  | [x, y, z, u, t], h => exact ⟨x, y, z, u, t, rfl, h⟩
theorem sp_len1 {f} (h : sp1 f vs G M R Z) : vs.length = 1 := by obtain ⟨_, rfl, _⟩ := sp1_of h; rfl
theorem sp_len2 {f} (h : sp2 f vs G M R Z) : vs.length = 2 := by obtain ⟨_, _, rfl, _⟩ := sp2_of h; rfl
theorem sp_len3 {f} (h : sp3 f vs G M R Z) : vs.length = 3 := by obtain ⟨_, _, _, rfl, _⟩ := sp3_of h; rfl
theorem sp_len4 {f} (h : sp4 f vs G M R Z) : vs.length = 4 := by obtain ⟨_, _, _, _, rfl, _⟩ := sp4_of h; rfl
theorem sp_len5 {f} (h : sp5 f vs G M R Z) : vs.length = 5 := by obtain ⟨_, _, _, _, _, rfl, _⟩ := sp5_of h; rfl
end
/-- what a body has at its ends -/
abbrev ends (R : KR) (Z : KX) : Kd := { nx := fun _ G M => wkR R .non G M, rt := wkR R, xc := fun c d _ G M => wkX Z c d G M }
/-! ### small helps -/
section
variable {K : PySem.W.Frag} {G : Hp} {M : Mem} {a p : Addr} {xs : List V} {o : HO} {n : Nat}
theorem lst_n (h : M[n]? = some (a, .lst xs)) : SeqAt' K G M a xs := .inl (.inl (List.mem_of_getElem? h))
theorem lat_n (h : M[n]? = some (a, .lst xs)) : LstAt K G M a xs := .inl (List.mem_of_getElem? h)
theorem lst_g (h : SqL K G a xs) : SeqAt' K G M a xs := .inl (.inr h)
theorem lat_g (h : SqL K G a xs) : LstAt K G M a xs := .inr h
theorem tup_g (h : SqT K G a xs) : SeqAt' K G M a xs := .inr h
theorem at_n (h : M[n]? = some (a, o)) : At G M a o := .inl (List.mem_of_getElem? h)
theorem set_n {x : Addr × HO} (h : M[n]? = some (p, o)) : (M.set n x)[n]? = some x := List.getElem?_set_self (List.getElem?_eq_some_iff.mp h).1
theorem sqt_new {xs : List V} : SqT K (upd G p (.tup xs)) p xs := .inl (.inl upd_same)
theorem sql_new {xs : List V} : SqL K (upd G p (.lst xs)) p xs := .inl (.inl upd_same)
theorem ite2' {c : Bool} {A B : Prop} (h1 : c = true → A) (h2 : c = false → B) : if c = true then A else B := by
  cases c with
  | true => rw [if_pos rfl]; exact h1 rfl
  | false => rw [if_neg Bool.false_ne_true]; exact h2 rfl
theorem sz {n : Nat} (h : n ≤ 16777216) : n ≤ sizeLine := h
theorem tyl_n (h : M[n]? = some (a, .lst xs)) : ∀ H, Hv G M H → tyV K "list" (.ref a) H := fun H hv => .inl ⟨rfl, xs, .inl (.inl (hv.get h))⟩
theorem tyl_g (h : SqL K G a xs) : ∀ H, Hv G M H → tyV K "list" (.ref a) H := fun H hv => .inl ⟨rfl, xs, ex_l hv.exx h⟩
end
/-! ### the law's pool of numbers -/
def pool (c s : Int) : HO := .lst [.int c, .int s]
def PoolOk (s : Int) : Prop := 0 ≤ s ∧ s < 2147483647
def S_law_take (K : PySem.W.Frag) : KSp := sp2 fun x y G M R Z => ∃ (p : Addr) (m : Int) (n : Nat) (c s : Int), x = .ref p ∧ y = .int m ∧ M[n]? = some (p, pool c s) ∧ PoolOk s ∧ 0 < m ∧ m < 2 ^ 200 ∧
  ∀ r c' s', 0 ≤ r → r < m → PoolOk s' → R (.int r) G (M.set n (p, pool c' s'))
def S_law_pool (K : PySem.W.Frag) : KSp := sp2 fun x y G M R Z => ∃ (a : Addr) (ns : List Int) (k : Int), x = .ref a ∧ y = .int k ∧ SqL K G a (ns.map V.int) ∧ 0 ≤ k ∧ k ≤ 100 ∧ ns.length ≤ 63 ∧
  ∀ p c s, Fr G M p → PoolOk s → R (.ref p) G ((p, pool c s) :: M)
end BT
set_option Elab.async false
set_option linter.all false
set_option maxRecDepth 100000
set_option maxHeartbeats 4000000
namespace BT
open PySem PySem.Spec L2
open PyProof.Rows hiding St
/-! ### shapes of data -/
inductive Shp : Nat → PyData → Prop
  | non {n} : Shp n .none
  | bl {n b} : Shp n (.bool b)
  | int {n i} : Shp n (.int i)
  | str {n x} : PyData.strOk x = true → Shp n (.str x)
  | list {n ds} : (∀ d, d ∈ ds → Shp n d) → Shp (n + 1) (.list ds)
  | tuple {n ds} : (∀ d, d ∈ ds → Shp n d) → Shp (n + 1) (.tuple ds)
theorem shp_all {n : Nat} (ih : ∀ d, Shp n d → d.canLay0 = true ∧ d.depth ≤ n) : ∀ ds : List PyData, (∀ d, d ∈ ds → Shp n d) → PyData.canLayAll0 ds = true ∧ PyData.depthAll ds ≤ n
  | [], _ => by
    refine ⟨by simp [PyData.canLayAll0], by simp [PyData.depthAll]⟩
  | d :: ds, h => by
    obtain ⟨a, b⟩ := ih d (h d List.mem_cons_self)
    obtain ⟨c, e⟩ := shp_all ih ds fun x hx => h x (List.mem_cons_of_mem _ hx)
    refine ⟨by simp [PyData.canLayAll0, a, c], ?_⟩
    show max d.depth (PyData.depthAll ds) ≤ n
    omega
theorem shp_of : ∀ (n : Nat) (d : PyData), Shp n d → d.canLay0 = true ∧ d.depth ≤ n
  | n, _, .non => by refine ⟨by simp [PyData.canLay0], by simp [PyData.depth]⟩
  | n, _, .bl => by refine ⟨by simp [PyData.canLay0], by simp [PyData.depth]⟩
  | n, _, .int => by refine ⟨by simp [PyData.canLay0], by simp [PyData.depth]⟩
  | n, _, .str h => by refine ⟨by simp [PyData.canLay0, h], by simp [PyData.depth]⟩
  | n + 1, .list ds, .list h => by
    obtain ⟨a, b⟩ := shp_all (shp_of n) ds h
    refine ⟨by simp [PyData.canLay0, a], ?_⟩
    show PyData.depthAll ds + 1 ≤ n + 1
    omega
  | n + 1, .tuple ds, .tuple h => by
    obtain ⟨a, b⟩ := shp_all (shp_of n) ds h
    refine ⟨by simp [PyData.canLay0, a], ?_⟩
    show PyData.depthAll ds + 1 ≤ n + 1
    omega
theorem Shp.shaped {n : Nat} {d : PyData} (h : Shp n d) (hn : n ≤ 64) : SeqAt.shaped d = true := by
  obtain ⟨a, b⟩ := shp_of n d h
  unfold SeqAt.shaped
  rw [a, decide_eq_true (Nat.le_trans b hn)]; rfl
theorem Shp.refl {n : Nat} {d : PyData} (h : Shp n d) : PyData.eqv d d = true := by
  obtain ⟨a, b⟩ := shp_of n d h
  exact SeqAt.eqv_refl d a
theorem shp_ints {n : Nat} (ns : List Int) : Shp (n + 1) (.list (ns.map .int)) := .list fun d hd => by
  obtain ⟨i, _, rfl⟩ := List.mem_map.mp hd
  exact .int
/-! ### data known -/
section
variable {K : PySem.W.Frag} {G G' : Hp} {M : Mem} {a : Addr} {v : V} {d : PyData} {vs : List V} {ds : List PyData}
def DatAll (K : PySem.W.Frag) (G : Hp) (M : Mem) (vs : List V) (ds : List PyData) : Prop := ∀ H, Hv G M H → DpAll K H vs ds
theorem dat_g (h : Dp K G v d) : DatAt K G M v d := fun H hv => ex_d hv.exx d h
theorem dats_g (h : DpAll K G vs ds) : DatAll K G M vs ds := fun H hv => ex_ds hv.exx ds h
theorem dat_list (h : LstAt K G M a vs) (hs : DatAll K G M vs ds) : DatAt K G M (.ref a) (.list ds) := fun H hv => .lst (hv.lst h) (hs H hv)
theorem dat_tup (h : SqT K G a vs) (hs : DatAll K G M vs ds) : DatAt K G M (.ref a) (.tuple ds) := fun H hv => .tup (hv.tup h) (hs H hv)
theorem dat_int {i : Int} : DatAt K G M (.int i) (.int i) := fun H hv => .int i
theorem dat_bl {i : Bool} : DatAt K G M (.bl i) (.bool i) := fun H hv => .bl i
theorem dat_non : DatAt K G M .non .none := fun H hv => .non
theorem dat_str {i : Str} : DatAt K G M (.str i) (.str i) := fun H hv => .str i
theorem dats_nil : DatAll K G M [] [] := fun H hv => .nil
theorem dats_cons (h : DatAt K G M v d) (hs : DatAll K G M vs ds) : DatAll K G M (v :: vs) (d :: ds) := fun H hv => .cons (h H hv) (hs H hv)
theorem dpall_ints : ∀ ns : List Int, DpAll K G (ns.map V.int) (ns.map PyData.int)
  | [] => .nil
  | n :: ns => .cons (.int n) (dpall_ints ns)
theorem dats_ints {ns : List Int} : DatAll K G M (ns.map V.int) (ns.map PyData.int) := fun H hv => dpall_ints ns
theorem dat_ints {ns : List Int} (h : LstAt K G M a (ns.map V.int)) : DatAt K G M (.ref a) (.list (ns.map .int)) := dat_list h dats_ints
theorem dp_ints {ns : List Int} (h : SqL K G a (ns.map V.int)) : Dp K G (.ref a) (.list (ns.map .int)) := .lst h (dpall_ints ns)
theorem dpall_snoc : ∀ {vs : List V} {ds : List PyData}, DpAll K G vs ds → Dp K G v d → DpAll K G (vs ++ [v]) (ds ++ [d])
  | _, _, .nil, h => .cons h .nil
  | _, _, .cons a b, h => .cons a (dpall_snoc b h)
theorem dpall_len : ∀ {vs : List V} {ds : List PyData}, DpAll K G vs ds → vs.length = ds.length
  | _, _, .nil => rfl
  | _, _, .cons _ b => by simp [dpall_len b]
theorem dpall_get : ∀ {vs : List V} {ds : List PyData} {i : Nat} {d : PyData}, DpAll K G vs ds → ds[i]? = some d → ∃ v, vs[i]? = some v ∧ Dp K G v d
  | _, _, _, _, .nil, e => by simp at e
  | _, _, 0, _, .cons a _, e => by
    rw [List.getElem?_cons_zero] at e
    cases e; exact ⟨_, rfl, a⟩
  | _, _, i + 1, d, .cons _ b, e => by
    obtain ⟨v, h1, h2⟩ := dpall_get (i := i) (d := d) b (by simpa using e)
    exact ⟨v, by simpa using h1, h2⟩
theorem dpall_get' : ∀ {vs : List V} {ds : List PyData} {i : Nat} {v : V}, DpAll K G vs ds → vs[i]? = some v → ∃ d, ds[i]? = some d ∧ Dp K G v d
  | _, _, _, _, .nil, e => by simp at e
  | _, _, 0, _, .cons a _, e => by
    rw [List.getElem?_cons_zero] at e
    cases e; exact ⟨_, rfl, a⟩
  | _, _, i + 1, d, .cons _ b, e => by
    obtain ⟨v, h1, h2⟩ := dpall_get' (i := i) (v := d) b (by simpa using e)
    exact ⟨v, by simpa using h1, h2⟩
theorem dpall_one {x : V} {i : PyData} (h : DpAll K G [x] [i]) : Dp K G x i := by
  cases h with
  | cons a b => exact a
theorem dp_int_inv {i : Int} (h : Dp K G v (.int i)) : v = .int i := by cases h; rfl
theorem dp_tup_inv (h : Dp K G v (.tuple ds)) : ∃ t xs, v = .ref t ∧ SqT K G t xs ∧ DpAll K G xs ds := by
  cases h with
  | tup s a => exact ⟨_, _, rfl, s, a⟩
theorem dp_list_inv (h : Dp K G v (.list ds)) : ∃ t xs, v = .ref t ∧ SqL K G t xs ∧ DpAll K G xs ds := by
  cases h with
  | lst s a => exact ⟨_, _, rfl, s, a⟩
theorem dpall_ints_inv : ∀ {vs : List V} {ns : List Int}, DpAll K G vs (ns.map .int) → vs = ns.map V.int
  | _, [], h => by cases h; rfl
  | _, n :: ns, h => by
    cases h with
    | cons a b =>
      have e := dp_int_inv a
      subst e
      rw [dpall_ints_inv b]; rfl
end
/-! ### pairs of ints -/
def prD (p : Int × Int) : PyData := .tuple [.int p.1, .int p.2]
theorem dp_pr_inv {K : PySem.W.Frag} {G : Hp} {v : V} {p : Int × Int} (h : Dp K G v (prD p)) : ∃ t, v = .ref t ∧ SqT K G t [.int p.1, .int p.2] := by
  obtain ⟨t, xs, rfl, s, a⟩ := dp_tup_inv h
  have e : xs = [V.int p.1, V.int p.2] := dpall_ints_inv (ns := [p.1, p.2]) a
  rw [e] at s
  exact ⟨t, rfl, s⟩
theorem dp_pr {K : PySem.W.Frag} {G : Hp} {t : Addr} {a b : Int} (h : SqT K G t [.int a, .int b]) : Dp K G (.ref t) (prD (a, b)) := .tup h (.cons (.int a) (.cons (.int b) .nil))
theorem shp_prs {n : Nat} (ps : List (Int × Int)) : Shp (n + 2) (.list (ps.map prD)) := .list fun d hd => by
  obtain ⟨p, _, rfl⟩ := List.mem_map.mp hd
  refine .tuple fun d hd => ?_
  rcases List.mem_cons.mp hd with rfl | hd
  · exact .int
  · rcases List.mem_cons.mp hd with rfl | hd
    · exact .int
    · cases hd
/-! ### lists of ints by place -/
section
theorem atI_int {ns : List Int} {k : Int} (h0 : 0 ≤ k) (h1 : k < ns.length) : atI (ns.map V.int) k = some (.int (ns.getD k.toNat 0)) := by
  obtain ⟨j, rfl⟩ : ∃ j : Nat, k = j := ⟨k.toNat, by omega⟩
  have hj : j < ns.length := by omega
  refine atI_nat ?_
  rw [List.getElem?_map, List.getElem?_eq_getElem hj, Int.toNat_natCast, List.getD_eq_getElem?_getD, List.getElem?_eq_getElem hj]; rfl
theorem ixN_int {n : Nat} {k : Int} (h0 : 0 ≤ k) (h1 : k < n) : ixN n k = some k.toNat := by
  unfold ixN
  rw [if_pos h0, if_pos h1]
theorem map_set_int {ns : List Int} {j : Nat} {i : Int} : (ns.map V.int).set j (.int i) = (ns.set j i).map V.int := by rw [List.map_set]
theorem lat_cons {K : PySem.W.Frag} {G : Hp} {M : Mem} {a : Addr} {xs : List V} {x : Addr × HO} (h : LstAt K G M a xs) : LstAt K G (x :: M) a xs := by
  rcases h with h | h
  · exact .inl (List.mem_cons_of_mem _ h)
  · exact .inr h
theorem lat_ex {K : PySem.W.Frag} {G G' : Hp} {M : Mem} {a : Addr} {xs : List V} (e : Ex G G') (h : LstAt K G M a xs) : LstAt K G' M a xs := by
  rcases h with h | h
  · exact .inl h
  · exact .inr (ex_l e h)
theorem lat_0 {K : PySem.W.Frag} {G : Hp} {M : Mem} {a : Addr} {xs : List V} : LstAt K G ((a, .lst xs) :: M) a xs := .inl List.mem_cons_self
theorem seq_0 {K : PySem.W.Frag} {G : Hp} {M : Mem} {a : Addr} {xs : List V} : SeqAt' K G ((a, .lst xs) :: M) a xs := .inl lat_0
theorem isi_list {K : PySem.W.Frag} {G : Hp} {M : Mem} {a : Addr} {xs : List V} {R : KR} {n : Nat} (h : M[n]? = some (a, .lst xs)) (q : R (.bl true) G M) : kIsi K [.ref a, .ty "list"] G M R :=
  ⟨.type "list", .type "list", true, .ty "list", fun H hv => .base (.lst (hv.get h)), kit_ty (by decide +kernel), q⟩
theorem mul_l {i j : Int} (h0 : -(2 ^ 64) < i) (h1 : i < 2 ^ 64) : MulOk i j := .inl (.inl ⟨h0, h1⟩)
theorem mul_r {i j : Int} (h0 : -(2 ^ 64) < j) (h1 : j < 2 ^ 64) : MulOk i j := .inl (.inr ⟨h0, h1⟩)
theorem divW {m : Int} (h0 : 0 < m) (h1 : m < 2 ^ 200) (c : Int) : CDivW c m := wide_div (b := 200) h0 (by omega) (by decide) (by decide)
theorem sz0 : (0 : Nat) ≤ sizeLine := by decide
theorem sz1 : (1 : Nat) ≤ sizeLine := by decide
theorem sz2 : (2 : Nat) ≤ sizeLine := by decide
theorem sz3 : (3 : Nat) ≤ sizeLine := by decide
theorem sz4 : (4 : Nat) ≤ sizeLine := by decide
theorem sz5 : (5 : Nat) ≤ sizeLine := by decide
theorem sz6 : (6 : Nat) ≤ sizeLine := by decide
theorem sz7 : (7 : Nat) ≤ sizeLine := by decide
theorem sz8 : (8 : Nat) ≤ sizeLine := by decide
theorem pow10_18 : CPow 10 18 := ⟨by decide, by decide, by decide⟩
end
end BT
namespace BT
open PySem PySem.Spec L2
section
variable {K : PySem.W.Frag} {G : Hp} {M : Mem} {a b : Addr} {vs ws : List V} {i : Nat} {v u : V} {g : KG} {σ : St} {R : St → Hp → Mem → Prop}
theorem asg_L (h : vs[i]? = some v) (q : g.val v σ G M R) : asg g ((srcL K a vs).get i) σ G M R := by
  show g.val (vs.getD i .non) σ G M R
  rw [getD_of h]; exact q
theorem asg_T (h : vs[i]? = some v) (q : g.val v σ G M R) : asg g ((srcT K a vs).get i) σ G M R := by
  show g.val (vs.getD i .non) σ G M R
  rw [getD_of h]; exact q
theorem asg_V (h : vs[vs.length - 1 - i]? = some v) (q : g.val v σ G M R) : asg g ((srcV K a vs).get i) σ G M R := by
  show g.val (vs.getD (vs.length - 1 - i) .non) σ G M R
  rw [getD_of h]; exact q
theorem asg_E (h : vs[i]? = some v) (q : g.tup [.int i, v] σ G M R) : asg g ((srcE K a vs).get i) σ G M R := by
  show g.tup [.int i, vs.getD i .non] σ G M R
  rw [getD_of h]; exact q
theorem asg_Z (h : vs[i]? = some v) (h2 : ws[i]? = some u) (q : g.tup [v, u] σ G M R) : asg g ((srcZ K a b vs ws).get i) σ G M R := by
  show g.tup [vs.getD i .non, ws.getD i .non] σ G M R
  rw [getD_of h, getD_of h2]; exact q
theorem dpall_at {ds : List PyData} {d : PyData} (h : DpAll K G vs ds) (e : ds[i]? = some d) : ∃ v, vs[i]? = some v ∧ Dp K G v d := dpall_get h e
end
end BT
namespace BT
open PySem PySem.Spec L2
/-- a cell becomes frozen -/
theorem frz {G : Hp} {M : Mem} {p : Addr} (o : HO) (h : Fr G M p) : ∃ G', Ex G G' ∧ G' p = some o ∧ Wk G ((p, o) :: M) G' M ∧ ∀ q M0, Fr G M0 q → q ≠ p → Fr G' M0 q :=
  ⟨upd G p o, Ex.new h, upd_same, Wk.frz0, fun q M0 f hq => ⟨by rw [upd_ne hq]; exact f.1, f.2⟩⟩
theorem Wk.nil' {G : Hp} {M : Mem} : Wk G M G [] := fun H h => ⟨h.ex, fun _ z => (nomatch z), List.nodup_nil, fun _ z => (nomatch z)⟩
theorem sql_of {K : PySem.W.Frag} {G : Hp} {a : Addr} {xs : List V} (h : G a = some (.lst xs)) : SqL K G a xs := .inl (.inl h)
theorem sqt_of {K : PySem.W.Frag} {G : Hp} {a : Addr} {xs : List V} (h : G a = some (.tup xs)) : SqT K G a xs := .inl (.inl h)
theorem Fr.cons {G : Hp} {M : Mem} {p : Addr} {x : Addr × HO} (h : Fr G (x :: M) p) : Fr G M p := ⟨h.1, fun y hy => h.2 y (List.mem_cons_of_mem _ hy)⟩
end BT
set_option Elab.async false
set_option linter.all false
set_option maxRecDepth 100000
set_option maxHeartbeats 4000000
namespace BT
open PySem PySem.Spec L2
open PyProof.Rows hiding St
/-- the slots at a body's start -/
def sta (n : Nat) (vs : List V) : St := vs.map some ++ List.replicate (n - vs.length) none
/-! ### ranges with a step -/
theorem rg_up {i j c : Int} (hc : 0 < c) (hc2 : c < 1000000) (hi : -1000000000000 < i) (hi2 : i < 1000000000000) (hj : -1000000000000 < j) (hj2 : j < 1000000000000) :
    RgC i j c (if i < j then ((j - i - 1) / c + 1).toNat else 0) := by
  have e : Builtin.Range.rangeSize i j c = if i < j then (j - i - 1) / c + 1 else 0 := by
    unfold Builtin.Range.rangeSize
    rw [if_pos hc]
  have hb : 0 ≤ (j - i - 1) / c ∨ ¬ i < j := by
    by_cases h : i < j
    · exact .inl (Int.ediv_nonneg (by omega) (by omega))
    · exact .inr h
  have hb2 : (j - i - 1) / c ≤ 2000000000000 ∨ ¬ i < j := by
    by_cases h : i < j
    · left
      have := Int.ediv_le_self c (show 0 ≤ j - i - 1 by omega)
      omega
    · exact .inr h
  refine ⟨by omega, by omega, ?_, ?_⟩
  · unfold Builtin.Range.small
    rw [e]
    simp only [Builtin.Range.rangeFitsLong, Bool.and_eq_true, Bool.or_eq_true, decide_eq_true_eq, beq_iff_eq, hc, gt_iff_lt, if_true]
    by_cases h : i < j
    · rw [if_pos h]; omega
    · rw [if_neg h]; omega
  · rw [e]
    by_cases h : i < j
    · rw [if_pos h, if_pos h]; omega
    · rw [if_neg h, if_neg h]; rfl
theorem rg_down {i j : Int} (hi : -1000000000000 < i) (hi2 : i < 1000000000000) (hj : -1000000000000 < j) (hj2 : j < 1000000000000) : RgC i j (-1) (i - j).toNat :=
  RgC.neg (by omega) (by omega) (by omega) (by omega)
section
variable {X : Cx} {W : WX} {pos : Pos} {a b c e : Expr} {es : List Expr}
/-! ### sorted, xs[::-1] -/
def kSorted (K : PySem.W.Frag) : KC := fun vs G M R => match vs with
  | [.ref a] => ∃ ns : List Int, LstAt K G M a (ns.map V.int) ∧ ∀ (ns' : List Int) (p : Addr), ns'.Perm ns → ns'.Pairwise (· ≤ ·) → Fr G M p → R (.ref p) G ((p, .lst (ns'.map V.int)) :: M)
  | _ => False
theorem kc_sorted : KCall X (.builtin "sorted") (kSorted X.K) := kcall_of cr_sortedI fun vs G M R H Q hv h hR => by
  match vs, h with
  | [.ref a], ⟨ns, h1, h2⟩ => exact ⟨a, ns, rfl, hv.lst h1, fun ns' p q1 q2 q3 => hR _ G _ _ (hv.newM q3) (h2 ns' p q1 q2 (hv.fr q3))⟩
def kRevL (K : PySem.W.Frag) : V → Hp → Mem → KR → Prop := fun x G M R => match x with
  | .ref a => ∃ xs, LstAt K G M a xs ∧ ∀ p, Fr G M p → R (.ref p) G ((p, .lst xs.reverse) :: M)
  | _ => False
theorem je_revl {t : KE} {k : Nat} {p1 p2 p3 : Pos} (he : JE X W e t) : JE X W (.Subscript e (.Slice none none (some (.UnaryOp .USub (.Constant (.int 1) k p1) p2)) p3) pos) (kUn (kRevL X.K) t) :=
  pe_mono (pe_revL he) fun σ H Q ⟨G, M, R, E, hv, h, hR, hE⟩ => ⟨G, M, _, E, hv, h, fun x G1 M1 H1 hv1 h1 => by
    match x, h1 with
    | .ref a, ⟨xs, q1, q2⟩ => exact ⟨a, xs, rfl, hv1.lst q1, fun p hp => hR _ G1 _ _ (hv1.newM hp) (q2 p (hv1.fr hp))⟩, hE⟩
/-! ### in, not in: flat things in a list or a tuple -/
def kIn (neg : Bool) (K : PySem.W.Frag) : KR2 := fun x y G M R => match y with
  | .ref a => ∃ xs, SeqAt' K G M a xs ∧ flatV x = true ∧ xs.all flatV = true ∧ R (.bl (if neg then !inV x xs else inV x xs)) G M
  | _ => False
theorem kop_in : KOp X (compareOp .In) (kIn false X.K) := kop_of op_in_seq fun x y G M R H Q hv h hR => by
  match y, h with
  | .ref a, ⟨xs, h1, h2, h3, h4⟩ => exact ⟨a, xs, rfl, h1.elim (fun q => .inl (hv.lst q)) (fun q => .inr (hv.tup q)), h2, h3, hR _ G M H hv h4⟩
theorem kop_notin : KOp X (compareOp .NotIn) (kIn true X.K) := kop_of op_notIn_seq fun x y G M R H Q hv h hR => by
  match y, h with
  | .ref a, ⟨xs, h1, h2, h3, h4⟩ => exact ⟨a, xs, rfl, h1.elim (fun q => .inl (hv.lst q)) (fun q => .inr (hv.tup q)), h2, h3, hR _ G M H hv h4⟩
/-! ### list.index, list.insert, tuple(xs), bool(x), list(range) -/
def kIndex (K : PySem.W.Frag) : KM := fun x vs G M R => match x, vs with
  | .ref a, [y] => ∃ ys j z, LstAt K G M a ys ∧ flatV y = true ∧ ys.all flatV = true ∧ ys[j]? = some z ∧ eqV z y = true ∧ (∀ m z', m < j → ys[m]? = some z' → eqV z' y = false) ∧ R (.int (j : Nat)) G M
  | _, _ => False
end
end BT
namespace BT
open PySem PySem.Spec L2
open PyProof.Rows hiding St
theorem rg_mul {i c : Int} {n : Nat} (hc : 0 < c) (hc2 : c < 1000000) (hi : -1000000000 < i) (hi2 : i < 1000000000) (hn : n < 100000) : RgC i (i + c * n) c n := by
  have hm : c * n < 100000000000 := by
    have h1 : c * (n : Int) ≤ 1000000 * (n : Int) := Int.mul_le_mul_of_nonneg_right (by omega) (by omega)
    omega
  have hm0 : 0 ≤ c * n := Int.mul_nonneg (by omega) (by omega)
  have q := rg_up (i := i) (j := i + c * n) hc hc2 (by omega) (by omega) (by omega) (by omega)
  have e : (if i < i + c * n then ((i + c * n - i - 1) / c + 1).toNat else 0) = n := by
    cases n with
    | zero => rw [if_neg (by simp)]
    | succ k =>
      have hk : 0 < c * ((k + 1 : Nat) : Int) := Int.mul_pos hc (by omega)
      rw [if_pos (by omega)]
      have e1 : i + c * ((k + 1 : Nat) : Int) - i - 1 = (c - 1) + c * (k : Int) := by
        rw [show ((k + 1 : Nat) : Int) = (k : Int) + 1 by omega, Int.mul_add]; omega
      rw [e1, ((Int.ediv_emod_unique hc).mpr ⟨rfl, by omega, by omega⟩).1]
      omega
  rw [e] at q
  exact q
theorem fn_false {P : Program} {w : World} {K : PySem.W.Frag} {mg : Str → Option Value} {base : Heap} {CX : CXT} {k : Nat} {f : Addr} {fd : FuncData} {ps : List Str} {S : KSp} (h : ∀ vs G M R Z, ¬ S vs G M R Z) : FnOk P w K mg base CX k f fd ps (lift S) :=
  ⟨fun vs H Q E ⟨G, M, R, Z, _, q, _⟩ => (h vs G M R Z q).elim, fun A outer s H args us vs Q E _ _ _ _ ⟨G, M, R, Z, _, q, _⟩ => (h vs G M R Z q).elim⟩
theorem cx_none {P : Program} {w : World} {l : List Env} {H : Hp} {s : Shared} {e : Value} {s' : Shared} (h : L2.CX P w l H s (fun _ _ _ => False) e s') : False := by
  obtain ⟨_, _, _, _, _, _, _, _, _, _, _, _, z⟩ := h
  exact z.elim
/-- a law's promise -/
def S_law (K : PySem.W.Frag) : KSp := sp1 fun x G M R Z => ∃ (a : Addr) (ns : List Int), x = .ref a ∧ SqL K G a (ns.map V.int) ∧ ns.length ≤ 63 ∧ ∀ G' M', R (.bl true) G' M'
theorem law_start {K : PySem.W.Frag} {H : Hp} {a : Addr} {ns : List Int} (hl : ns.length ≤ 63) (hS : SqL K H a (ns.map V.int)) : lift (S_law K) [.ref a] H (fun v _ => v = .bl true) fun _ _ _ => False :=
  ⟨H, [], fun v _ _ => v = .bl true, fun _ _ _ _ => False, Hv.self H, ⟨a, ns, rfl, hS, hl, fun _ _ => rfl⟩, fun _ _ _ _ _ h => h, fun _ _ _ _ _ _ z => z⟩
end BT
namespace BT
open PySem PySem.Spec L2
open PyProof.Rows hiding St
/-! ### is of None and of truths -/
def kIs2 (neg : Bool) : KR2 := fun x y G M R => match x, y with
  | .bl a, .bl b => R (.bl (if neg then !decide (a = b) else decide (a = b))) G M
  | x, .non => R (.bl (if neg then !decide (x = .non) else decide (x = .non))) G M
  | _, _ => False
theorem kop_is2 {X : Cx} : KOp X (compareOp .Is) (kIs2 false) := fun pins s σ H x y v u Q G M R I rx ry hv h hR => by
  cases y <;> cases x <;> first
    | exact op_isBl pins s σ H _ _ v u Q I rx ry ⟨_, _, rfl, rfl, hR _ G M H hv h⟩
    | exact op_isN pins s σ H _ _ v u Q I rx ry ⟨rfl, hR _ G M H hv h⟩
    | exact h.elim
theorem kop_isnot2 {X : Cx} : KOp X (compareOp .IsNot) (kIs2 true) := fun pins s σ H x y v u Q G M R I rx ry hv h hR => by
  cases y <;> cases x <;> first
    | exact op_notBl pins s σ H _ _ v u Q I rx ry ⟨_, _, rfl, rfl, hR _ G M H hv h⟩
    | exact op_notN pins s σ H _ _ v u Q I rx ry ⟨rfl, hR _ G M H hv h⟩
    | exact h.elim
/-! ### types of values -/
inductive PT | int | bool | non | str | list | tuple | dict
  deriving DecidableEq
def PT.name : PT → String
  | .int => "int" | .bool => "bool" | .non => "NoneType" | .str => "str" | .list => "list" | .tuple => "tuple" | .dict => "dict"
def TyK (K : PySem.W.Frag) (G : Hp) (M : Mem) (x : V) (T : PT) : Prop := ∀ H, Hv G M H → TyX K H x (.type T.name)
section
variable {K : PySem.W.Frag} {G : Hp} {M : Mem} {a : Addr} {xs : List V} {n : Nat}
theorem ty_int {i : Int} : TyK K G M (.int i) .int := fun H hv => .base (.int i)
theorem ty_bl {i : Bool} : TyK K G M (.bl i) .bool := fun H hv => .base (.bl i)
theorem ty_non : TyK K G M .non .non := fun H hv => .base .non
theorem ty_str {i : Str} : TyK K G M (.str i) .str := fun H hv => .base (.str i)
theorem ty_lst (h : LstAt K G M a xs) : TyK K G M (.ref a) .list := fun H hv => by
  rcases hv.lst h with (z | ⟨o, z⟩) | ⟨o, its, m, z1, z2, _⟩
  · exact .base (.lst z)
  · exact .base (.frz z)
  · exact .kList z1 z2
theorem ty_tup (h : SqT K G a xs) : TyK K G M (.ref a) .tuple := fun H hv => by
  rcases hv.tup h with (z | ⟨o, z⟩) | ⟨o, its, m, z1, z2, _⟩
  · exact .base (.tup z)
  · exact .fTuple z
  · exact .kTuple z1 z2
theorem ty_dict {kvs : List (Key × V)} (h : At G M a (.dK kvs)) : TyK K G M (.ref a) .dict := fun H hv => .base (.dK (hv.at h))
/-- isinstance(x, T): both answers -/
def isaB (T U : PT) : Bool := T == U || (T == .bool && U == .int)
theorem kit_pt (T U : PT) : PySem.W.kitOne K (.type T.name) (.type U.name) = some (isaB T U) := by
  cases T <;> cases U <;> exact kit_ty (by decide +kernel)
theorem isi_pt {x : V} {T : PT} {R : KR} (U : PT) (h : TyK K G M x T) (q : R (.bl (isaB T U)) G M) : kIsi K [x, .ty U.name] G M R :=
  ⟨.type T.name, .type U.name, _, .ty U.name, h, kit_pt T U, q⟩
end
end BT
namespace BT
open PySem PySem.Spec L2
/-! ### steps by name -/
section
variable {D : Kd} {σ : St} {G : Hp} {M : Mem} {i : Nat} {te ta tb : KE}
theorem kset_of (h : te σ G M (fun v G M => D.nx (σ.set i (some v)) G M) (D.x σ)) : kSet i te D σ G M := h
theorem kret_of (h : te σ G M D.rt (D.x σ)) : kRet te D σ G M := h
theorem kexpr_of (h : te σ G M (fun _ G M => D.nx σ G M) (D.x σ)) : kExpr te D σ G M := h
theorem kbin_of {β : Type} {k : V → V → Hp → Mem → (β → Hp → Mem → Prop) → Prop} {R : β → Hp → Mem → Prop} {E : KX} (h : ta σ G M (fun x G M => tb σ G M (fun y G M => k x y G M R) E) E) : kBin k ta tb σ G M R E := h
theorem kcb_of {k : KC} {t : KA} {R : KR} {E : KX} (h : t σ G M (fun vs G M => k vs G M R) E) : kCB k t σ G M R E := h
theorem kcons_of {t : KE} {u : KA} {R : List V → Hp → Mem → Prop} {E : KX} (h : t σ G M (fun x G M => u σ G M (fun xs G M => R (x :: xs) G M) E) E) : kCons t u σ G M R E := h
end
end BT
set_option Elab.async false
set_option linter.all false
set_option maxRecDepth 100000
set_option maxHeartbeats 4000000
namespace BT
open PySem PySem.Spec L2
open PyProof.Rows hiding St
/-! ### own errors: raised, caught, held -/
/-- the address of a class, by its name -/
def cl (K : PySem.W.Frag) (x : Str) : Addr := match PySem.W.nsIn K mainGlobals x with
  | some (some (.ref a)) => a
  | _ => 0
theorem cl_of {K : PySem.W.Frag} {x : Str} {C : Addr} (a : PySem.W.nsIn K mainGlobals x = some (some (.ref C))) : cl K x = C := by
  unfold cl
  rw [a]
/-- a class that is known -/
structure XG (K : PySem.W.Frag) (mg : Str → Option Value) (x : Str) : Prop where
  g : mg x = some (.ref (cl K x))
  k : PySem.W.keepIn K (.ref (cl K x)) = true
/-- a class without own __init__ under ValueError, to be raised -/
structure XR (K : PySem.W.Frag) (x : Str) : Prop where
  n : PySem.W.excIn K (cl K x) [.type "ValueError", .type "Exception", .type "BaseException", .type "object"] "ValueError.__new__" = true
  b : PySem.W.subIn K (.ref (cl K x)) (.type "BaseException") = some true
  t : PySem.W.typeIn K (.ref (cl K x)) = some (.type "type")
theorem xg_mk {K : PySem.W.Frag} {mg : Str → Option Value} {h : Heap} {x : Str} {C : Addr} (X : K.In h) (G : h.Ns mainGlobals mg) (a : PySem.W.nsIn K mainGlobals x = some (some (.ref C))) (k : PySem.W.keepIn K (.ref C) = true) : XG K mg x := by
  have e := cl_of a
  exact ⟨by rw [e]; exact PySem.W.mg_of X G a, by rw [e]; exact k⟩
theorem xr_mk {K : PySem.W.Frag} {x : Str} {C : Addr} (a : PySem.W.nsIn K mainGlobals x = some (some (.ref C)))
    (q : PySem.W.excIn K C [.type "ValueError", .type "Exception", .type "BaseException", .type "object"] "ValueError.__new__" = true)
    (b : PySem.W.subIn K (.ref C) (.type "BaseException") = some true) (t : PySem.W.typeIn K (.ref C) = some (.type "type")) : XR K x := by
  have e := cl_of a
  exact ⟨by rw [e]; exact q, by rw [e]; exact b, by rw [e]; exact t⟩
theorem xe_mk {K : PySem.W.Frag} {x : Str} {C : Addr} (a : PySem.W.nsIn K mainGlobals x = some (some (.ref C))) (q : ExcC K C) : ExcC K (cl K x) := by
  rw [cl_of a]
  exact q
section
variable {X : Cx} {W : WX} {pos : Pos}
/-- raise C('m') -/
def kRaise (K : PySem.W.Frag) (x : Str) : KS := fun D σ G M => D.xc (.ref (cl K x)) none σ G M
theorem js_raise {x m : Str} {j : Nat} {p p2 pos2 : Pos} (g : XG X.K X.mg x) (r : XR X.K x) (tk : Takes X W) (hc : X.calm = true := by rfl) (hg : Gl X x := by rfl) (hdb : (x == ("__debug__" : Str)) = false := by decide) :
    JS X W (.Raise (some (.Call (.Name x p) [.Constant (.str m) j p2] [] pos2)) none pos) (kRaise X.K x) :=
  ps_mono (ps_raise hc tk (pmk_own PySem.F.excBase_ValueError r.n g.g g.k (raises_own r.b r.t) hg hdb)) fun D σ H ⟨G, M, d, hv, h, en⟩ => en.xc _ _ _ _ _ _ hv h

/-- a caught error that is held: its class and its dict -/
def ExT (cls : Value) (d : Option Addr) (a : Addr) : HO := .ext fun h => ∃ (oe : Obj) (vs : Array Value), h.get? a = some oe ∧ Zc cls d oe ∧ oe.data = .fields vs
theorem exT_ok {P : Program} {w : World} {H : Hp} {h : Heap} {a : Addr} {cls : Value} {d : Option Addr} {oe : Obj} {vs : Array Value} (e : h.get? a = some oe) (z : Zc cls d oe) (q : oe.data = .fields vs) : ObjOk P w H h a (ExT cls d a) :=
  ⟨⟨oe, vs, e, z, q⟩, ⟨oe, e⟩, fun _ _ ⟨o, v, q, r⟩ k => ⟨o, v, k o q, r⟩⟩
/-- an object that nobody tracked is tracked from here on -/
theorem inv_track {pins : List (Addr × Obj)} {σ : St} {H : Hp} {s : Shared} {a : Addr} {o : HO} (I : Inv X pins σ H s) (n : H a = none) (n0 : X.s_0.heap.get? a = none) (nl : a ≠ X.env.locals)
    (nc : ∀ y c, X.env.cells.lookup y = some c → c ≠ a) (np : ∀ p ∈ X.pn ++ pins, p.1 ≠ a) (new : ObjOk X.prog X.w (upd H a o) s.heap a o) : Inv X pins σ (upd H a o) s := by
  have ne : ∀ b u, H b = some u → b ≠ a := fun b u e z => by
    rw [z, n] at e
    cases e
  refine ⟨I.ok, I.os, I.bare, ⟨I.base.keep, I.base.slot, fun b u e m x => ?_, I.base.there, fun b xs e => ?_, fun b u v e => ?_, fun b ps e => ?_⟩, I.loc, I.cell, ?_, fun y c e => ?_, fun p hp => ?_, fun b u e => ?_, I.len⟩
  · rw [upd_ne (fun z => by rw [z, n0] at e; cases e)]
    exact I.base.free b u e m x
  · have q := I.base.tups b xs e
    rw [upd_ne (ne b _ q)]
    exact q
  · have q := I.base.frzs b u v e
    rw [upd_ne (ne b _ q)]
    exact q
  · obtain ⟨m, q⟩ := I.base.tbls b ps e
    exact ⟨m, by rw [upd_ne (ne b _ q)]; exact q⟩
  · rw [upd_ne (Ne.symm nl)]
    exact I.free
  · rw [upd_ne (nc y c e)]
    exact I.freeC y c e
  · obtain ⟨p1, p2, p3, p4, p5⟩ := I.pin p hp
    exact ⟨p1, by rw [upd_ne (np p hp)]; exact p2, p3, p4, p5⟩
  · by_cases hb : b = a
    · subst hb
      rw [upd_same] at e
      cases e
      exact new
    · rw [upd_ne hb] at e
      exact (I.hok b u e).stay (fun c v _ q => q) (fun c q => by rw [upd_ne (ne c _ q)]; exact q) fun c xs q => by rw [upd_ne (ne c _ q)]; exact q
end

/-- what 'except x as n: y = n' wishes of an error of the body -/
def wKeep (K : PySem.W.Frag) (c : Value) (i j : Nat) (Wout : WX) (D : Ends) : WX := fun cls d σ H => ∃ b, PySem.W.exmOne K cls c = some b ∧
  (b = true → ∀ a, H a = none → D.nx (((σ.set i (some (.ref a))).set j (some (.ref a))).set i none) (upd H a (ExT cls d a))) ∧ (b = false → Wout cls d σ H)
section
variable {X : Cx} {x n y : Str} {c : Value} {i j : Nat} {body : List Stmt} {np pos pos' q1 q2 q3 : Pos} {tb : WX → TS} {Wout : WX}
theorem ps_try_keep (hs : X.stack = X.env :: X.outer) (hf : X.env.frame = some X.env.locals) (hx : X.ex = []) (hN : X.N.Nodup) (hi : X.N[i]? = some n) (hj : X.N[j]? = some y) (hln : X.env.kindOf n = some .local) (hlj : Loc X.env.scope y) (hij : i ≠ j)
    (hfy : X.fn y = true ∨ X.env.scope.names.lookup y = some .local) (hdn : (n == ("__debug__" : Str)) = false) (hcn : (n == ("__classdict__" : Str)) = false)
    (hsw : swapsWith (.Name n q2) (some (.Name y q1)) q3.line X.env = pure false) (hc : Names X x c) (tk : Takes X Wout)
    (hb : ∀ (W : WX) (pn : List (Addr × Obj)) (xe : Value → Shared → Prop), Takes (X.tr pn xe) W → PassesOwn (model X.prog X.w) X.A X.env xe → PSs (X.tr pn xe) body (tb W)) :
    PS X (.Try body [.ExceptHandler (some (.Name x np)) (some n) [.Assign [.Name y q1] (.Name n q2) q3] pos'] [] [] pos) (fun D σ H => tb (wKeep X.K c i j Wout D) D σ H) := by
  refine ⟨fun pins s σ H D I h => ?_⟩
  have ok := I.ok
  have fr0 : X.A.frames = some (X.env :: X.outer) := by rw [ok.frames, hs]
  refine wpAny_Try_except ?_
  refine wpAny_mono ((hb (wKeep X.K c i j Wout D) (X.pn ++ pins) _ (fun u s' xx => ?_) PassesOwn.looking).run [] s σ H D (I.toTry _) h) (fun f s1 hsp => ?_) (fun e s1 he => he)
  · obtain ⟨a, B, sI, pins', σ', H', cls, d, rfl, J', nb, up, sky, na, os, ag, b, hb1, hyes, hno⟩ := xx
    have J : Inv X pins σ' H' sI := J'.ofTry ok
    have sky2 : Sky B (X.env :: X.outer) a (Zc cls d) X.env.locals s'.heap := by
      rw [← hs]
      exact sky
    show wpAny (model X.prog X.w) X.A (noteFrame (.ref a) X.env) _ _ _
    refine Sky.land Zc.steady fr0 hf sky2 fun h3 fl3 up3 => ?_
    have J3 : Inv X pins σ' H' { s' with heap := h3 } := J.landed nb fl3.1 (up.trans up3) os ag
    obtain ⟨oe3, vs3, he3, hz3, hd3⟩ := fl3.there
    have nfr : a ∉ frs (X.env :: X.outer) := fun hm => by
      obtain ⟨_, o', e', hnf⟩ := fl3.2.2.1.mem hm
      rw [he3] at e'
      cases e'
      exact hnf _ hd3
    have nL : a ≠ X.env.locals := fun z => nfr (List.mem_filterMap.mpr ⟨X.env, List.mem_cons_self, by rw [hf, z]⟩)
    have nF : a ∉ X.fs := fun hm => by
      obtain ⟨e, he, q⟩ := List.mem_filterMap.mp hm
      exact nfr (List.mem_filterMap.mpr ⟨e, List.mem_cons_of_mem _ he, q⟩)
    have nI : sI.heap.get? a = none := by
      cases e : sI.heap.get? a with
      | none => rfl
      | some o =>
        have z := nb a o e (by rw [hs]; exact nfr)
        rw [fl3.2.1] at z
        cases z
    have n0 : X.s_0.heap.get? a = none := by
      cases e : X.s_0.heap.get? a with
      | none => rfl
      | some o =>
        obtain ⟨o', z⟩ := J.base.there a o e (by rw [hx]; exact fun z => nomatch z)
        rw [nI] at z
        cases z
    have nc : ∀ w c, X.env.cells.lookup w = some c → c ≠ a := fun w c e z => by
      obtain ⟨v, o, ho, _⟩ := J.cell w c e
      rw [z, nI] at ho
      cases ho
    have npn : ∀ p ∈ X.pn ++ pins, p.1 ≠ a := fun p hp z => by
      obtain ⟨q, _⟩ := J.pin p hp
      rw [z, nI] at q
      cases q
    have S3 := J3.suite he3 hd3 na nL nF
    refine wpAny_handleBy_cons (codeAny_handlers_test ?_) (by intro q; cases q)
    have LT : PySem.W.Looks (model X.prog X.w) h3 (typeOf (.ref a)) cls := fun A Q E s k q => wpAny_typeOf_ref (k _ _ he3) (by rw [hz3.1]; exact q)
    have LM := PySem.W.exm_one (M := model X.prog X.w) (J3.kIn) LT hb1
    have look : ∀ {Q : Value → Shared → Prop} {E : Value → Shared → Prop}, Q c { s' with heap := h3 } → wpAny (model X.prog X.w) (X.A.mark (some (.ref a))) (eval (.Name x np) X.env) Q E { s' with heap := h3 } := fun {Q E} q => by
      obtain ⟨hg, hdbg, hm | ⟨hm, hv, hnn⟩⟩ := hc
      · exact ld_glob (X := X.suite a ((a, oe3) :: (X.pn ++ pins))) S3 hg hm q hdbg
      · exact ld_blt (X := X.suite a ((a, oe3) :: (X.pn ++ pins))) S3 hg hm hv q hnn hdbg
    refine look (LM.here ?_)
    cases b with
    | true =>
      refine codeAny_handlers_suite_as ?_
      refine HandSPX.lands_againZ fl3 fun h4 fl4 up4 => ?_
      have J4 : Inv X pins σ' H' { s' with heap := h4 } := J.landed nb fl4.1 ((up.trans up3).trans up4) os ag
      obtain ⟨oe4, vs4, he4, hz4, hd4⟩ := fl4.there
      have S4 := J4.suite he4 hd4 na nL nF
      refine store_ok (X := X.suite a ((a, oe4) :: (X.pn ++ pins))) (v := .ref a) S4 hN hi (.inl hln) rfl (fun s5 S5 => ?_) (.inr hln)
      have lenσ : σ'.length = X.N.length := J.len
      have hiσ : i < σ'.length := by
        rw [lenσ]
        exact (List.getElem?_eq_some_iff.mp hi).1
      have P1 : PSs (X.suite a ((a, oe4) :: (X.pn ++ pins))) [.Assign [.Name y q1] (.Name n q2) q3] (tSeq (tAsg (tVar i) (gName j)) tNext) :=
        pss_cons (ps_set hN hj hlj (pe_var hi (.inl hln) hdn hcn) hsw hfy) pss_nil
      refine wpAny_mono (P1.run [] s5 (σ'.set i (some (.ref a))) H' { nx := fun σ6 H6 => σ6 = (σ'.set i (some (.ref a))).set j (some (.ref a)) ∧ H6 = H', rt := fun _ _ => False, bk := fun _ _ => False, ct := fun _ _ => False } S5 ?_) (fun f s6 hsp => ?_) (fun _ _ z => False.elim z)
      · exact ⟨.ref a, by rw [List.getElem?_set_self hiσ], rfl, rfl⟩
      · cases f with
        | next =>
          obtain ⟨σ6, H6, S6, rfl, rfl⟩ := hsp
          refine gone_ok (X := X.suite a ((a, oe4) :: (X.pn ++ pins))) S6 hN hi hln fun s7 S7 => ?_
          obtain ⟨k1, k2, _⟩ := S7.pin (a, oe4) (List.mem_append.mpr (.inl List.mem_cons_self))
          exact ⟨_, _, inv_track (S7.unsuite ok) na n0 nL nc npn (exT_ok k1 hz4 hd4), hyes rfl a na⟩
        | brk => obtain ⟨_, _, _, z⟩ := hsp; exact z.elim
        | cont => obtain ⟨_, _, _, z⟩ := hsp; exact z.elim
        | ret u => obtain ⟨_, _, _, _, _, z⟩ := hsp; exact z.elim
    | false =>
      show wpAny _ X.A (handleBy (.ref a) X.env []) _ _ _
      refine wpAny_handleBy_nil ?_
      obtain ⟨k1, k2, k3, oe, vs, T, oT, ts', he, hz, hd, h1, hr⟩ := id fl3
      unfold PySem.passOn
      refine wpAny_bind (wpAny_field he hd h1 ?_)
      rw [if_neg (show ¬ ((Value.ref T == Value.none) = true) from by simp)]
      have fin : wpAny (model X.prog X.w) X.A (setFlight (.ref a) X.env.frame) (fun _ s4 => wpAny (model X.prog X.w) X.A (throw (.ref a) : Sem Flow) (SP X pins D) X.xe s4) X.xe { s' with heap := h3 } := by
        rw [hf]
        refine HandSPX.setFlight_upZ fl3 fun h4 hh4 up4 => wpAny_throw (tk _ _ ?_)
        exact ⟨a, B, sI, pins, σ', H', cls, d, rfl, J, nb, (up.trans up3).trans up4, .inr (.inr (by rw [hs]; exact hh4)), na, os, ag, hno rfl⟩
      first
        | exact wpAny_bind (wpAny_pure (wpAny_bind fin))
        | exact wpAny_bind fin
  · cases f with
    | next => obtain ⟨σ', H', J', q⟩ := hsp; exact wpAny_execs_nil ⟨σ', H', J'.ofTry ok, q⟩
    | brk => obtain ⟨σ', H', J', q⟩ := hsp; exact ⟨σ', H', J'.ofTry ok, q⟩
    | cont => obtain ⟨σ', H', J', q⟩ := hsp; exact ⟨σ', H', J'.ofTry ok, q⟩
    | ret u => obtain ⟨v, σ', H', J', r, q⟩ := hsp; exact ⟨v, σ', H', J'.ofTry ok, r, q⟩
end
/-! ### the readings -/
/-- an error of the class named x, held at a -/
def ErA (K : PySem.W.Frag) (x : Str) (d : Option Addr) (a : Addr) : HO := ExT (.ref (cl K x)) d a
/-- try: t, except C as n (slot i): y = n (slot j); the classes that the law knows, and whether they stand under C -/
def kTry (K : PySem.W.Frag) (tab : List (Str × Bool)) (i j : Nat) (t : KS) : KS := fun D σ G M => t { D with xc := fun c d σ' G' M' => ∃ p ∈ tab, c = .ref (cl K p.1) ∧
  (if p.2 = true then ∀ a, Fr G' M' a → D.nx (((σ'.set i (some (.ref a))).set j (some (.ref a))).set i none) (upd G' a (ErA K p.1 d a)) M' else D.xc c d σ' G' M') } σ G M
section
variable {X : Cx} {W : WX} {pos : Pos}
theorem js_try {K : PySem.W.Frag} {x n y : Str} {i j : Nat} {tab : List (Str × Bool)} {body : List Stmt} {t : KS} {np pos' q1 q2 q3 : Pos} (g : XG X.K X.mg x) (ht : ∀ p ∈ tab, PySem.W.exmOne X.K (.ref (cl X.K p.1)) (.ref (cl X.K x)) = some p.2) (hN : X.N.Nodup) (tk : Takes X W)
    (hb : ∀ (W : WX) (pn : List (Addr × Obj)) (xe : Value → Shared → Prop), Takes (X.tr pn xe) W → PassesOwn (model X.prog X.w) X.A X.env xe → JSs (X.tr pn xe) W body t)
    (hK : X.K = K := by rfl) (hs : X.stack = X.env :: X.outer := by rfl) (hf : X.env.frame = some X.env.locals := by rfl) (hx : X.ex = [] := by rfl) (hi : X.N[i]? = some n := by rfl) (hj : X.N[j]? = some y := by rfl)
    (hln : X.env.kindOf n = some .local := by rfl) (hlj : Loc X.env.scope y := by first | exact Or.inl rfl | exact Or.inr rfl) (hij : i ≠ j := by decide)
    (hfy : X.fn y = true ∨ X.env.scope.names.lookup y = some .local := by first | exact .inl rfl | exact .inr rfl) (hdn : (n == ("__debug__" : Str)) = false := by decide) (hcn : (n == ("__classdict__" : Str)) = false := by decide)
    (hsw : swapsWith (.Name n q2) (some (.Name y q1)) q3.line X.env = pure false := by rfl) (hg : Gl X x := by rfl) (hxd : (x == ("__debug__" : Str)) = false := by decide) :
    JS X W (.Try body [.ExceptHandler (some (.Name x np)) (some n) [.Assign [.Name y q1] (.Name n q2) q3] pos'] [] [] pos) (kTry K tab i j t) := by
  subst hK
  refine ps_mono (ps_try_keep (c := .ref (cl X.K x)) (tb := fun W => upS W t) hs hf hx hN hi hj hln hlj hij hfy hdn hcn hsw ⟨hg, hxd, .inl g.g⟩ tk hb) fun D σ H ⟨G, M, d, hv, h, en⟩ => ?_
  refine ⟨G, M, _, hv, h, ⟨en.nx, en.rt, en.bk, en.ct, fun c e σ' G' M' H' hv' q => ?_⟩⟩
  obtain ⟨p, hp, rfl, q⟩ := q
  refine ⟨p.2, ht p hp, fun hb a na => ?_, fun hb => ?_⟩
  · rw [if_pos hb] at q
    exact en.nx _ _ _ _ (hv'.newG na) (q a (hv'.fr na))
  · rw [if_neg (by rw [hb]; exact Bool.false_ne_true)] at q
    exact en.xc _ _ _ _ _ _ hv' q
/-- isinstance(v, C), where v is an error that is held, or None -/
def kIsX (K : PySem.W.Frag) (c : V) (tab : List (Str × Bool)) : KC := fun vs G M R => match vs with
  | [.non, c'] => c' = c ∧ R (.bl false) G M
  | [.ref a, c'] => c' = c ∧ ∃ p ∈ tab, At G M a (ErA K p.1 none a) ∧ R (.bl p.2) G M
  | _ => False
theorem kc_isX {tab : List (Str × Bool)} {c : V} {cv : Value} (hcv : ClsV c cv) (hn : PySem.W.kitOne X.K (.type "NoneType") cv = some false)
    (ht : ∀ p ∈ tab, ExcC X.K (cl X.K p.1) ∧ PySem.W.kitOne X.K (.ref (cl X.K p.1)) cv = some p.2) : KCall X (.builtin "isinstance") (kIsX X.K c tab) := by
  intro pins s σ H xs us Q I r h
  obtain ⟨G, M, R, hv, h, hR⟩ := h
  match xs, h with
  | [.non, c'], h2 =>
    obtain ⟨rfl, h3⟩ := h2
    exact (call_isi (X := X)) pins s σ H [.non, c'] _ Q I r ⟨_, _, .type "NoneType", _, false, rfl, hcv, .base .non, hn, hR _ _ _ _ hv h3⟩
  | [.ref a, c'], h2 =>
    obtain ⟨rfl, p, hp, ha, h3⟩ := h2
    cases r with
    | cons rx rr =>
      cases rr with
      | cons rt rr =>
        cases rr
        have ec := hcv.eq rt
        subst ec
        cases rx
        obtain ⟨C, e⟩ := ht p hp
        have hH : H a = some (ErA X.K p.1 none a) := hv.at ha
        obtain ⟨⟨oe, vs, hget, hz, hd⟩, _, _⟩ := I.hok a _ hH
        have J : PySem.W.InstAt s.heap a oe (cl X.K p.1) none := by
          obtain ⟨oc, od, oda, osl⟩ := oe
          obtain ⟨h1, h2⟩ := hz
          dsimp only at h1 h2 hd
          subst h1 h2 hd
          exact ⟨hget, rfl, rfl, trivial⟩
        exact PySem.W.kia_one (PySem.W.handS_kitx_exc C.hg C.hk C.hs C.hd C.ha C.hn C.ht C.hm) I.kIn J e (fun z => nomatch z) fun tk => ⟨.bl p.2, H, I.kept (t' := tk) fun _ _ z => z, rfl, hR _ _ _ _ hv h3⟩
/-- the name of an own class -/
theorem je_cls {K : PySem.W.Frag} {x : Str} {pos : Pos} (g : XG X.K X.mg x) (hK : X.K = K := by rfl) (hg : Gl X x := by rfl) (hd : (x == ("__debug__" : Str)) = false := by decide) : JE X W (.Name x pos) (kC (.ref (cl K x))) := by
  subst hK
  exact je_glob g.g rfl hg hd
end
theorem kop_shlW {X : Cx} : KOp X (binaryOp .LShift) (kI CShl fun i j => .int (i * 2 ^ j.toNat)) := kop_I op_shlW
theorem excX {R : KR} {Z : KX} {c : Value} {d : Option Addr} {σ : St} {G : Hp} {M : Mem} (h : Z c d G M) : (ends R Z).xc c d σ G M := ⟨G, M, Wk.refl, h⟩
theorem kit_ref {K : PySem.W.Frag} {t : Value} {C : Addr} {b : Bool} (hc : PySem.W.hasDictIn K C = true) (ht : PySem.W.typeIn K (.ref C) = some (.type "type")) (hs : PySem.W.subIn K (.ref C) (.ref C) = some true) (h : PySem.W.subIn K t (.ref C) = some b) :
    PySem.W.kitOne K t (.ref C) = some b := by
  unfold PySem.W.kitOne
  by_cases e : (t == .ref C) = true
  · rw [if_pos e]
    have e2 : t = .ref C := beq_iff_eq.mp e
    rw [e2, hs] at h
    exact h
  · rw [if_neg e]
    obtain ⟨cd, hcd, _⟩ := PySem.W.any_some hc
    have e1 : ((PySem.W.clsIn K C).isSome && PySem.W.typeIn K (.ref C) == some (.type "type")) = true := by rw [hcd, ht] <;> rfl
    show (if ((PySem.W.clsIn K C).isSome && PySem.W.typeIn K (.ref C) == some (.type "type")) = true then PySem.W.subIn K t (.ref C) else none) = some b
    rw [if_pos e1]
    exact h
theorem kit_tyV {K : PySem.W.Frag} {t : Value} {T : String} {b : Bool} (hm : PySem.W.kitMeta T = true) (hne : (t == .type T) = false) (h : PySem.W.subIn K t (.type T) = some b) : PySem.W.kitOne K t (.type T) = some b := by
  unfold PySem.W.kitOne
  rw [if_neg (by rw [hne]; exact Bool.false_ne_true)]
  show (if PySem.W.kitMeta T = true then PySem.W.subIn K t (.type T) else none) = some b
  rw [if_pos hm]
  exact h
end BT
set_option Elab.async false
set_option linter.all false
set_option maxRecDepth 100000
set_option maxHeartbeats 4000000
namespace BT
open PySem PySem.Spec L2
open PyProof.Rows hiding St
section
variable {X : Cx} {W : WX} {pos p : Pos} {a b : Expr}
/-! ### list(range(..)) -/
def rgL (i j : Int) (G : Hp) (M : Mem) (R : KR) : Prop := RgOk i j ∧ ∀ q, Fr G M q → R (.ref q) G ((q, .lst (rgV i j)) :: M)
def kListR1 (t : KE) : KE := fun σ G M R E => t σ G M (fun x G M => match x with
  | .int n => rgL 0 n G M R
  | _ => False) E
def kListR2 (t u : KE) : KE := fun σ G M R E => t σ G M (fun x G M => u σ G M (fun y G M => match x, y with
  | .int i, .int j => rgL i j G M R
  | _, _ => False) E) E
theorem je_listR1 {t : KE} {p2 pos2 : Pos} (hl : X.mg "list" = none) (hr : X.mg "range" = none) (ha : JE X W a t) (hc : X.calm = true := by rfl) (h1 : Gl X "list" := by rfl) (h2 : Gl X "range" := by rfl)
    (na : starEach [a] X.env = (false, eval a X.env) :: starEach [] X.env := by rfl) (nb : starEach [.Call (.Name "range" p2) [a] [] pos2] X.env = (false, eval (.Call (.Name "range" p2) [a] [] pos2) X.env) :: starEach [] X.env := by rfl) :
    JE X W (.Call (.Name "list" p) [.Call (.Name "range" p2) [a] [] pos2] [] pos) (kListR1 t) :=
  pe_mono (pe_listRg hc h1 hl (prg_1 h2 hr ha na) nb) fun σ H Q ⟨G, M, R, E, hv, h, hR, hE⟩ => ⟨G, M, _, E, hv, h, fun x G1 M1 H1 hv1 q => by
    match x, q with
    | .int n, ⟨q1, q2⟩ => exact ⟨n, rfl, q1, fun w hw => hR _ G1 _ _ (hv1.newM hw) (q2 w (hv1.fr hw))⟩, hE⟩
theorem je_listR2 {t u : KE} {p2 pos2 : Pos} (hl : X.mg "list" = none) (hr : X.mg "range" = none) (ha : JE X W a t) (hb : JE X W b u) (hc : X.calm = true := by rfl) (h1 : Gl X "list" := by rfl) (h2 : Gl X "range" := by rfl)
    (na : starEach [a, b] X.env = (false, eval a X.env) :: starEach [b] X.env := by rfl) (nb : starEach [b] X.env = (false, eval b X.env) :: starEach [] X.env := by rfl) (hp : (backTo pos2 (starEach [b] X.env)).any (·.1) = false := by rfl)
    (nc : starEach [.Call (.Name "range" p2) [a, b] [] pos2] X.env = (false, eval (.Call (.Name "range" p2) [a, b] [] pos2) X.env) :: starEach [] X.env := by rfl) :
    JE X W (.Call (.Name "list" p) [.Call (.Name "range" p2) [a, b] [] pos2] [] pos) (kListR2 t u) :=
  pe_mono (pe_listRg hc h1 hl (prg_2 h2 hr ha hb na nb hp) nc) fun σ H Q ⟨G, M, R, E, hv, h, hR, hE⟩ => ⟨G, M, _, E, hv, h, fun x G1 M1 H1 hv1 q => ⟨G1, M1, _, E, hv1, q, fun y G2 M2 H2 hv2 q => by
    match x, y, q with
    | .int i, .int j, ⟨q1, q2⟩ => exact ⟨i, j, rfl, rfl, q1, fun w hw => hR _ G2 _ _ (hv2.newM hw) (q2 w (hv2.fr hw))⟩, hE⟩, hE⟩
/-! ### an empty dict -/
def kDNew : KE := fun _ G M R _ => ∀ q, Fr G M q → R (.ref q) G ((q, .dK []) :: M)
theorem je_dnew : JE X W (.Dict [] [] pos) kDNew := pe_mono pe_dnewK fun σ H Q ⟨G, M, R, E, hv, h, hR, hE⟩ => fun w hw => hR _ G _ _ (hv.newM hw) (h w (hv.fr hw))
/-! ### constants of the module -/
theorem je_const {x : Str} {v : V} (h : ∃ u, X.mg x = some u ∧ RelV v u) (hg : Gl X x := by rfl) (hd : (x == ("__debug__" : Str)) = false := by decide) : JE X W (.Name x pos) (kC v) := by
  obtain ⟨u, hm, r⟩ := h
  exact je_glob hm r hg hd
/-- a tuple of texts that the module holds -/
def kConT (K : PySem.W.Frag) (x : Str) (xs : List V) : KE := fun _ G M R _ => (∀ H, SqT K H (cl K x) xs) → R (.ref (cl K x)) G M
structure XT (K : PySem.W.Frag) (mg : Str → Option Value) (x : Str) (xs : List V) : Prop where
  g : mg x = some (.ref (cl K x))
  s : ∀ H, SqT K H (cl K x) xs
theorem je_conT {K : PySem.W.Frag} {x : Str} {xs : List V} (h : XT X.K X.mg x xs) (hK : X.K = K := by rfl) (hg : Gl X x := by rfl) (hd : (x == ("__debug__" : Str)) = false := by decide) : JE X W (.Name x pos) (kConT K x xs) := by
  subst hK
  exact pe_mono (je_glob (W := W) (v := .ref (cl X.K x)) h.g rfl hg hd) fun σ H Q ⟨G, M, R, E, hv, q, hR, hE⟩ => ⟨G, M, R, E, hv, q h.s, hR, hE⟩
end
theorem vals_abs : ∀ {us : List Value} {xs : List V}, us.map absV = xs.map some → (∀ x, x ∈ xs → (∃ i, x = .int i) ∨ ∃ s, x = .str s) → Vals xs us
  | [], [], _, _ => .nil
  | [], _ :: _, h, _ => by cases h
  | _ :: _, [], h, _ => by cases h
  | u :: us, x :: xs, h, hx => by
    rw [List.map_cons, List.map_cons] at h
    injection h with h1 h2
    refine .cons ?_ (vals_abs h2 fun y hy => hx y (List.mem_cons_of_mem _ hy))
    rcases hx x List.mem_cons_self with ⟨i, rfl⟩ | ⟨s, rfl⟩
    · cases u <;> simp only [absV] at h1 <;> first | (cases h1; done) | (injection h1 with h1; first | (cases h1; exact ⟨_, rfl⟩) | cases h1)
    · cases u <;> simp only [absV] at h1 <;> first | (cases h1; done) | (injection h1 with h1; first | (cases h1; exact ⟨_, rfl⟩) | cases h1)
theorem xt_mk {K : PySem.W.Frag} {mg : Str → Option Value} {h : Heap} {x : Str} {C : Addr} {xs : List V} {od : Option Addr} {its : Array Value} {n : Nat} {sl : Array (Option Value)} (X : K.In h) (G : h.Ns mainGlobals mg) (a : PySem.W.nsIn K mainGlobals x = some (some (.ref C)))
    (l : K.lookup C = some ⟨.type "tuple", od, .seq its n, sl⟩) (e : its.toList.map absV = xs.map some) (hx : ∀ x, x ∈ xs → (∃ i, x = .int i) ∨ ∃ s, x = .str s) (hs : its.size ≤ 1000) : XT K mg x xs := by
  have ec := cl_of a
  refine ⟨by rw [ec]; exact PySem.W.mg_of X G a, fun H => ?_⟩
  rw [ec]
  exact .inr ⟨_, its, n, l, rfl, rfl, Nat.le_trans hs (by decide), vals_abs e hx⟩
/-! ### sum of a tuple -/
section
variable {prog : Program} {w : World} {A : Around} {E : Value → Shared → Prop} {s : Shared} {l : Addr} {its : List Value} {ns : List Int} {Q : Value → Shared → Prop}
theorem sum_tupT (hh : A.handled = none) (hl : s.heap.IsTuple l its.toArray) (hi : IntsAre its ns)
    (h : ∀ h' tk t', (∀ b o, s.heap.get? b = some o → h'.get? b = some o) → Q (.int ns.sum t') { s with heap := h', toks := tk }) : wpAny (model prog w) A (call (.builtin "sum") [.ref l]) Q E s := by
  obtain ⟨xs, e⟩ := hi.allInts.items
  have hn : numsOf (intItems xs).toList = ns := by rw [← e]; exact hi.numsOf
  rw [nums_intItems] at hn
  rw [e] at hl
  have hlt : l < s.heap.objs.size := by obtain ⟨_, e, _⟩ := hl; exact Heap.lt_size e
  refine call_sum_walkG (wpAny_pyIter_tuple hl ?_)
  refine ⟨_, _, _, _, _, _, numAt xs, rfl, Walks.tuple (A := A.in1) hh _ l (Nat.ne_of_lt hlt) (intItems xs), ⟨⟨_, Heap.get?_push_size _ rfl, rfl, rfl⟩, hl.push _⟩, fun b hb => ?_, (fun _ _ => intItems_at), fun h' tk t' hk => ?_⟩
  · show b < (s.heap.push _).objs.size
    rw [Heap.size_push]
    simp only [List.mem_cons, List.not_mem_nil, or_false] at hb
    rcases hb with z | z
    · rw [z]; exact Nat.lt_succ_self _
    · rw [z]; exact Nat.lt_succ_of_lt hlt
  · have := h h' tk t' fun b o eb => hk b o (fun hm => absurd (Heap.lt_size eb) ((List.mem_singleton.mp hm) ▸ Nat.lt_irrefl _)) (Heap.get?_push_of_some _ eb)
    have e2 : preSum (numAt xs) (intItems xs).size = ns.sum := by
      rw [preSum_eq, List.take_of_length_le (by simp [intItems]), hn]
    rw [e2]; exact this
end
section
variable {X : Cx}
def kSumS (K : PySem.W.Frag) : KC := fun vs G M R => match vs with
  | [.ref a] => ∃ ns : List Int, SeqAt' K G M a (ns.map V.int) ∧ R (.int ns.sum) G M
  | _ => False
theorem kc_sumS (hc : X.calm = true := by rfl) : KCall X (.builtin "sum") (kSumS X.K) := by
  intro pins s σ H vs us Q I r h
  obtain ⟨G, M, R, hv, h, hR⟩ := h
  match vs, h with
  | [.ref a], ⟨ns, h1, h2⟩ =>
    rcases h1 with h1 | h1
    · exact cr_sum hc pins s σ H [.ref a] us Q I r ⟨a, ns, rfl, hv.lst h1, hR _ _ _ _ hv h2⟩
    · obtain ⟨its, rv, ht, _⟩ := I.tuple (ex_t hv.exx h1)
      rw [Vals.ref1 r]
      exact sum_tupT (I.ok.hd hc) ht rv.ints fun h' tk t' hk => ⟨.int _, H, I.kept hk, ⟨_, rfl⟩, hR _ _ _ _ hv h2⟩
end
end BT
set_option Elab.async false
set_option linter.all false
set_option maxRecDepth 100000
set_option maxHeartbeats 4000000
namespace BT
open PySem PySem.Spec L2
open PyProof.Rows hiding St
/-! ### len(set(xs)) of ints -/
theorem dedup_len : ∀ (l acc : List Int), (l.foldl step_dedup acc).length ≤ acc.length + l.length
  | [], acc => Nat.le_refl _
  | x :: l, acc => by
    have h := dedup_len l (step_dedup acc x)
    rw [step_length] at h
    rw [List.foldl_cons, List.length_cons]
    split at h <;> omega
theorem dedup_eq : ∀ (l acc : List Int), (l.foldl step_dedup acc).length = acc.length + l.length ↔ (l.Nodup ∧ ∀ x, x ∈ l → x ∉ acc)
  | [], acc => by simp
  | x :: l, acc => by
    rw [List.foldl_cons, List.length_cons]
    by_cases hx : acc.any (· == x) = true
    · have hm : x ∈ acc := by simpa using hx
      have h := dedup_len l (step_dedup acc x)
      rw [step_length, if_pos hx] at h
      constructor
      · intro e; omega
      · intro e; exact absurd hm (e.2 x List.mem_cons_self)
    · have hm : x ∉ acc := by simpa using hx
      have e1 : step_dedup acc x = acc ++ [x] := by unfold step_dedup; rw [if_neg hx]
      have ih := dedup_eq l (acc ++ [x])
      rw [List.length_append, List.length_singleton] at ih
      rw [e1, show acc.length + (l.length + 1) = acc.length + 1 + l.length by omega, ih, List.nodup_cons]
      constructor
      · rintro ⟨a, b⟩
        refine ⟨⟨fun z => b x z (by simp), a⟩, fun y hy => ?_⟩
        rcases List.mem_cons.mp hy with rfl | hy
        · exact hm
        · exact fun z => b y hy (List.mem_append.mpr (.inl z))
      · rintro ⟨⟨a, b⟩, c⟩
        refine ⟨b, fun y hy z => ?_⟩
        rcases List.mem_append.mp z with z | z
        · exact c y (List.mem_cons_of_mem _ hy) z
        · have : y = x := by simpa using z
          subst this; exact a hy
theorem range_getD (ns : List Int) : (List.range ns.length).map (fun i => ns.getD i 0) = ns := by
  apply List.ext_getElem (by simp)
  intro i h1 h2
  simp [List.getD_eq_getElem?_getD, List.getElem?_eq_getElem h2]
section
variable {X : Cx} {W : WX}
def kLenSet (K : PySem.W.Frag) (t : KE) : KE := fun σ G M R E => t σ G M (fun x G M => match x with
  | .ref a => ∃ ns : List Int, LstAt K G M a (ns.map V.int) ∧ ns.length ≤ 4000 ∧ ∀ m : Nat, m ≤ ns.length → (m = ns.length ↔ ns.Nodup) → R (.int m) G M
  | _ => False) E
theorem je_lenSet {a : Expr} {ta : KE} {p p2 q pos : Pos} (hm : X.mg "len" = none) (hm2 : X.mg "set" = none) (ha : JE X W a ta) (hc : X.calm = true := by rfl) (hg : Gl X "len" := by rfl) (hg2 : Gl X "set" := by rfl)
    (na : starEach [a] X.env = (false, eval a X.env) :: starEach [] X.env := by rfl) : JE X W (.Call (.Name "len" p) [.Call (.Name "set" p2) [a] [] q] [] pos) (kLenSet X.K ta) := by
  refine ⟨fun pins s σ H Q I ⟨G, M, R, E, hv, h, hR, hE⟩ => ?_⟩
  refine Call_ (ld_blt I hg hm PySem.boot_len ?_)
  refine PyProof.Rows.callWith_builtin1 (PyProof.Rows.args_cons ?_ rfl) rfl rfl
  refine Call_ (ld_blt I hg2 hm2 PyProof.Rows.boot_set ?_)
  refine PyProof.Rows.callWith_type1 (PyProof.Rows.args_cons (thn (ha.run pins s σ H (fun x H1 => ∃ (l : Addr) (ns : List Int), x = V.ref l ∧ SqL X.K H1 l (ns.map V.int) ∧ ns.length ≤ 4000 ∧ ∀ m : Nat, m ≤ ns.length → (m = ns.length ↔ ns.Nodup) → Q (.int m) H1) I ?_) fun v s1 ⟨x, H1, I1, r1, q1⟩ => PyProof.Rows.args_nil ?_) na) na rfl
  · refine ⟨G, M, _, E, hv, h, fun x G1 M1 H1 hv1 q => ?_, hE⟩
    match x, q with
    | .ref a, ⟨ns, q1, q2, q3⟩ => exact ⟨a, ns, rfl, hv1.lst q1, q2, fun m e1 e2 => hR _ G1 M1 H1 hv1 (q3 m e1 e2)⟩
  obtain ⟨l, ns, rfl, hq, h1, q1⟩ := q1
  cases r1
  obtain ⟨its, r, pl, hz⟩ := I1.list hq
  have hl : its.toArray.size = ns.length := by rw [List.size_toArray, ← r.length, List.length_map]
  refine call_set_list (I1.ok.hd hc) pl.isList (ns := ns) (by simpa using r.ints) (by unfold scanBound; omega) fun h' tk hS hk => ?_
  rw [hl] at hS
  have em : firstMet (fun i => ns.getD i 0) ns.length = ns.foldl step_dedup [] := by
    unfold firstMet; rw [range_getD]
  rw [em] at hS
  have hle := dedup_len ns []
  have heq := dedup_eq ns []
  rw [List.length_nil, Nat.zero_add] at hle heq
  refine PyProof.Rows.args_nil ?_
  obtain ⟨o, es, ep, t, ho, hex, hd, _, _, _, hf, hn⟩ := hS
  have I2 : Inv X pins σ H1 { s1 with heap := h', toks := tk } := I1.kept fun b o e => hk b o (Heap.lt_size e) e
  refine call_len_set ho hex hd hf (by rw [hn] <;> omega) ⟨.int _, H1, I2.tok _, ⟨_, by rw [hn]⟩, q1 _ hle (heq.trans ⟨fun z => z.1, fun z => ⟨z, fun x _ => by simp⟩⟩)⟩
/-! ### reversed(range(..)) -/
def revR (i j : Int) (R : Src → Hp → Mem → Prop) (G : Hp) (M : Mem) : Prop := (-(2 ^ 62) ≤ i ∧ i < 2 ^ 62 ∧ -(2 ^ 62) ≤ j ∧ j < 2 ^ 62) ∧ R (srcC (i + (((j - i).toNat : Nat) : Int) - 1) (-1) (j - i).toNat) G M
def kiRv1 (t : KE) : KI := fun σ G M R E => t σ G M (fun x G M => match x with
  | .int n => revR 0 n R G M
  | _ => False) E
def kiRv2 (t u : KE) : KI := fun σ G M R E => t σ G M (fun x G M => u σ G M (fun y G M => match x, y with
  | .int i, .int j => revR i j R G M
  | _, _ => False) E) E
theorem ji_rv1 {a tg : Expr} {t : KE} {p p2 pos pos2 : Pos} (hv : X.mg "reversed" = none) (hr : X.mg "range" = none) (ha : JE X W a t) (h1 : Gl X "reversed" := by rfl) (h2 : Gl X "range" := by rfl)
    (na : starEach [a] X.env = (false, eval a X.env) :: starEach [] X.env := by rfl) (nb : starEach [.Call (.Name "range" p2) [a] [] pos2] X.env = (false, eval (.Call (.Name "range" p2) [a] [] pos2) X.env) :: starEach [] X.env := by rfl) :
    JI X W tg (.Call (.Name "reversed" p) [.Call (.Name "range" p2) [a] [] pos2] [] pos) (kiRv1 t) :=
  pi_mono (pi_revR h1 hv (prg_1 h2 hr ha na) nb) fun σ H Q ⟨G, M, R, E, hv, h, hR, hE⟩ => ⟨G, M, _, E, hv, h, fun x G1 M1 H1 hv1 q => by
    match x, q with
    | .int n, ⟨⟨q1, q2, q3, q4⟩, q5⟩ => exact ⟨n, rfl, q1, q2, q3, q4, hR _ G1 M1 H1 hv1 q5 _ goes_C⟩, hE⟩
theorem ji_rv2 {a b tg : Expr} {t u : KE} {p p2 pos pos2 : Pos} (hv : X.mg "reversed" = none) (hr : X.mg "range" = none) (ha : JE X W a t) (hb : JE X W b u) (h1 : Gl X "reversed" := by rfl) (h2 : Gl X "range" := by rfl)
    (na : starEach [a, b] X.env = (false, eval a X.env) :: starEach [b] X.env := by rfl) (nb : starEach [b] X.env = (false, eval b X.env) :: starEach [] X.env := by rfl) (hp : (backTo pos2 (starEach [b] X.env)).any (·.1) = false := by rfl)
    (nc : starEach [.Call (.Name "range" p2) [a, b] [] pos2] X.env = (false, eval (.Call (.Name "range" p2) [a, b] [] pos2) X.env) :: starEach [] X.env := by rfl) :
    JI X W tg (.Call (.Name "reversed" p) [.Call (.Name "range" p2) [a, b] [] pos2] [] pos) (kiRv2 t u) :=
  pi_mono (pi_revR h1 hv (prg_2 h2 hr ha hb na nb hp) nc) fun σ H Q ⟨G, M, R, E, hv, h, hR, hE⟩ => ⟨G, M, _, E, hv, h, fun x G1 M1 H1 hv1 q => ⟨G1, M1, _, E, hv1, q, fun y G2 M2 H2 hv2 q => by
    match x, y, q with
    | .int i, .int j, ⟨⟨q1, q2, q3, q4⟩, q5⟩ => exact ⟨i, j, rfl, rfl, q1, q2, q3, q4, hR _ G2 M2 H2 hv2 q5 _ goes_C⟩, hE⟩, hE⟩
/-! ### index, insert, pop, clear, tuple(), bool() -/
theorem km_index : KMt X "list.index" (kIndex X.K) := kmt_of mt_index fun x vs G M R H Q hv h hR => by
  match x, vs, h with
  | .ref a, [y], ⟨ys, j, z, h1, h2, h3, h4, h5, h6, h7⟩ => exact ⟨a, ys, y, j, z, rfl, rfl, hv.lst h1, h2, h3, h4, h5, h6, hR _ G M H hv h7⟩
def kInsert : KM := fun x vs G M R => match x, vs with
  | .ref a, [.int i, y] => ∃ n xs, M[n]? = some (a, .lst xs) ∧ xs.length < sizeLine ∧ 0 ≤ i ∧ i < 2 ^ 63 ∧ R .non G (M.set n (a, .lst (xs.take i.toNat ++ [y] ++ xs.drop i.toNat)))
  | _, _ => False
theorem km_insert : KMt X "list.insert" kInsert := kmt_of mt_insert fun x vs G M R H Q hv h hR => by
  match x, vs, h with
  | .ref a, [.int i, y], ⟨n, xs, h1, h2, h3, h4, h5⟩ => exact ⟨a, xs, i, y, rfl, rfl, hv.get h1, h2, h3, h4, hR _ G _ _ (hv.set h1) h5⟩
def kTuple (K : PySem.W.Frag) : KC := fun vs G M R => match vs with
  | [.ref a] => (∃ xs, LstAt K G M a xs ∧ ∀ p, Fr G M p → R (.ref p) (upd G p (.tup xs)) M) ∨ ∃ xs, SqT K G a xs ∧ R (.ref a) G M
  | _ => False
theorem kc_tuple : KCall X (.type "tuple") (kTuple X.K) := kcall_of call_tuple_of fun vs G M R H Q hv h hR => by
  match vs, h with
  | [.ref a], .inl ⟨xs, h1, h2⟩ => exact ⟨a, xs, rfl, .inl ⟨hv.lst h1, fun p hp => hR _ _ M _ (hv.newG hp) (h2 p (hv.fr hp))⟩⟩
  | [.ref a], .inr ⟨xs, h1, h2⟩ => exact ⟨a, xs, rfl, .inr ⟨hv.tup h1, hR _ G M H hv h2⟩⟩
def kBool : KC := fun vs G M R => match vs with
  | [.int i] => R (.bl (i != 0)) G M
  | [.bl k] => R (.bl k) G M
  | _ => False
theorem kc_bool : KCall X (.type "bool") kBool := kcall_of call_bool1 fun vs G M R H Q hv h hR => by
  match vs, h with
  | [.int i], h => exact .inl ⟨i, rfl, hR _ G M H hv h⟩
  | [.bl i], h => exact .inr ⟨i, rfl, hR _ G M H hv h⟩
def kPopAt : KM := fun x vs G M R => match x, vs with
  | .ref a, [.int i] => ∃ n xs k y, M[n]? = some (a, .lst xs) ∧ -(2 ^ 63) ≤ i ∧ i < 2 ^ 63 ∧ seqIndex? i xs.length = some k ∧ xs[k]? = some y ∧ R y G (M.set n (a, .lst (xs.eraseIdx k)))
  | _, _ => False
def kPop : KM := fun x vs G M R => match x, vs with
  | .ref a, [] => ∃ n xs y, M[n]? = some (a, .lst xs) ∧ xs[xs.length - 1]? = some y ∧ R y G (M.set n (a, .lst xs.dropLast))
  | _, _ => False
def kClear : KM := fun x vs G M R => match x, vs with
  | .ref a, [] => ∃ n xs, M[n]? = some (a, .lst xs) ∧ R .non G (M.set n (a, .lst []))
  | _, _ => False
theorem km_popAt : KMt X "list.pop" kPopAt := kmt_of mt_popAt fun x vs G M R H Q hv h hR => by
  match x, vs, h with
  | .ref a, [.int i], ⟨n, xs, k, y, h1, h2, h3, h4, h5, h6⟩ => exact ⟨a, xs, i, k, y, rfl, rfl, hv.get h1, h2, h3, h4, h5, hR _ G _ _ (hv.set h1) h6⟩
theorem km_pop : KMt X "list.pop" kPop := kmt_of mt_pop fun x vs G M R H Q hv h hR => by
  match x, vs, h with
  | .ref a, [], ⟨n, xs, y, h1, h2, h3⟩ => exact ⟨a, xs, y, rfl, rfl, hv.get h1, h2, hR _ G _ _ (hv.set h1) h3⟩
theorem km_clear : KMt X "list.clear" kClear := kmt_of mt_clear fun x vs G M R H Q hv h hR => by
  match x, vs, h with
  | .ref a, [], ⟨n, xs, h1, h3⟩ => exact ⟨a, xs, rfl, rfl, hv.get h1, hR _ G _ _ (hv.set h1) h3⟩
/-! ### {k: v, ..} -/
def kPairs : List (KE × KE) → St → Hp → Mem → (List (V × V) → Hp → Mem → Prop) → KX → Prop
  | [], _, G, M, R, _ => R [] G M
  | (tk, tv) :: r, σ, G, M, R, E => tk σ G M (fun x G M => tv σ G M (fun y G M => kPairs r σ G M (fun ps G M => R ((x, y) :: ps) G M) E) E) E
def kDisp (trs : List (KE × KE)) : KE := fun σ G M R E => ∀ p, Fr G M p → kPairs trs σ G ((p, .dK []) :: M) (fun ps G M => ∃ (n : Nat) (kvs : List (Key × V)), M[n]? = some (p, .dK []) ∧ ps = kvs.map (fun kv => (kV kv.1, kv.2)) ∧ kvs.length ≤ 15 ∧ R (.ref p) G (M.set n (p, .dK (mergeK [] kvs)))) E
def JPs (X : Cx) (W : WX) (pos : Pos) (keys : List (Option Expr)) (values : List Expr) (trs : List (KE × KE)) : Prop := PPs X pos keys values (trs.map fun p => (upG W p.1, upG W p.2))
theorem jps_nil {pos : Pos} : JPs X W pos [] [] [] := pps_nil
theorem jps_cons {pos : Pos} {k v : Expr} {ks : List (Option Expr)} {vs : List Expr} {tk tv : KE} {trs : List (KE × KE)} (hk : JE X W k tk) (hv : JE X W v tv) (hr : JPs X W pos ks vs trs) : JPs X W pos (some k :: ks) (v :: vs) ((tk, tv) :: trs) := pps_cons hk hv hr
theorem pairs_sim {σ : St} {E : KX} (hE : ∀ c d G' M' H', Hv G' M' H' → E c d G' M' → W c d σ H') : ∀ (trs : List (KE × KE)) (G : Hp) (M : Mem) (R : List (V × V) → Hp → Mem → Prop) (H : Hp) (Q : List (V × V) → Hp → Prop), Hv G M H → kPairs trs σ G M R E →
    (∀ v G' M' H', Hv G' M' H' → R v G' M' → Q v H') → tPairs (trs.map fun p => (upG W p.1, upG W p.2)) σ H Q
  | [], G, M, R, H, Q, hv, h, hR => hR _ G M H hv h
  | (tk, tv) :: r, G, M, R, H, Q, hv, h, hR => ⟨G, M, _, E, hv, h, fun x G1 M1 H1 hv1 q1 => ⟨G1, M1, _, E, hv1, q1, fun y G2 M2 H2 hv2 q2 => pairs_sim hE r G2 M2 _ H2 _ hv2 q2 fun v G' M' H' hv' q => hR _ G' M' H' hv' q, hE⟩, hE⟩
theorem je_disp {pos : Pos} {keys : List (Option Expr)} {values : List Expr} {trs : List (KE × KE)} (h : JPs X W pos keys values trs) (hall : keys.all (·.isSome) = true := by rfl) (hl : keys.length = values.length := by rfl) (h0 : keys ≠ [] := by exact fun z => nomatch z) (h15 : keys.length ≤ 15 := by decide) :
    JE X W (.Dict keys values pos) (kDisp trs) := pe_mono (pe_disp h hall hl h0 h15) fun σ H Q ⟨G, M, R, E, hv, h, hR, hE⟩ => fun p hp =>
  pairs_sim hE trs G _ _ _ _ (hv.newM hp) (h p (hv.fr hp)) fun ps G' M' H' hv' ⟨n, kvs, q1, q2, q3, q4⟩ => ⟨hv'.get q1, kvs, q2, q3, hR _ G' _ _ (hv'.set q1) q4⟩
end
end BT
namespace BT
open PySem PySem.Spec L2
/-- what is walked, behind which something may be forgotten -/
def kiW (t : KI) : KI := fun σ G M R E => t σ G M (fun src G M => ∃ G' M', Wk G M G' M' ∧ R src G' M') E
theorem ji_w {X : Cx} {W : WX} {tg it : Expr} {t : KI} (h : JI X W tg it t) : JI X W tg it (kiW t) := pi_mono h fun σ H Q ⟨G, M, R, E, hv, h, hR, hE⟩ =>
  ⟨G, M, _, E, hv, h, fun src G1 M1 H1 hv1 ⟨G2, M2, w, q⟩ J go => hR src G2 M2 H1 (w H1 hv1) q J go, hE⟩
end BT
set_option Elab.async false
set_option linter.all false
set_option maxRecDepth 100000
set_option maxHeartbeats 4000000
namespace BT
open PySem PySem.Spec L2
open PyProof.Rows hiding St
/-! ### objects: the program's classes by number, their attributes by place -/
def clsN : Nat → Str × List Str
  | 0 => ("Plain", ["words"])
  | 1 => ("Keeper", ["log"])
  | 2 => ("Shelf", ["keeper", "number", "things"])
  | 3 => ("Scan", ["cells", "limit", "draws", "keeper", "made", "shelf"])
  | 4 => ("Spare", ["cells", "limit", "draws", "keeper", "made", "side", "order", "shelf", "hand"])
  | 5 => ("Stairs", ["cells", "limit", "draws", "keeper", "made", "climb", "hand", "shelves", "orders"])
  | 6 => ("Tree", ["cells", "limit", "draws", "keeper", "made", "body", "table"])
  | 7 => ("Grove", ["cells", "limit", "draws", "keeper", "made", "highs", "bodies", "start", "table"])
  | 8 => ("Body", ["shelf", "high", "firsts", "hand"])
  | 9 => ("Climb", ["cells", "last", "full", "drawn", "home", "held"])
  | 10 => ("Runner", ["program", "slates", "place"])
  | _ => ("Desk", ["stores"])
theorem cls_all {P : Str × List Str → Prop} (h : ∀ k, k < 12 → P (clsN k)) : ∀ k, P (clsN k) := fun k => by
  by_cases e : k < 12
  · exact h k e
  · have : clsN k = clsN 11 := by
      unfold clsN
      split <;> first | omega | rfl
    rw [this]; exact h 11 (by decide)
theorem cls_nodup : ∀ k, (clsN k).2.Nodup := cls_all (P := fun x => x.2.Nodup) (by decide +kernel)
theorem cls_few : ∀ k, (clsN k).2.length < 20 := cls_all (P := fun x => x.2.length < 20) (by decide +kernel)
def Ob (K : PySem.W.Frag) (k : Nat) (dx : Addr) (vs : List V) : HO := .ins (cl K (clsN k).1) dx ((clsN k).2.zip vs)
def putV : Nat → V → List V → List V
  | 0, y, [] => [y]
  | 0, y, _ :: r => y :: r
  | n + 1, y, x :: r => x :: putV n y r
  | _ + 1, _, [] => []
theorem zip_lookup : ∀ (ns : List Str) (vs : List V) (i : Nat) (f : Str), ns.Nodup → ns[i]? = some f → (ns.zip vs).lookup f = vs[i]?
  | [], _, _, _, _, h => by simp at h
  | n :: ns, [], i, f, _, _ => by simp
  | n :: ns, v :: vs, 0, f, _, h => by
    have e : n = f := by simpa using h
    subst e
    simp [List.zip_cons_cons, List.lookup]
  | n :: ns, v :: vs, i + 1, f, hn, h => by
    rw [List.nodup_cons] at hn
    have h2 : ns[i]? = some f := by simpa using h
    have ne : (f == n) = false := by
      rw [beq_eq_false_iff_ne]
      intro z
      exact hn.1 (z ▸ List.mem_of_getElem? h2)
    rw [List.zip_cons_cons, List.lookup, ne]
    simp only []
    rw [zip_lookup ns vs i f hn.2 h2]; simp
theorem zip_none : ∀ (ns : List Str) (vs : List V) (f : Str), f ∉ ns → (ns.zip vs).lookup f = none
  | [], _, _, _ => by simp
  | n :: ns, [], f, _ => by simp
  | n :: ns, v :: vs, f, h => by
    have ne : (f == n) = false := by
      rw [beq_eq_false_iff_ne]
      intro z
      exact h (z ▸ List.mem_cons_self)
    rw [List.zip_cons_cons, List.lookup, ne]
    exact zip_none ns vs f fun z => h (List.mem_cons_of_mem _ z)
theorem zip_put : ∀ (ns : List Str) (vs : List V) (i : Nat) (f : Str) (y : V), ns.Nodup → ns[i]? = some f → i ≤ vs.length → putF f y (ns.zip vs) = ns.zip (putV i y vs)
  | [], _, _, _, _, _, h, _ => by simp at h
  | n :: ns, [], 0, f, y, _, h, _ => by
    have e : n = f := by simpa using h
    subst e
    cases ns <;> rfl
  | n :: ns, [], i + 1, f, y, _, _, h => by simp at h
  | n :: ns, v :: vs, 0, f, y, _, h, _ => by
    have e : n = f := by simpa using h
    subst e
    show putF n y ((n, v) :: ns.zip vs) = _
    unfold putF
    rw [if_pos rfl]; rfl
  | n :: ns, v :: vs, i + 1, f, y, hn, h, hi => by
    rw [List.nodup_cons] at hn
    have h2 : ns[i]? = some f := by simpa using h
    have ne : ¬ n = f := fun z => hn.1 (z ▸ List.mem_of_getElem? h2)
    show putF f y ((n, v) :: ns.zip vs) = _
    unfold putF
    rw [if_neg ne, zip_put ns vs i f y hn.2 h2 (by simpa using hi)]; rfl
/-- what of the text a class must have -/
structure CK (K : PySem.W.Frag) (k : Nat) : Prop where
  cls : Cls K (cl K (clsN k).1)
  na : ∀ f ∈ (clsN k).2, NoAttr K (cl K (clsN k).1) f
theorem lookup_mem {α β : Type} [BEq α] [LawfulBEq α] : ∀ {l : List (α × β)} {a : α} {b : β}, l.lookup a = some b → (a, b) ∈ l
  | [], _, _, h => by simp at h
  | (x, y) :: l, a, b, h => by
    rw [List.lookup] at h
    split at h
    · rename_i e
      have e := eq_of_beq e
      cases h; subst e; exact List.mem_cons_self
    · exact List.mem_cons_of_mem _ (lookup_mem h)
section
variable {X : Cx} {W : WX} {pos : Pos}
/-- e.f; tab: the classes that have it, and its place -/
def kFld (K : PySem.W.Frag) (tab : List (Nat × Nat)) (t : KE) : KE := fun σ G M R E => t σ G M (fun x G M => match x with
  | .ref a => ∃ (k : Nat) (dx : Addr) (vs : List V) (i : Nat) (v : V), At G M a (Ob K k dx vs) ∧ tab.lookup k = some i ∧ vs[i]? = some v ∧ R v G M
  | _ => False) E
theorem je_fld {e : Expr} {f : Str} {tab : List (Nat × Nat)} {t : KE} (he : JE X W e t) (ht : ∀ p ∈ tab, CK X.K p.1 ∧ (clsN p.1).2[p.2]? = some f) (hb : attributeBase e f X.env (eval e X.env) = eval e X.env := by rfl) : JE X W (.Attribute e f pos) (kFld X.K tab t) :=
  pe_mono (pe_fld he hb) fun σ H Q ⟨G, M, R, E, hv, h, hR, hE⟩ => ⟨G, M, _, E, hv, h, fun x G1 M1 H1 hv1 q => by
    match x, q with
    | .ref a, ⟨k, dx, vs, i, v, q1, q2, q3, q4⟩ =>
      obtain ⟨ck, hf⟩ := ht (k, i) (lookup_mem q2)
      exact ⟨a, _, dx, _, v, rfl, hv1.at q1, ck.cls, ck.na f (List.mem_of_getElem? hf), by rw [zip_lookup _ _ i f (cls_nodup k) hf]; exact q3, hR _ G1 M1 H1 hv1 q4⟩, hE⟩
/-- o.f = e -/
def kFSet (K : PySem.W.Frag) (tab : List (Nat × Nat)) (to tv : KE) : KS := fun D σ G M => tv σ G M (fun y G M => to σ G M (fun x G M => match x with
  | .ref a => ∃ (n k : Nat) (dx : Addr) (vs : List V) (i : Nat), M[n]? = some (a, Ob K k dx vs) ∧ tab.lookup k = some i ∧ i ≤ vs.length ∧ D.nx σ G (M.set n (a, Ob K k dx (putV i y vs)))
  | _ => False) (D.x σ)) (D.x σ)
theorem js_fset {o value : Expr} {f : Str} {tab : List (Nat × Nat)} {to tv : KE} {pos' : Pos} (ho : JE X W o to) (hv : JE X W value tv) (ht : ∀ p ∈ tab, CK X.K p.1 ∧ (clsN p.1).2[p.2]? = some f)
    (hs : swapsWith value (some (.Attribute o f pos')) pos.line X.env = pure false := by rfl) : JS X W (.Assign [.Attribute o f pos'] value pos) (kFSet X.K tab to tv) :=
  ps_mono (ps_fld ho hv hs) fun D σ H ⟨G, M, d, hv, h, en⟩ => ⟨G, M, _, _, hv, h, fun y G1 M1 H1 hv1 q => ⟨G1, M1, _, _, hv1, q, fun x G2 M2 H2 hv2 q2 => by
    match x, q2 with
    | .ref a, ⟨n, k, dx, vs, i, q3, q4, q5, q6⟩ =>
      obtain ⟨ck, hf⟩ := ht (k, i) (lookup_mem q4)
      refine ⟨a, _, dx, _, rfl, hv2.get q3, ck.cls, ck.na f (List.mem_of_getElem? hf), ?_, ?_⟩
      · have := cls_few k
        rw [List.length_zip]; omega
      · rw [zip_put _ _ i f y (cls_nodup k) hf q5]
        exact en.nx _ G2 _ _ (hv2.set q3) q6, fun c a G' M' H' hv' q => en.xc c a σ G' M' H' hv' q⟩, fun c a G' M' H' hv' q => en.xc c a σ G' M' H' hv' q⟩
/-- a method that keeps its promise, of the class k -/
structure MDef (P : Program) (w : World) (K : PySem.W.Frag) (mg : Str → Option Value) (base : Heap) (lev : Nat) (k : Nat) (m : Str) (S : KSp) : Prop where
  ex : ∃ f fd ps, FnOk P w K mg base (L2.CX P w) lev f fd ps (lift S) ∧ Meth K (cl K (clsN k).1) m f ∧ Binds K fd ps []
  ck : CK K k
  no : m ∉ (clsN k).2
theorem MDef.mono {P : Program} {w : World} {K : PySem.W.Frag} {mg : Str → Option Value} {base : Heap} {lev lev' k : Nat} {m : Str} {S : KSp} (D : MDef P w K mg base lev k m S) (h : lev ≤ lev') : MDef P w K mg base lev' k m S := by
  obtain ⟨⟨f, fd, ps, F, a, b⟩, c, d⟩ := D
  exact ⟨⟨f, fd, ps, F.mono h, a, b⟩, c, d⟩
def kMeth (K : PySem.W.Frag) (tab : List (Nat × KSp)) (to : KE) (t : KA) : KE := fun σ G M R E => to σ G M (fun x G M => match x with
  | .ref a => ∃ (k : Nat) (dx : Addr) (vs : List V) (S : KSp), At G M a (Ob K k dx vs) ∧ tab.lookup k = some S ∧ t σ G M (fun ws G M => S (.ref a :: ws) G M R E) E
  | _ => False) E
theorem je_meth {pl : Sem Bool} {o e : Expr} {es : List Expr} {m : Str} {apos : Pos} {tab : List (Nat × KSp)} {k : Nat} {to : KE} {t : KA} (D : ∀ p ∈ tab, MDef X.prog X.w X.K X.mg X.base k p.1 m p.2) (hr : Room k X.A) (tk : Takes X W) (ho : JE X W o to) (ha : JA X W (e :: es) t)
    (hst : starEach (e :: es) X.env = (false, eval e X.env) :: starEach es X.env := by rfl) (hpl : (backTo pos (starEach es X.env)).any (·.1) = false := by rfl)
    (ht : eval (.Call (.Attribute o m apos) (e :: es) [] pos) X.env = (do
      let ov ← eval o X.env
      standAt apos.atName
      let (f, first) ← holding [ov] (getMethod ov m pl)
      callWith pos f first (backTo pos (starEach (e :: es) X.env)) (backToKw pos (keywordEach [] X.env))) := by rfl) :
    JE X W (.Call (.Attribute o m apos) (e :: es) [] pos) (kMeth X.K tab to t) := by
  refine ⟨fun pins s σ H Q I ⟨G, M, R, E, hv, h, hR, hE⟩ => ?_⟩
  refine PySem.W.methodCall_KW (pl := pl) (thn (ho.run pins s σ H (fun x H1 => ∃ (a k : Nat) (dx : Addr) (vs : List V) (S : KSp), x = .ref a ∧ H1 a = some (Ob X.K k dx vs) ∧ tab.lookup k = some S ∧ upG W t σ H1 fun ws H2 => lift S (.ref a :: ws) H2 Q (WE W σ)) I ?_) fun u s1 ⟨x, H1, I1, rx, a, k, dx, vs, S, ex, ea, l, q⟩ => ?_) ht
  · refine ⟨G, M, _, E, hv, h, fun x G1 M1 H1 hv1 q => ?_, hE⟩
    match x, q with
    | .ref a, ⟨k, dx, vs, S, q1, q2, q3⟩ => exact ⟨a, k, dx, vs, S, rfl, hv1.at q1, q2, G1, M1, _, E, hv1, q3, fun ws G2 M2 H2 hv2 q4 => ⟨G2, M2, R, E, hv2, q4, hR, hE⟩, hE⟩
  subst ex
  obtain rfl : u = Value.ref a := rx
  obtain ⟨⟨f, fd, ps, F, mt, hb⟩, ck, no⟩ := D (k, S) (lookup_mem l)
  refine getmeth_ok I1 ea ck.cls mt (zip_none _ _ _ no) ?_
  refine PySem.W.callWith_K (first := [.ref a]) (h₀ := X.base) I.ok.mod.kin mt.kp (thn (ha.run pos pins s1 σ H1 _ I1 q) fun us s2 ⟨vs, H2, I2, r, q2⟩ => ⟨I2.kIn, ?_⟩) hst hpl
  exact run_fnS (us := .ref a :: us) (vs := .ref a :: vs) F hr hb (passAt tk σ) I2 (.cons rfl r) q2
theorem je_meth0 {pl : Sem Bool} {o : Expr} {m : Str} {apos : Pos} {tab : List (Nat × KSp)} {k : Nat} {to : KE} (D : ∀ p ∈ tab, MDef X.prog X.w X.K X.mg X.base k p.1 m p.2) (hr : Room k X.A) (tk : Takes X W) (ho : JE X W o to)
    (ht : eval (.Call (.Attribute o m apos) [] [] pos) X.env = (do
      let ov ← eval o X.env
      standAt apos.atName
      let (f, first) ← holding [ov] (getMethod ov m pl)
      callWith pos f first (backTo pos (starEach [] X.env)) (backToKw pos (keywordEach [] X.env))) := by rfl) :
    JE X W (.Call (.Attribute o m apos) [] [] pos) (kMeth X.K tab to kNil) := by
  refine ⟨fun pins s σ H Q I ⟨G, M, R, E, hv, h, hR, hE⟩ => ?_⟩
  refine PySem.W.methodCall_KW (pl := pl) (thn (ho.run pins s σ H (fun x H1 => ∃ (a k : Nat) (dx : Addr) (vs : List V) (S : KSp), x = .ref a ∧ H1 a = some (Ob X.K k dx vs) ∧ tab.lookup k = some S ∧ lift S [.ref a] H1 Q (WE W σ)) I ?_) fun u s1 ⟨x, H1, I1, rx, a, k, dx, vs, S, ex, ea, l, q⟩ => ?_) ht
  · refine ⟨G, M, _, E, hv, h, fun x G1 M1 H1 hv1 q => ?_, hE⟩
    match x, q with
    | .ref a, ⟨k, dx, vs, S, q1, q2, q3⟩ => exact ⟨a, k, dx, vs, S, rfl, hv1.at q1, q2, G1, M1, R, E, hv1, q3, hR, hE⟩
  subst ex
  obtain rfl : u = Value.ref a := rx
  obtain ⟨⟨f, fd, ps, F, mt, hb⟩, ck, no⟩ := D (k, S) (lookup_mem l)
  refine getmeth_ok I1 ea ck.cls mt (zip_none _ _ _ no) ?_
  exact PySem.W.callWith_K0 (first := [.ref a]) I1.kIn mt.kp (run_fnS (us := [.ref a]) (vs := [.ref a]) F hr hb (passAt tk σ) I1 (.cons rfl .nil) q)
/-! C(..) -/
theorem run_makeS {CX : CXT} {k : Nat} {C f : Addr} {fd : FuncData} {ps : List Str} {sp : Sp} {E : XK} {pins : List (Addr × Obj)} {σ : St} {H : Hp} {s : Shared} {Q : VK} {us : List Value} {vs : List V} (M : Mk X.K C f) (F : FnOk X.prog X.w X.K X.mg X.base CX k f fd ps sp) (hr : Room (k + 1) X.A) (hb : Binds X.K fd ps [])
    (hx : PassesAt CX X σ E) (I : Inv X pins σ H s) (r : Vals vs us)
    (h : ∀ x dx, H x = none → H dx = none → dx ≠ x → sp (.ref x :: vs) (upd (upd H dx (.own x)) x (.ins C dx [])) (fun v H2 => v = .non ∧ Q (.ref x) H2) E) :
    wpAny (model X.prog X.w) X.A (call (.ref C) us) (EP X pins σ Q) X.xe s := by
  have hq := h (s.heap.objs.size + 1) s.heap.objs.size (I.hok.fresh (Nat.le_succ _)) (I.hok.fresh (Nat.le_refl _)) (Nat.ne_of_lt (Nat.lt_succ_self _))
  have I2 := Inv.made (C := C) I
  have r2 : Vals (V.ref (s.heap.objs.size + 1) :: vs) (Value.ref (s.heap.objs.size + 1) :: us) := .cons rfl r
  have hl : (Value.ref (s.heap.objs.size + 1) :: us ++ []).length = ps.length := by
    have e := r2.length
    rw [F.len _ _ _ _ hq] at e
    rw [List.append_nil]
    exact e.symm
  have hb2 := hb _ (Value.ref (s.heap.objs.size + 1) :: us) I2.kIn hl
  rw [List.append_nil] at hb2
  refine wpAny_call (make_map (f := f) I.kIn M.makes M.init (beq_iff_eq.mp M.fn) (codeAny_mono (F.run _ X.stack _ _ ⟨Value.ref (s.heap.objs.size + 1) :: us, []⟩ (Value.ref (s.heap.objs.size + 1) :: us) _ _ E (hr.make C us [])
    (I2.env0.make C us []) hb2 r2 hq) fun r s' hq' => ?_))
  cases r with
  | error e => exact hx pins _ _ e s' I2 hq'
  | ok fl =>
    cases fl with
    | ret u =>
      obtain ⟨v, H', I3, rv, ev, q3⟩ := I2.after hq'
      subst ev
      exact ⟨rv, ⟨V.ref (s.heap.objs.size + 1), H', I3, rfl, q3⟩⟩
    | next => exact False.elim hq'
    | brk => exact False.elim hq'
    | cont => exact False.elim hq'
structure CDef (P : Program) (w : World) (K : PySem.W.Frag) (mg : Str → Option Value) (base : Heap) (lev : Nat) (k : Nat) (x : Str) (S : KSp) : Prop where
  ex : ∃ f fd ps, FnOk P w K mg base (L2.CX P w) lev f fd ps (lift S) ∧ Mk K (cl K (clsN k).1) f ∧ Binds K fd ps []
  g : mg x = some (.ref (cl K (clsN k).1))
def kMake (K : PySem.W.Frag) (k : Nat) (S : KSp) (t : KA) : KE := fun σ G M R E => t σ G M (fun vs G M => ∀ x dx, Fr G M x → S (.ref x :: vs) G ((x, Ob K k dx []) :: M) (fun v G M => v = .non ∧ R (.ref x) G M) E) E
theorem ob_nil {K : PySem.W.Frag} {k : Nat} {dx : Addr} : Ob K k dx [] = .ins (cl K (clsN k).1) dx [] := by unfold Ob; rw [List.zip_nil_right]
theorem make_sim {k : Nat} {S : KSp} {σ : St} {vs : List V} {G : Hp} {M : Mem} {R : KR} {E : KX} {H : Hp} {Q : VK} (hv : Hv G M H) (q : ∀ x dx, Fr G M x → S (.ref x :: vs) G ((x, Ob X.K k dx []) :: M) (fun v G M => v = .non ∧ R (.ref x) G M) E)
    (hR : ∀ v G' M' H', Hv G' M' H' → R v G' M' → Q v H') (hE : ∀ c d G' M' H', Hv G' M' H' → E c d G' M' → W c d σ H') (x dx : Addr) (hx : H x = none) (hd : H dx = none) (hne : dx ≠ x) :
    lift S (.ref x :: vs) (upd (upd H dx (.own x)) x (.ins (cl X.K (clsN k).1) dx [])) (fun v H2 => v = .non ∧ Q (.ref x) H2) (WE W σ) := by
  have h1 : Hv G M (upd H dx (.own x)) := hv.junk hd
  have h2 : (upd H dx (.own x)) x = none := by rw [upd_ne (Ne.symm hne)]; exact hx
  refine ⟨G, _, fun v G M => v = .non ∧ R (.ref x) G M, E, h1.newM (o := .ins (cl X.K (clsN k).1) dx []) h2, by rw [← ob_nil]; exact q x dx (hv.fr hx), fun v G' M' H' hv' q => ⟨q.1, hR _ G' M' H' hv' q.2⟩, fun c d G' M' H' hv' q => hE c d G' M' H' hv' q⟩
theorem je_make {k lev cid : Nat} {x : Str} {p : Pos} {e : Expr} {es : List Expr} {S : KSp} {t : KA} (D : CDef X.prog X.w X.K X.mg X.base lev cid x S) (hk : PySem.W.keepIn X.K (.ref (cl X.K (clsN cid).1)) = true) (hr : Room k X.A) (tk : Takes X W) (ha : JA X W (e :: es) t) (hl : lev + 1 ≤ k := by decide) (hg : Gl X x := by rfl)
    (hdb : (x == ("__debug__" : Str)) = false := by decide) (he : starEach (e :: es) X.env = (false, eval e X.env) :: starEach es X.env := by rfl) (hpl : (backTo pos (starEach es X.env)).any (·.1) = false := by rfl) :
    JE X W (.Call (.Name x p) (e :: es) [] pos) (kMake X.K cid S t) := by
  obtain ⟨⟨f, fd, ps, F, mk, hb⟩, hm⟩ := D
  obtain ⟨k', rfl⟩ : ∃ k', k = k' + 1 := ⟨k - 1, by omega⟩
  refine ⟨fun pins s σ H Q I ⟨G, M, R, E, hv, h, hR, hE⟩ => ?_⟩
  refine wpAny_Call_Name_kw (ld_glob I hg hm ?_ hdb)
  refine PySem.W.callWith_K (h₀ := X.base) I.ok.mod.kin hk (thn (ha.run pos pins s σ H (fun vs H1 => ∀ x dx, H1 x = none → H1 dx = none → dx ≠ x → lift S (.ref x :: vs) (upd (upd H1 dx (.own x)) x (.ins (cl X.K (clsN cid).1) dx [])) (fun v H2 => v = .non ∧ Q (.ref x) H2) (WE W σ)) I ?_) fun us s1 ⟨vs, H1, I1, r, q⟩ => ⟨I1.kIn, ?_⟩) he hpl
  · exact ⟨G, M, _, E, hv, h, fun vs G1 M1 H1 hv1 q x dx hx hd hne => make_sim hv1 q hR hE x dx hx hd hne, hE⟩
  · exact run_makeS mk (F.mono (by omega)) hr hb (passAt tk σ) I1 r q
theorem je_make0 {k lev cid : Nat} {x : Str} {p : Pos} {S : KSp} (D : CDef X.prog X.w X.K X.mg X.base lev cid x S) (hk : PySem.W.keepIn X.K (.ref (cl X.K (clsN cid).1)) = true) (hr : Room k X.A) (tk : Takes X W) (hl : lev + 1 ≤ k := by decide) (hg : Gl X x := by rfl)
    (hdb : (x == ("__debug__" : Str)) = false := by decide) : JE X W (.Call (.Name x p) [] [] pos) (kMake X.K cid S kNil) := by
  obtain ⟨⟨f, fd, ps, F, mk, hb⟩, hm⟩ := D
  obtain ⟨k', rfl⟩ : ∃ k', k = k' + 1 := ⟨k - 1, by omega⟩
  refine ⟨fun pins s σ H Q I ⟨G, M, R, E, hv, h, hR, hE⟩ => ?_⟩
  refine wpAny_Call_Name_kw (ld_glob I hg hm ?_ hdb)
  refine PySem.W.callWith_K0 I.kIn hk (run_makeS (us := []) (vs := []) mk (F.mono (by omega)) hr hb (passAt tk σ) I .nil fun x dx hx hd hne => make_sim hv h hR hE x dx hx hd hne)
/-! C.m(self, ..), m a def of the class C -/
structure FDef (P : Program) (w : World) (K : PySem.W.Frag) (mg : Str → Option Value) (base : Heap) (lev : Nat) (x m : Str) (S : KSp) : Prop where
  ex : ∃ f fd ps, FnOk P w K mg base (L2.CX P w) lev f fd ps (lift S) ∧ PySem.W.findCls K (.ref (cl K x)) (.type "type") m = some (.val (.ref f)) ∧ Binds K fd ps [] ∧ PySem.W.keepIn K (.ref f) = true
  g : mg x = some (.ref (cl K x))
  rd : PySem.W.readsIn K (cl K x) (.type "type") = true
  ga : PySem.W.specialIn K (.ref (cl K x)) "__getattribute__" = some (some (.builtin "type.__getattribute__"))
theorem je_clsCall {pl : Sem Bool} {k lev : Nat} {x m : Str} {p apos : Pos} {e : Expr} {es : List Expr} {S : KSp} {t : KA} (D : FDef X.prog X.w X.K X.mg X.base lev x m S) (hr : Room k X.A) (tk : Takes X W) (ha : JA X W (e :: es) t) (hl : lev ≤ k := by decide) (hg : Gl X x := by rfl)
    (hdb : (x == ("__debug__" : Str)) = false := by decide) (hst : starEach (e :: es) X.env = (false, eval e X.env) :: starEach es X.env := by rfl) (hpl : (backTo pos (starEach es X.env)).any (·.1) = false := by rfl)
    (ht : eval (.Call (.Attribute (.Name x p) m apos) (e :: es) [] pos) X.env = (do
      let ov ← eval (.Name x p) X.env
      standAt apos.atName
      let (f, first) ← holding [ov] (getMethod ov m pl)
      callWith pos f first (backTo pos (starEach (e :: es) X.env)) (backToKw pos (keywordEach [] X.env))) := by rfl) :
    JE X W (.Call (.Attribute (.Name x p) m apos) (e :: es) [] pos) (kCall S t) := by
  obtain ⟨⟨f, fd, ps, F, hf, hb, hkp⟩, hm, rd, ga⟩ := D
  refine ⟨fun pins s σ H Q I ⟨G, M, R, E, hv, h, hR, hE⟩ => ?_⟩
  refine PySem.W.methodCall_KW (pl := pl) (ld_glob I hg hm ?_ hdb) ht
  refine PySem.W.method_cls I.kIn ga (PySem.W.cls_value I.kIn rd hf rfl ?_)
  refine PySem.W.callWith_K (first := []) (h₀ := X.base) I.ok.mod.kin hkp (thn (ha.run pos pins _ σ H (fun vs H1 => lift S vs H1 Q (WE W σ)) (I.tok _) ?_) fun us s2 ⟨vs, H2, I2, r, q2⟩ => ⟨I2.kIn, ?_⟩) hst hpl
  · exact ⟨G, M, _, E, hv, h, fun vs G1 M1 H1 hv1 q => ⟨G1, M1, R, E, hv1, q, hR, hE⟩, hE⟩
  · exact run_fnS (us := us) (vs := vs) (F.mono hl) hr hb (passAt tk σ) I2 r q2
end
end BT
namespace BT
open PySem PySem.Spec L2
open PyProof.Rows hiding St
section
variable {P : Program} {w : World} {K : PySem.W.Frag} {mg : Str → Option Value} {base : Heap} {k lev : Nat} {C f : Addr} {fd : FuncData} {ps : List Str} {S : KSp} {x m : Str}
theorem ck_mk (a : PySem.W.nsIn K mainGlobals (clsN k).1 = some (some (.ref C))) (h1 : PySem.W.plainGet K C Str.empty = true) (h2 : PySem.W.hasDictIn K C = true) (h3 : PySem.W.plainOver K C = true)
    (h4 : PySem.W.findIn K (.ref C) "__setattr__" = some (some (.builtin "object.__setattr__"))) (h5 : ∀ f ∈ (clsN k).2, PySem.W.findIn K (.ref C) f = some none) : CK K k := by
  have e := cl_of a
  exact ⟨by rw [e]; exact ⟨h1, h2, h3, h4⟩, by rw [e]; exact h5⟩
theorem keep_mk (a : PySem.W.nsIn K mainGlobals (clsN k).1 = some (some (.ref C))) (h : PySem.W.keepIn K (.ref C) = true) : PySem.W.keepIn K (.ref (cl K (clsN k).1)) = true := by
  rw [cl_of a]; exact h
theorem cd_mk (hx : (clsN k).1 = x) (a : PySem.W.nsIn K mainGlobals (clsN k).1 = some (some (.ref C))) (g : mg x = some (.ref C)) (F : FnOk P w K mg base (L2.CX P w) lev f fd ps (lift S)) (h1 : PySem.W.makesIn K C = true) (h2 : PySem.W.findIn K (.ref C) "__init__" = some (some (.ref f)))
    (h3 : PySem.W.isFn K (.ref f) = true) (h4 : PySem.W.keepIn K (.ref C) = true) (b : Binds K fd ps []) : CDef P w K mg base lev k x S := by
  have e := cl_of a
  exact ⟨⟨f, fd, ps, F, by rw [e]; exact ⟨h1, h2, h3, h4⟩, b⟩, by rw [e]; exact g⟩
theorem md_mk (a : PySem.W.nsIn K mainGlobals (clsN k).1 = some (some (.ref C))) (F : FnOk P w K mg base (L2.CX P w) lev f fd ps (lift S)) (h1 : PySem.W.findIn K (.ref C) m = some (some (.ref f))) (h2 : PySem.W.isFn K (.ref f) = true) (h3 : PySem.W.keepIn K (.ref f) = true) (b : Binds K fd ps [])
    (ck : CK K k) (no : m ∉ (clsN k).2) : MDef P w K mg base lev k m S := by
  have e := cl_of a
  exact ⟨⟨f, fd, ps, F, by rw [e]; exact ⟨h1, h2, h3⟩, b⟩, ck, no⟩
theorem fd_mk (a : PySem.W.nsIn K mainGlobals x = some (some (.ref C))) (g : mg x = some (.ref C)) (F : FnOk P w K mg base (L2.CX P w) lev f fd ps (lift S)) (h1 : PySem.W.findCls K (.ref C) (.type "type") m = some (.val (.ref f))) (b : Binds K fd ps []) (h2 : PySem.W.keepIn K (.ref f) = true)
    (h3 : PySem.W.readsIn K C (.type "type") = true) (h4 : PySem.W.specialIn K (.ref C) "__getattribute__" = some (some (.builtin "type.__getattribute__"))) : FDef P w K mg base lev x m S := by
  have e := cl_of a
  exact ⟨⟨f, fd, ps, F, by rw [e]; exact h1, b, h2⟩, by rw [e]; exact g, by rw [e]; exact h3, by rw [e]; exact h4⟩
end
end BT
set_option Elab.async false
set_option linter.all false
set_option maxRecDepth 100000
set_option maxHeartbeats 4000000
namespace BT
open PySem PySem.Spec L2
open PyProof.Rows hiding St
/-! ### dicts whose keys are ints and texts -/
section
variable {X : Cx} {W : WX} {pos : Pos} {o i e f : Expr}
def kDIn (neg : Bool) (ty td : KE) : KE := fun σ G M R E => ty σ G M (fun y G M => td σ G M (fun x G M => match x with
  | .ref a => ∃ (kvs : List (Key × V)) (k : Key), At G M a (.dK kvs) ∧ y = kV k ∧ R (.bl (if neg then !(valV kvs k).isSome else (valV kvs k).isSome)) G M
  | _ => False) E) E
theorem din_sim {ty td : KE} {σ : St} {H : Hp} {Q : VK} (h : upG W (kDIn false ty td) σ H Q) : tDIn (upG W ty) (upG W td) σ H Q := by
  obtain ⟨G, M, R, E, hv, h, hR, hE⟩ := h
  exact ⟨G, M, _, E, hv, h, fun y G1 M1 H1 hv1 q1 => ⟨G1, M1, _, E, hv1, q1, fun x G2 M2 H2 hv2 q2 => by
    match x, q2 with
    | .ref a, ⟨kvs, k, q3, q4, q5⟩ => subst q4; exact ⟨a, _, rfl, DGet.k (hv2.at q3), hR _ G2 M2 H2 hv2 q5⟩, hE⟩, hE⟩
theorem dnotin_sim {ty td : KE} {σ : St} {H : Hp} {Q : VK} (h : upG W (kDIn true ty td) σ H Q) : tDNotIn (upG W ty) (upG W td) σ H Q := by
  obtain ⟨G, M, R, E, hv, h, hR, hE⟩ := h
  exact ⟨G, M, _, E, hv, h, fun y G1 M1 H1 hv1 q1 => ⟨G1, M1, _, E, hv1, q1, fun x G2 M2 H2 hv2 q2 => by
    match x, q2 with
    | .ref a, ⟨kvs, k, q3, q4, q5⟩ => subst q4; exact ⟨a, _, rfl, DGet.k (hv2.at q3), hR _ G2 M2 H2 hv2 q5⟩, hE⟩, hE⟩
theorem je_din {ty td : KE} (hu : X.A.units + 64 < cLine) (hi : JE X W i ty) (ho : JE X W o td) (hm : behindInMarks .In o = false := by first | rfl | with_unfolding_all rfl) : JE X W (.Compare i [.In] [o] pos) (kDIn false ty td) := pe_mono (pe_cmp (pc_din (by omega) hi ho) hm) fun _ _ _ h => din_sim h
theorem jt_din {ty td : KE} (hu : X.A.units + 64 < cLine) (hi : JE X W i ty) (ho : JE X W o td) (hm : behindInMarks .In o = false := by first | rfl | with_unfolding_all rfl) : JT X W (.Compare i [.In] [o] pos) (kT (kDIn false ty td)) := pt_mono (pt_cmp (pc_din (by omega) hi ho) hm) fun _ _ _ h => din_sim (t_sim h)
theorem je_dnotin {ty td : KE} (hu : X.A.units + 64 < cLine) (hi : JE X W i ty) (ho : JE X W o td) (hm : behindInMarks .NotIn o = false := by first | rfl | with_unfolding_all rfl) : JE X W (.Compare i [.NotIn] [o] pos) (kDIn true ty td) := pe_mono (pe_cmp (pc_dnotin (by omega) hi ho) hm) fun _ _ _ h => dnotin_sim h
theorem jt_dnotin {ty td : KE} (hu : X.A.units + 64 < cLine) (hi : JE X W i ty) (ho : JE X W o td) (hm : behindInMarks .NotIn o = false := by first | rfl | with_unfolding_all rfl) : JT X W (.Compare i [.NotIn] [o] pos) (kT (kDIn true ty td)) := pt_mono (pt_cmp (pc_dnotin (by omega) hi ho) hm) fun _ _ _ h => dnotin_sim (t_sim h)
/-- d[k] -/
def kDGet : KR2 := fun x y G M R => match x with
  | .ref a => ∃ (kvs : List (Key × V)) (k : Key) (v : V), At G M a (.dK kvs) ∧ y = kV k ∧ valV kvs k = some v ∧ R v G M
  | _ => False
theorem je_dget {ta tb : KE} (hu : X.A.units + 64 < cLine) (ha : JE X W o ta) (hb : JE X W i tb) (hs : NoSl i := by exact fun _ _ => rfl) : JE X W (.Subscript o i pos) (kBin kDGet ta tb) :=
  pe_mono (pe_dget (by omega) ha hb hs) fun σ H Q ⟨G, M, R, E, hv, h, hR, hE⟩ => ⟨G, M, _, E, hv, h, fun x G1 M1 H1 hv1 q1 => ⟨G1, M1, _, E, hv1, q1, fun y G2 M2 H2 hv2 q2 => by
    match x, q2 with
    | .ref a, ⟨kvs, k, v, q3, q4, q5, q6⟩ =>
      subst q4
      refine ⟨a, v, rfl, ?_, hR _ G2 M2 H2 hv2 q6⟩
      rw [← q5]; exact DGet.k (hv2.at q3), hE⟩, hE⟩
/-- d[k] = v -/
def kDSet (td ty tv : KE) : KS := fun D σ G M => tv σ G M (fun v G M => td σ G M (fun x G M => ty σ G M (fun y G M => match x with
  | .ref a => ∃ (n : Nat) (kvs : List (Key × V)) (k : Key), M[n]? = some (a, .dK kvs) ∧ y = kV k ∧ kvs.length < sizeLine ∧ D.nx σ G (M.set n (a, .dK (putK kvs k v)))
  | _ => False) (D.x σ)) (D.x σ)) (D.x σ)
theorem js_dset {td ty tv : KE} {value : Expr} {pos' : Pos} (hu : X.A.units + 64 < cLine) (ho : JE X W o td) (hi : JE X W i ty) (hv : JE X W value tv) (hs : swapsWith value (some (.Subscript o i pos')) pos.line X.env = pure false := by rfl) :
    JS X W (.Assign [.Subscript o i pos'] value pos) (kDSet td ty tv) := ps_mono (ps_dput (by omega) ho hi hv hs) fun D σ H ⟨G, M, d, hv, h, en⟩ =>
  ⟨G, M, _, _, hv, h, fun v G1 M1 H1 hv1 q => ⟨G1, M1, _, _, hv1, q, fun x G2 M2 H2 hv2 q2 => ⟨G2, M2, _, _, hv2, q2, fun y G3 M3 H3 hv3 q3 => by
    match x, q3 with
    | .ref a, ⟨n, kvs, k, q4, q5, q6, q7⟩ => subst q5; exact ⟨a, _, rfl, DPut.k (hv3.get q4) q6, en.nx _ G3 _ _ (hv3.set q4) q7⟩, fun c a G' M' H' hv' q => en.xc c a σ G' M' H' hv' q⟩, fun c a G' M' H' hv' q => en.xc c a σ G' M' H' hv' q⟩, fun c a G' M' H' hv' q => en.xc c a σ G' M' H' hv' q⟩
/-- d.get(k, x), d.get(k) -/
def kDGet2 (td ty tx : KE) : KE := fun σ G M R E => td σ G M (fun x G M => match x with
  | .ref a => (∃ kvs, At G M a (.dK kvs)) ∧ ty σ G M (fun y G M => tx σ G M (fun z G M => ∃ (kvs : List (Key × V)) (k : Key), At G M a (.dK kvs) ∧ y = kV k ∧ R ((valV kvs k).getD z) G M) E) E
  | _ => False) E
theorem je_dget2 {td ty tx : KE} {apos cpos : Pos} (hu : X.A.units + 64 < cLine) (ho : JE X W o td) (he : JE X W e ty) (hf : JE X W f tx) (m : M2 X o "get" apos e f cpos := by exact ⟨rfl, rfl, rfl, rfl⟩) : JE X W (.Call (.Attribute o "get" apos) [e, f] [] cpos) (kDGet2 td ty tx) :=
  pe_mono (pe_dget2 (by omega) ho he hf m) fun σ H Q ⟨G, M, R, E, hv, h, hR, hE⟩ => ⟨G, M, _, E, hv, h, fun x G1 M1 H1 hv1 q1 => by
    match x, q1 with
    | .ref a, ⟨⟨kvs, q2⟩, q3⟩ => exact ⟨a, rfl, .inl ⟨kvs, .inl (hv1.at q2)⟩, G1, M1, _, E, hv1, q3, fun y G2 M2 H2 hv2 q4 => ⟨G2, M2, _, E, hv2, q4, fun z G3 M3 H3 hv3 q5 => by
        obtain ⟨kvs, k, q6, q7, q8⟩ := q5
        subst q7
        exact ⟨_, DGet.k (hv3.at q6), hR _ G3 M3 H3 hv3 q8⟩, hE⟩, hE⟩, hE⟩
def kDGet1 (td ty : KE) : KE := fun σ G M R E => td σ G M (fun x G M => match x with
  | .ref a => (∃ kvs, At G M a (.dK kvs)) ∧ ty σ G M (fun y G M => ∃ (kvs : List (Key × V)) (k : Key), At G M a (.dK kvs) ∧ y = kV k ∧ R ((valV kvs k).getD .non) G M) E
  | _ => False) E
theorem je_dget1 {td ty : KE} {apos cpos : Pos} (hu : X.A.units + 64 < cLine) (ho : JE X W o td) (he : JE X W e ty) (m : M1 X o "get" apos e cpos := by exact ⟨rfl, rfl, rfl, rfl⟩) : JE X W (.Call (.Attribute o "get" apos) [e] [] cpos) (kDGet1 td ty) :=
  pe_mono (pe_dget1 (by omega) ho he m) fun σ H Q ⟨G, M, R, E, hv, h, hR, hE⟩ => ⟨G, M, _, E, hv, h, fun x G1 M1 H1 hv1 q1 => by
    match x, q1 with
    | .ref a, ⟨⟨kvs, q2⟩, q3⟩ => exact ⟨a, rfl, .inl ⟨kvs, .inl (hv1.at q2)⟩, G1, M1, _, E, hv1, q3, fun y G2 M2 H2 hv2 q5 => by
        obtain ⟨kvs, k, q6, q7, q8⟩ := q5
        subst q7
        exact ⟨_, DGet.k (hv2.at q6), hR _ G2 M2 H2 hv2 q8⟩, hE⟩, hE⟩
/-- d.pop(k, x), d.pop(k) -/
def kDPop2 (td ty tx : KE) : KE := fun σ G M R E => td σ G M (fun x G M => match x with
  | .ref a => (∃ kvs, At G M a (.dK kvs)) ∧ ty σ G M (fun y G M => tx σ G M (fun z G M => ∃ (n : Nat) (kvs : List (Key × V)) (k : Key), M[n]? = some (a, .dK kvs) ∧ y = kV k ∧ (∀ v, valV kvs k = some v → R v G (M.set n (a, .dK (dropK kvs k)))) ∧ (valV kvs k = none → R z G M)) E) E
  | _ => False) E
theorem je_dpop2 {td ty tx : KE} {apos cpos : Pos} (ho : JE X W o td) (he : JE X W e ty) (hf : JE X W f tx) (m : M2 X o "pop" apos e f cpos := by exact ⟨rfl, rfl, rfl, rfl⟩) : JE X W (.Call (.Attribute o "pop" apos) [e, f] [] cpos) (kDPop2 td ty tx) :=
  pe_mono (pe_dpop2 ho he hf m) fun σ H Q ⟨G, M, R, E, hv, h, hR, hE⟩ => ⟨G, M, _, E, hv, h, fun x G1 M1 H1 hv1 q1 => by
    match x, q1 with
    | .ref a, ⟨⟨kvs, q2⟩, q3⟩ => exact ⟨a, rfl, .inl ⟨kvs, .inl (hv1.at q2)⟩, G1, M1, _, E, hv1, q3, fun y G2 M2 H2 hv2 q4 => ⟨G2, M2, _, E, hv2, q4, fun z G3 M3 H3 hv3 q5 => by
        obtain ⟨n, kvs, k, q6, q7, q8, q9⟩ := q5
        exact ⟨kvs, k, hv3.get q6, q7, fun v hv => hR _ G3 _ _ (hv3.set q6) (q8 v hv), fun hv => hR _ G3 M3 H3 hv3 (q9 hv)⟩, hE⟩, hE⟩, hE⟩
def kDPop1 (td ty : KE) : KE := fun σ G M R E => td σ G M (fun x G M => match x with
  | .ref a => (∃ kvs, At G M a (.dK kvs)) ∧ ty σ G M (fun y G M => ∃ (n : Nat) (kvs : List (Key × V)) (k : Key) (v : V), M[n]? = some (a, .dK kvs) ∧ y = kV k ∧ valV kvs k = some v ∧ R v G (M.set n (a, .dK (dropK kvs k)))) E
  | _ => False) E
theorem je_dpop1 {td ty : KE} {apos cpos : Pos} (ho : JE X W o td) (he : JE X W e ty) (m : M1 X o "pop" apos e cpos := by exact ⟨rfl, rfl, rfl, rfl⟩) : JE X W (.Call (.Attribute o "pop" apos) [e] [] cpos) (kDPop1 td ty) :=
  pe_mono (pe_dpop1 ho he m) fun σ H Q ⟨G, M, R, E, hv, h, hR, hE⟩ => ⟨G, M, _, E, hv, h, fun x G1 M1 H1 hv1 q1 => by
    match x, q1 with
    | .ref a, ⟨⟨kvs, q2⟩, q3⟩ => exact ⟨a, rfl, .inl ⟨kvs, .inl (hv1.at q2)⟩, G1, M1, _, E, hv1, q3, fun y G2 M2 H2 hv2 q5 => by
        obtain ⟨n, kvs, k, v, q6, q7, q8, q9⟩ := q5
        exact ⟨kvs, k, v, hv2.get q6, q7, q8, hR _ G2 _ _ (hv2.set q6) q9⟩, hE⟩, hE⟩
/-- d.setdefault(k, x) -/
def kDSetd (td ty tx : KE) : KE := fun σ G M R E => td σ G M (fun x G M => match x with
  | .ref a => (∃ kvs, At G M a (.dK kvs)) ∧ ty σ G M (fun y G M => tx σ G M (fun z G M => ∃ (n : Nat) (kvs : List (Key × V)) (k : Key), M[n]? = some (a, .dK kvs) ∧ y = kV k ∧ kvs.length < sizeLine ∧ (∀ v, valV kvs k = some v → R v G M) ∧ (valV kvs k = none → R z G (M.set n (a, .dK (putK kvs k z))))) E) E
  | _ => False) E
theorem je_dsetd {td ty tx : KE} {apos cpos : Pos} (ho : JE X W o td) (he : JE X W e ty) (hf : JE X W f tx) (m : M2 X o "setdefault" apos e f cpos := by exact ⟨rfl, rfl, rfl, rfl⟩) : JE X W (.Call (.Attribute o "setdefault" apos) [e, f] [] cpos) (kDSetd td ty tx) :=
  pe_mono (pe_dsetd ho he hf m) fun σ H Q ⟨G, M, R, E, hv, h, hR, hE⟩ => ⟨G, M, _, E, hv, h, fun x G1 M1 H1 hv1 q1 => by
    match x, q1 with
    | .ref a, ⟨⟨kvs, q2⟩, q3⟩ => exact ⟨a, rfl, .inl ⟨kvs, .inl (hv1.at q2)⟩, G1, M1, _, E, hv1, q3, fun y G2 M2 H2 hv2 q4 => ⟨G2, M2, _, E, hv2, q4, fun z G3 M3 H3 hv3 q5 => by
        obtain ⟨n, kvs, k, q6, q7, q8, q9, q10⟩ := q5
        exact ⟨kvs, k, hv3.get q6, q7, q8, fun v hv => hR _ G3 M3 H3 hv3 (q9 v hv), fun hv => hR _ G3 _ _ (hv3.set q6) (q10 hv)⟩, hE⟩, hE⟩, hE⟩
/-- sorted(d), list(d), len(d) -/
def kSortedD : KC := fun vs G M R => match vs with
  | [.ref a] => ∃ (kvs : List (Key × V)) (ks : List Int), At G M a (.dK kvs) ∧ kvs.map (·.1) = ks.map Sum.inl ∧ ks.length < 64 ∧ ∀ (ys : List Int) (p : Addr), ys.Perm ks → ys.Pairwise (· ≤ ·) → Fr G M p → R (.ref p) G ((p, .lst (ys.map V.int)) :: M)
  | _ => False
theorem kc_sortedD (hc : X.calm = true := by rfl) : KCall X (.builtin "sorted") kSortedD := kcall_of (call_sortedDI hc) fun vs G M R H Q hv h hR => by
  match vs, h with
  | [.ref a], ⟨kvs, ks, h1, h2, h3, h4⟩ => exact ⟨a, kvs, ks, rfl, .inl (hv.at h1), h2, h3, fun ys p q1 q2 q3 => hR _ G _ _ (hv.newM q3) (h4 ys p q1 q2 (hv.fr q3))⟩
def kListD : KC := fun vs G M R => match vs with
  | [.ref a] => ∃ kvs : List (Key × V), At G M a (.dK kvs) ∧ ∀ p, Fr G M p → R (.ref p) G ((p, .lst (kvs.map fun kv => kV kv.1)) :: M)
  | _ => False
theorem kc_listD (hc : X.calm = true := by rfl) : KCall X (.type "list") kListD := kcall_of (call_listD hc) fun vs G M R H Q hv h hR => by
  match vs, h with
  | [.ref a], ⟨kvs, h1, h2⟩ => exact ⟨a, kvs, rfl, .inl (hv.at h1), fun p q3 => hR _ G _ _ (hv.newM q3) (h2 p (hv.fr q3))⟩
def kLenD : KC := fun vs G M R => match vs with
  | [.ref a] => ∃ kvs : List (Key × V), At G M a (.dK kvs) ∧ R (.int kvs.length) G M
  | _ => False
theorem kc_lenD : KCall X (.builtin "len") kLenD := kcall_of call_lenD fun vs G M R H Q hv h hR => by
  match vs, h with
  | [.ref a], ⟨kvs, h1, h2⟩ => exact ⟨a, kvs, rfl, hv.at h1, hR _ G M H hv h2⟩
/-- x, y = a, b, two local names -/
def kPar (i j : Nat) (t : KA) : KS := fun D σ G M => t σ G M (fun vs G M => match vs with
  | [v, w] => D.nx ((σ.set i (some v)).set j (some w)) G M
  | _ => False) (D.x σ)
theorem js_par {i j : Nat} {x y : Str} {a b : Expr} {ta : KA} {px py pt : Pos} {kt k2 pt2} (hN : X.N.Nodup) (ha : JA X W [a, b] ta) (hc : X.calm = true := by rfl) (hi : X.N[i]? = some x := by rfl) (hj : X.N[j]? = some y := by rfl) (hij : i ≠ j := by decide)
    (hx : X.env.scope.names.lookup x = some .local := by rfl) (hy : X.env.scope.names.lookup y = some .local := by rfl)
    (hw : swappedStores [.Tuple [.Name x px, .Name y py] kt pt] (.Tuple [a, b] k2 pt2) X.env = pure (some [x, y]) := by rfl)
    (hs : swapsWithSole [.Tuple [.Name x px, .Name y py] kt pt] (.Tuple [a, b] k2 pt2) pos.line X.env = pure false := by rfl) :
    JS X W (.Assign [.Tuple [.Name x px, .Name y py] kt pt] (.Tuple [a, b] k2 pt2) pos) (kPar i j ta) :=
  ps_mono (ps_par hc hN hi hj hij hx hy ha hw hs) fun D σ H ⟨G, M, d, hv, h, en⟩ => ⟨G, M, _, _, hv, h, fun vs G1 M1 H1 hv1 q => by
    match vs, q with
    | [v, w], q => exact ⟨v, w, rfl, en.nx _ G1 M1 H1 hv1 q⟩, fun c a G' M' H' hv' q => en.xc c a σ G' M' H' hv' q⟩
end
end BT
set_option Elab.async false
set_option linter.all false
set_option maxRecDepth 100000
set_option maxHeartbeats 4000000
namespace BT
open PySem PySem.Spec L2
open PyProof.Rows hiding St
/-! ### slices and sums of tuples, unpacked lists -/
section
variable {X : Cx} {W : WX} {pos : Pos} {o i e f : Expr}
/-- a tuple's slice; the whole of it is the tuple itself -/
def cutT (K : PySem.W.Frag) (x : V) (lo hi : Option Int) (G : Hp) (M : Mem) (R : KR) : Prop := match x with
  | .ref a => ∃ xs, SqT K G a xs ∧ (HT.sIx xs.length 0 lo = 0 ∧ HT.sIx xs.length xs.length hi = xs.length → R (.ref a) G M) ∧ (¬ (HT.sIx xs.length 0 lo = 0 ∧ HT.sIx xs.length xs.length hi = xs.length) → ∀ p, Fr G M p → R (.ref p) (upd G p (.tup (cutV xs lo hi))) M)
  | _ => False
def kSlT (K : PySem.W.Frag) (t : KE) (tl th : KO) : KE := fun σ G M R E => t σ G M (fun x G M => tl σ G M (fun l G M => th σ G M (fun u G M => cutT K x l u G M R) E) E) E
theorem je_slT {t : KE} {lo hi : Option Expr} {tl th : KO} {p2 : Pos} (he : JE X W e t) (hl : JO X W lo tl) (hu : JO X W hi th) : JE X W (.Subscript e (.Slice lo hi none p2) pos) (kSlT X.K t tl th) :=
  pe_mono (pe_slice sl_tupA he hl hu) fun σ H Q ⟨G, M, R, E, hv, h, hR, hE⟩ => ⟨G, M, _, E, hv, h, fun x G1 M1 H1 hv1 h1 => ⟨G1, M1, _, E, hv1, h1, fun l G2 M2 H2 hv2 h2 => ⟨G2, M2, _, E, hv2, h2, fun u G3 M3 H3 hv3 h3 => by
    match x, h3 with
    | .ref a, ⟨xs, q1, q2, q3⟩ => exact ⟨_, xs, rfl, hv3.tup q1, fun z => hR _ G3 M3 H3 hv3 (q2 z), fun z p hp => hR _ _ _ _ (hv3.newG hp) (q3 z p (hv3.fr hp))⟩, hE⟩, hE⟩, hE⟩
/-- (a, b, ..) = a list of that length -/
def kgUnl (K : PySem.W.Frag) (n : Nat) (g : KGs) : KG := ⟨fun v σ G M R => match v with
    | .ref a => ∃ xs, LstAt K G M a xs ∧ onLen n g xs σ G M R
    | _ => False, fun _ _ _ _ _ => False⟩
theorem jg_unl {K : PySem.W.Frag} {ts : List Expr} {g : KGs} {gs : TGs} {n k : Nat} (hc : X.calm = true) (h : JGs X ts g gs) (hK : X.K = K := by rfl) (hn : (assignEach ts X.env).length = n := by rfl) (hst : (assignEach ts X.env).findIdx? (·.1) = none := by rfl) :
    JG X (.Tuple ts k pos) (kgUnl K n g) (gUnl K n gs) := by
  subst hK
  exact ⟨pg_unl hc h.pgs hn hst, fun v σ G M R H Q hv q hR => by
    match v, q with
    | .ref a, ⟨xs, q1, q2⟩ =>
      obtain ⟨e, q3⟩ := onLen_of q2
      exact ⟨a, xs, rfl, hv.lst q1, e, h.sim xs σ G M R H Q hv q3 hR⟩,
   fun T vs σ G M R H Q hv hT q hR => q.elim⟩
/-- the sum of two tuples -/
def kCat (K : PySem.W.Frag) : KR2 := fun x y G M R => match x, y with
  | .ref a, .ref b => ∃ xs ys, SqT K G a xs ∧ SqT K G b ys ∧ xs.length + ys.length ≤ sizeLine ∧ (xs = [] → R (.ref b) G M) ∧ (xs ≠ [] → ys = [] → R (.ref a) G M) ∧ (xs ≠ [] → ys ≠ [] → ∀ p, Fr G M p → R (.ref p) (upd G p (.tup (xs ++ ys))) M)
  | _, _ => False
theorem kop_cat : KOp X (binaryOp .Add) (kCat X.K) := kop_of op_catA fun x y G M R H Q hv h hR => by
  match x, y, h with
  | .ref a, .ref b, ⟨xs, ys, h1, h2, h3, h4, h5, h6⟩ => exact ⟨a, b, xs, ys, rfl, rfl, hv.tup h1, hv.tup h2, h3, fun z => hR _ G M H hv (h4 z), fun z w => hR _ G M H hv (h5 z w), fun z w p hp => hR _ _ _ _ (hv.newG hp) (h6 z w p (hv.fr hp))⟩
end
end BT
set_option Elab.async false
set_option linter.all false
set_option maxRecDepth 100000
set_option maxHeartbeats 4000000
namespace BT
open PySem PySem.Spec L2
open PyProof.Rows hiding St
/-! ### isinstance(err, (C, D, ..)); except C without a name -/
def orTab (a b : List (Str × Bool)) : List (Str × Bool) := a.zipWith (fun p q => (p.1, p.2 || q.2)) b
theorem orTab_mem : ∀ {a b : List (Str × Bool)}, a.map (·.1) = b.map (·.1) → ∀ p, p ∈ orTab a b → ∃ x y, (p.1, x) ∈ a ∧ (p.1, y) ∈ b ∧ p.2 = (x || y)
  | [], _, _, p, h => by simp [orTab] at h
  | _ :: _, [], _, p, h => by simp [orTab] at h
  | u :: a, v :: b, e, p, h => by
    have e1 : u.1 = v.1 := by simpa using (List.cons.inj e).1
    rcases List.mem_cons.mp (show p ∈ (u.1, u.2 || v.2) :: orTab a b from h) with rfl | h
    · exact ⟨u.2, v.2, List.mem_cons_self, by rw [e1]; exact List.mem_cons_self, rfl⟩
    · obtain ⟨x, y, h1, h2, h3⟩ := orTab_mem (List.cons.inj e).2 p h
      exact ⟨x, y, List.mem_cons_of_mem _ h1, List.mem_cons_of_mem _ h2, h3⟩
structure IsT (K : PySem.W.Frag) (cs : List V) (us : List Value) (tab : List (Str × Bool)) : Prop where
  p : Paired ClsV cs us
  n : PySem.W.kitAny K (.type "NoneType") us = some false
  t : ∀ p ∈ tab, ExcC K (cl K p.1) ∧ PySem.W.kitAny K (.ref (cl K p.1)) us = some p.2
theorem IsT.cons {K : PySem.W.Frag} {c : V} {u : Value} {cs : List V} {us : List Value} {tab tab1 : List (Str × Bool)} (hc : ClsV c u) (hn : PySem.W.kitOne K (.type "NoneType") u = some false)
    (ht : ∀ p ∈ tab1, ExcC K (cl K p.1) ∧ PySem.W.kitOne K (.ref (cl K p.1)) u = some p.2) (h : IsT K cs us tab) (e : tab1.map (·.1) = tab.map (·.1) := by rfl) : IsT K (c :: cs) (u :: us) (orTab tab1 tab) :=
  ⟨.cons hc h.p, kitAny_cons hn (fun _ => h.n) (fun z => nomatch z), fun p hp => by
    obtain ⟨x, y, h1, h2, h3⟩ := orTab_mem e p hp
    obtain ⟨q1, q2⟩ := ht _ h1
    refine ⟨q1, kitAny_cons q2 (fun z => ?_) (fun z => ?_)⟩
    · rw [h3, show x = false from z]
      exact (h.t _ h2).2
    · rw [h3, show x = true from z]; rfl⟩
theorem IsT.one {K : PySem.W.Frag} {c : V} {u : Value} {tab1 : List (Str × Bool)} (hc : ClsV c u) (hn : PySem.W.kitOne K (.type "NoneType") u = some false)
    (ht : ∀ p ∈ tab1, ExcC K (cl K p.1) ∧ PySem.W.kitOne K (.ref (cl K p.1)) u = some p.2) : IsT K [c] [u] tab1 :=
  ⟨.cons hc .nil, kitAny_cons hn (fun _ => rfl) (fun z => nomatch z), fun p hp => by
    obtain ⟨q1, q2⟩ := ht p hp
    exact ⟨q1, kitAny_cons q2 (fun z => by rw [z]; rfl) (fun z => z)⟩⟩
section
variable {X : Cx} {W : WX} {pos : Pos}
def kIsXT (K : PySem.W.Frag) (cs : List V) (tab : List (Str × Bool)) : KC := fun vs G M R => match vs with
  | [.non, .ref t] => G t = some (.tup cs) ∧ R (.bl false) G M
  | [.ref a, .ref t] => G t = some (.tup cs) ∧ ∃ p ∈ tab, At G M a (ErA K p.1 none a) ∧ R (.bl p.2) G M
  | _ => False
theorem kc_isXT {tab : List (Str × Bool)} {cs : List V} {us : List Value} (T : IsT X.K cs us tab) : KCall X (.builtin "isinstance") (kIsXT X.K cs tab) := by
  intro pins s σ H xs ws Q I r h
  obtain ⟨G, M, R, hv, h, hR⟩ := h
  match xs, h with
  | [.non, .ref t], h2 =>
    obtain ⟨ht, h3⟩ := h2
    exact (call_isiT (X := X)) pins s σ H [.non, .ref t] _ Q I r ⟨_, t, cs, .type "NoneType", us, false, rfl, hv.ex _ _ ht, T.p, .base .non, T.n, hR _ _ _ _ hv h3⟩
  | [.ref a, .ref t], h2 =>
    obtain ⟨ht, p, hp, ha, h3⟩ := h2
    obtain ⟨C, e⟩ := T.t p hp
    obtain ⟨u1, u2, rfl, r1, r2⟩ := vals2 r
    cases (show u2 = Value.ref t from r2)
    cases (show u1 = Value.ref a from r1)
    have hH : H a = some (ErA X.K p.1 none a) := hv.at ha
    obtain ⟨⟨oe, vs, hget, hz, hd⟩, _, _⟩ := I.hok a _ hH
    have J : PySem.W.InstAt s.heap a oe (cl X.K p.1) none := by
      obtain ⟨oc, od, oda, osl⟩ := oe
      obtain ⟨h1, h2⟩ := hz
      dsimp only at h1 h2 hd
      subst h1 h2 hd
      exact ⟨hget, rfl, rfl, trivial⟩
    obtain ⟨_, its, rv, o, h1, h2, n, h3'⟩ := (show ObjOk X.prog X.w H s.heap t (.tup cs) from I.hok t _ (hv.ex _ _ ht))
    have e3 := ClsV.all T.p rv
    subst e3
    obtain ⟨oc, od, dt, sl⟩ := o
    simp only at h2 h3'
    subst h2 h3'
    exact PySem.W.kia_tup (PySem.W.handS_kitx_exc C.hg C.hk C.hs C.hd C.ha C.hn C.ht C.hm) I.kIn J h1 e (fun z => nomatch z) fun tk => ⟨.bl p.2, H, I.kept (t' := tk) fun _ _ z => z, rfl, hR _ _ _ _ hv h3⟩
/-- try: t, except C: u -/
def kTryO (K : PySem.W.Frag) (tab : List (Str × Bool)) (t u : KS) : KS := fun D σ G M => t { D with xc := fun c d σ' G' M' => ∃ p ∈ tab, c = .ref (cl K p.1) ∧
  (if p.2 = true then u { D with xc := fun _ _ _ _ _ => False } σ' G' M' else D.xc c d σ' G' M') } σ G M
theorem js_tryO {K : PySem.W.Frag} {x : Str} {tab : List (Str × Bool)} {body suite : List Stmt} {b0 : Stmt} {t u : KS} {np pos' : Pos} (g : XG X.K X.mg x) (ht : ∀ p ∈ tab, PySem.W.exmOne X.K (.ref (cl X.K p.1)) (.ref (cl X.K x)) = some p.2) (tk : Takes X W)
    (hb : ∀ (W : WX) (pn : List (Addr × Obj)) (xe : Value → Shared → Prop), Takes (X.tr pn xe) W → PassesOwn (model X.prog X.w) X.A X.env xe → JSs (X.tr pn xe) W body t)
    (hsu : ∀ (a : Addr) (oe : Obj) (pn : List (Addr × Obj)), JSs (X.suite a ((a, oe) :: pn)) W0 (b0 :: suite) u)
    (hK : X.K = K := by rfl) (hs : X.stack = X.env :: X.outer := by rfl) (hf : X.env.frame = some X.env.locals := by rfl) (hg : Gl X x := by rfl) (hxd : (x == ("__debug__" : Str)) = false := by decide) :
    JS X W (.Try body [.ExceptHandler (some (.Name x np)) none (b0 :: suite) pos'] [] [] pos) (kTryO K tab t u) := by
  subst hK
  refine ps_mono (ps_try_only (c := .ref (cl X.K x)) (tb := fun W => upS W t) (ts := fun _ _ _ => upS W0 u) hs hf ⟨hg, hxd, .inl g.g⟩ tk hb (fun a oe cls d pn _ _ => hsu a oe pn)) fun D σ H ⟨G, M, d, hv, h, en⟩ => ?_
  refine ⟨G, M, _, hv, h, ⟨en.nx, en.rt, en.bk, en.ct, fun c e σ' G' M' H' hv' q => ?_⟩⟩
  obtain ⟨p, hp, rfl, q⟩ := q
  refine ⟨p.2, ht p hp, fun hb a na => ?_, fun hb => ?_⟩
  · rw [if_pos hb] at q
    exact ⟨G', M', _, hv', q, ⟨en.nx, en.rt, en.bk, en.ct, fun _ _ _ _ _ _ _ z => z.elim⟩⟩
  · rw [if_neg (by rw [hb]; exact Bool.false_ne_true)] at q
    exact en.xc _ _ _ _ _ _ hv' q
end
end BT
namespace PySem.SeqAt
open AutoSeq1 (wpAny_loadPart')
open MeetsSeq
theorem bt_str_eq_declines (b : Str) (u : Tok) (l : Addr) (c : Value) (es : _) (ep : _) (dd : Option Addr) (sl : Array (Option Value)) :
    Meets (Builtin.«str.__eq__» ⟨[.str b u, .ref l], []⟩) (fun _ R s => s.heap.get? l = some ⟨c, dd, .dict es ep, sl⟩ ∧ R (.ok (.ret .notImplemented)) s) :=
  .of_wp fun prog w A R s h => by obtain ⟨hp, g, d, tk, os⟩ := s; obtain ⟨hl, h⟩ := h; wp_walk using wpAny_loadPart' hl, wpAny_load hl; exact ⟨_, rfl, h⟩
theorem bt_dict_eq_declines (l : Addr) (es : _) (ep : _) (dd : Option Addr) (sl : Array (Option Value)) (b : Str) (u : Tok) :
    Meets (Builtin.«dict.__eq__» ⟨[.ref l, .str b u], []⟩) (fun _ R s => s.heap.get? l = some ⟨.type "dict", dd, .dict es ep, sl⟩ ∧ R (.ok (.ret .notImplemented)) s) :=
  .of_wp fun prog w A R s h => by obtain ⟨hp, g, d, tk, os⟩ := s; obtain ⟨hl, h⟩ := h; have f1 := F.sub_str_dict; wp_walk using wpAny_loadPart' hl, wpAny_load hl; exact ⟨_, rfl, h⟩
theorem bt_dict_str {A : Around} {s : Shared} {l : Addr} {o : Obj} {es : _} {ep : _} (b : Str) (u : Tok) (ho : s.heap.get? l = some o) (hx : o.ExactDict) (hd : o.data = .dict es ep) (hu : A.units < cLine) : RcAt A s (.ref l) (.str b u) false := fun prog w E Q h => by
  obtain ⟨cls, dd, data, sl⟩ := o
  obtain ⟨hc, h2, h3⟩ := hx
  simp only at hc hd
  subst hc hd
  exact rc_eq_decline_or (k := false) ⟨_, ho, rfl⟩ (typeIs_str s b u) (by decide) F.sub_str_dict F.slot_dict_eq F.slot_str_eq_refl
    (fun _ hq => call_meets F.slot_dict_eq ⟨_, ho, rfl⟩ F.entry_dict_eq (F.args_dict_eq_2 _ _) (bt_dict_eq_declines l es ep dd sl b u) ⟨ho, hq⟩)
    (fun _ hq => call_meets F.slot_str_eq_refl (typeIs_str s b u) F.entry_str_eq (F.args_str_eq_2 _ _) (bt_str_eq_declines b u l (.type "dict") es ep dd sl) ⟨ho, hq⟩)
    (fun _ hq => wpAny_of_eq (rfl : isSame (.ref l) (.str b u) = pure false) hq) (.inr hu) h
end PySem.SeqAt
namespace BT
open PySem PySem.Spec L2
open PyProof.Rows hiding St
/-- == of what may be a dict, and a text -/
def kEqD (K : PySem.W.Frag) : KR2 := fun x y G M R => kEqv false K x y G M R ∨ ∃ (a : Addr) (s : Str) (kvs : List (Key × V)), x = .ref a ∧ y = .str s ∧ At G M a (.dK kvs) ∧ R (.bl false) G M
theorem kop_eqD {X : Cx} (hu : X.A.units + 64 < cLine) : KOp X (compareOp .Eq) (kEqD X.K) := fun pins s σ H x y v u Q G M R I rx ry hv h hR => by
  rcases h with h | ⟨a, t, kvs, rfl, rfl, ha, h⟩
  · exact kop_eq hu pins s σ H x y v u Q G M R I rx ry hv h hR
  · cases (show v = Value.ref a from rx)
    obtain ⟨tk, e⟩ := (show ∃ t', u = Value.str t t' from ry)
    subst e
    obtain ⟨_, _, vs, _, o, es, ep, h1, h2, h3, _⟩ := (show ObjOk X.prog X.w H s.heap a (.dK kvs) from I.hok a _ (hv.at ha))
    exact SeqAt.bt_dict_str t tk h1 h2 h3 (by omega) _ _ _ _ ⟨.bl false, H, I, rfl, hR _ G M H hv h⟩
end BT
set_option Elab.async false
set_option linter.all false
set_option maxRecDepth 100000
set_option maxHeartbeats 4000000
namespace BT
open PySem PySem.Spec L2
open PyProof.Rows hiding St
/-! ### written data: what a display of constants lays -/
inductive XD where
  | non
  | bl (b : Bool)
  | int (i : Int)
  | str (s : Str)
  | list (l : List XD)
  | tup (l : List XD)
  | dict
mutual
inductive Rp (K : PySem.W.Frag) (G : Hp) (Mx : Mem) : V → XD → Prop where
  | non : Rp K G Mx .non .non
  | bl (b : Bool) : Rp K G Mx (.bl b) (.bl b)
  | int (i : Int) : Rp K G Mx (.int i) (.int i)
  | str (s : Str) : Rp K G Mx (.str s) (.str s)
  | list {a : Addr} {vs : List V} {ds : List XD} : ((a, HO.lst vs) ∈ Mx ∨ G a = some (.lst vs)) → RpA K G Mx vs ds → Rp K G Mx (.ref a) (.list ds)
  | tup {a : Addr} {vs : List V} {ds : List XD} : SqT K G a vs → RpA K G Mx vs ds → Rp K G Mx (.ref a) (.tup ds)
  | dict {a : Addr} : ((a, HO.dK []) ∈ Mx ∨ G a = some (.dK [])) → Rp K G Mx (.ref a) .dict
inductive RpA (K : PySem.W.Frag) (G : Hp) (Mx : Mem) : List V → List XD → Prop where
  | nil : RpA K G Mx [] []
  | cons {v : V} {d : XD} {vs : List V} {ds : List XD} : Rp K G Mx v d → RpA K G Mx vs ds → RpA K G Mx (v :: vs) (d :: ds)
end
section
variable {K : PySem.W.Frag} {G G' : Hp} {Mx My M : Mem}
mutual
theorem Rp.mono (f : ∀ a o, ((a, o) ∈ Mx ∨ G a = some o) → ((a, o) ∈ My ∨ G' a = some o)) (e : Ex G G') : ∀ {v : V} {d : XD}, Rp K G Mx v d → Rp K G' My v d
  | _, _, .non => .non
  | _, _, .bl b => .bl b
  | _, _, .int b => .int b
  | _, _, .str b => .str b
  | _, _, .list h hs => .list (f _ _ h) (RpA.mono f e hs)
  | _, _, .tup h hs => .tup (ex_t e h) (RpA.mono f e hs)
  | _, _, .dict h => .dict (f _ _ h)
theorem RpA.mono (f : ∀ a o, ((a, o) ∈ Mx ∨ G a = some o) → ((a, o) ∈ My ∨ G' a = some o)) (e : Ex G G') : ∀ {vs : List V} {ds : List XD}, RpA K G Mx vs ds → RpA K G' My vs ds
  | _, _, .nil => .nil
  | _, _, .cons h hs => .cons (Rp.mono f e h) (RpA.mono f e hs)
end
theorem Rp.up {v : V} {d : XD} (e : Ex G G') (s : ∀ x, x ∈ Mx → x ∈ My) (h : Rp K G Mx v d) : Rp K G' My v d := h.mono (fun a o q => q.elim (fun z => .inl (s _ z)) (fun z => .inr (e _ _ z))) e
theorem RpA.up {v : List V} {d : List XD} (e : Ex G G') (s : ∀ x, x ∈ Mx → x ∈ My) (h : RpA K G Mx v d) : RpA K G' My v d := h.mono (fun a o q => q.elim (fun z => .inl (s _ z)) (fun z => .inr (e _ _ z))) e
theorem Rp.ex {v : V} {d : XD} (e : Ex G G') (h : Rp K G Mx v d) : Rp K G' Mx v d := h.up e fun _ z => z
theorem RpA.ex {v : List V} {d : List XD} (e : Ex G G') (h : RpA K G Mx v d) : RpA K G' Mx v d := h.up e fun _ z => z
theorem RpA.len : ∀ {vs : List V} {ds : List XD}, RpA K G Mx vs ds → vs.length = ds.length
  | _, _, .nil => rfl
  | _, _, .cons _ hs => by rw [List.length_cons, List.length_cons, hs.len]
theorem RpA.app : ∀ {vs ws : List V} {ds es : List XD}, RpA K G Mx vs ds → RpA K G Mx ws es → RpA K G Mx (vs ++ ws) (ds ++ es)
  | _, _, _, _, .nil, h => h
  | _, _, _, _, .cons a b, h => .cons a (b.app h)
theorem RpA.get : ∀ {vs : List V} {ds : List XD} {i : Nat}, RpA K G Mx vs ds → i < vs.length → ∃ v d, vs[i]? = some v ∧ ds[i]? = some d ∧ Rp K G Mx v d
  | _, _, _, .nil, h => by simp at h
  | _, _, 0, .cons a _, _ => ⟨_, _, rfl, rfl, a⟩
  | _, _, i + 1, .cons _ b, h => by
    obtain ⟨v, d, h1, h2, h3⟩ := RpA.get (i := i) b (by simpa using h)
    exact ⟨v, d, by simpa using h1, by simpa using h2, h3⟩
/-- cells of its own -/
def NewC (G : Hp) (Mx : Mem) : Prop := (∀ x, x ∈ Mx → G x.1 = none) ∧ (Mx.map (·.1)).Nodup
theorem NewC.nil : NewC G [] := ⟨fun _ z => (nomatch z), List.nodup_nil⟩
def frzA (G : Hp) (Mx : Mem) : Hp := Mx.foldr (fun x g => upd g x.1 x.2) G
theorem frzA_wk : ∀ (Mx : Mem) (G : Hp) (M : Mem), Wk G (Mx ++ M) (frzA G Mx) M
  | [], G, M => Wk.refl
  | x :: Mx, G, M => by
    refine Wk.trans (Wk.perm (M' := Mx ++ x :: M) ?_) ((frzA_wk Mx G (x :: M)).trans Wk.frz0)
    exact List.perm_middle
theorem frzA_ne : ∀ {Mx : Mem} {G : Hp} {a : Addr}, (∀ x, x ∈ Mx → x.1 ≠ a) → frzA G Mx a = G a
  | [], _, _, _ => rfl
  | x :: Mx, G, a, h => by
    show upd (frzA G Mx) x.1 x.2 a = _
    rw [upd_ne (Ne.symm (h x List.mem_cons_self))]
    exact frzA_ne fun y hy => h y (List.mem_cons_of_mem _ hy)
theorem frzA_ex (h : NewC G Mx) : Ex G (frzA G Mx) := fun a o e => by
  rw [frzA_ne]
  · exact e
  · intro x hx z
    rw [← z, h.1 x hx] at e
    cases e
theorem frzA_at : ∀ {Mx : Mem} {G : Hp}, (Mx.map (·.1)).Nodup → ∀ x, x ∈ Mx → frzA G Mx x.1 = some x.2
  | [], _, _, _, h => nomatch h
  | y :: Mx, G, hn, x, h => by
    rw [List.map_cons, List.nodup_cons] at hn
    show upd (frzA G Mx) y.1 y.2 x.1 = _
    rcases List.mem_cons.mp h with rfl | h
    · exact upd_same
    · rw [upd_ne (fun z => hn.1 (by rw [← z]; exact List.mem_map.mpr ⟨x, h, rfl⟩))]
      exact frzA_at hn.2 x h
theorem Rp.frz {v : V} {d : XD} (n : NewC G Mx) (h : Rp K G Mx v d) : Rp K (frzA G Mx) [] v d := h.mono (fun a o q => q.elim (fun z => .inr (frzA_at n.2 (a, o) z)) (fun z => .inr (frzA_ex n _ _ z))) (frzA_ex n)
theorem RpA.frz {v : List V} {d : List XD} (n : NewC G Mx) (h : RpA K G Mx v d) : RpA K (frzA G Mx) [] v d := h.mono (fun a o q => q.elim (fun z => .inr (frzA_at n.2 (a, o) z)) (fun z => .inr (frzA_ex n _ _ z))) (frzA_ex n)
theorem frzA_fr {p : Addr} (h : Fr G (Mx ++ M) p) : Fr (frzA G Mx) M p := ⟨by rw [frzA_ne (fun x hx => h.2 x (List.mem_append.mpr (.inl hx)))]; exact h.1, fun x hx => h.2 x (List.mem_append.mpr (.inr hx))⟩
/-- a cell more, a tuple more -/
theorem NewC.cell {p : Addr} {o : HO} (h : NewC G Mx) (f : Fr G (Mx ++ M) p) : NewC G ((p, o) :: Mx) := by
  refine ⟨fun x hx => ?_, ?_⟩
  · rcases List.mem_cons.mp hx with rfl | hx
    · exact f.1
    · exact h.1 x hx
  · rw [List.map_cons, List.nodup_cons]
    refine ⟨fun z => ?_, h.2⟩
    obtain ⟨y, hy, e⟩ := List.mem_map.mp z
    exact f.2 y (List.mem_append.mpr (.inl hy)) e
theorem NewC.tup {p : Addr} {o : HO} (h : NewC G Mx) (f : Fr G (Mx ++ M) p) : NewC (upd G p o) Mx :=
  ⟨fun x hx => by rw [upd_ne (f.2 x (List.mem_append.mpr (.inl hx)))]; exact h.1 x hx, h.2⟩
/-- an expression that lays written data -/
def LitOk (K : PySem.W.Frag) (te : KE) (σ : St) (G : Hp) (d : XD) : Prop := ∀ (G0 : Hp) (My M : Mem) (R : KR) (E : KX), Ex G G0 → NewC G0 My → (∀ v G' Mx, Ex G0 G' → NewC G' (Mx ++ My) → Rp K G' Mx v d → R v G' (Mx ++ (My ++ M))) → te σ G0 (My ++ M) R E
def LitsOk (K : PySem.W.Frag) (ta : KA) (σ : St) (G : Hp) (ds : List XD) : Prop := ∀ (G0 : Hp) (My M : Mem) (R : List V → Hp → Mem → Prop) (E : KX), Ex G G0 → NewC G0 My → (∀ vs G' Mx, Ex G0 G' → NewC G' (Mx ++ My) → RpA K G' Mx vs ds → R vs G' (Mx ++ (My ++ M))) → ta σ G0 (My ++ M) R E
end
section
variable {K : PySem.W.Frag} {σ : St} {G : Hp} {te ta tb : KE} {tas : KA} {ds es : List XD} {d : XD}
theorem lit_pure {v : V} (h : ∀ G0 M R E, Ex G G0 → R v G0 M → te σ G0 M R E) (r : Rp K G [] v d) : LitOk K te σ G d := fun G0 My M R E e n q => h G0 _ R E e (q v G0 [] Ex.refl n (r.ex e))
theorem lit_int {i : Int} : LitOk K (kC (.int i)) σ G (.int i) := lit_pure (fun _ _ _ _ _ q => q) (.int i)
theorem lit_bl {i : Bool} : LitOk K (kC (.bl i)) σ G (.bl i) := lit_pure (fun _ _ _ _ _ q => q) (.bl i)
theorem lit_str {i : Str} : LitOk K (kC (.str i)) σ G (.str i) := lit_pure (fun _ _ _ _ _ q => q) (.str i)
theorem lit_non : LitOk K (kC .non) σ G .non := lit_pure (fun _ _ _ _ _ q => q) .non
theorem lit_neg {i : Int} : LitOk K (kUn kNeg (kC (.int i))) σ G (.int (-i)) := lit_pure (fun _ _ _ _ _ q => q) (.int _)
theorem lit_var {i : Nat} {v : V} (h : σ[i]? = some (some v)) (r : Rp K G [] v d) : LitOk K (kVar i) σ G d := lit_pure (v := v) (fun _ _ _ _ _ q => by unfold kVar; rw [h]; exact q) r
theorem lit_dict : LitOk K kDNew σ G .dict := fun G0 My M R E e n q p fp => q _ G0 [(p, .dK [])] Ex.refl (n.cell fp) (.dict (.inl List.mem_cons_self))
theorem lits_nil : LitsOk K kNil σ G [] := fun G0 My M R E e n q => q [] G0 [] Ex.refl n .nil
theorem lits_cons (h : LitOk K te σ G d) (hs : LitsOk K tas σ G ds) : LitsOk K (kCons te tas) σ G (d :: ds) := fun G0 My M R E e n q =>
  h G0 My M _ E e n fun v G1 Mx e1 n1 r1 => by
    rw [← List.append_assoc]
    refine hs G1 (Mx ++ My) M _ E (e.trans e1) n1 fun vs G2 Mz e2 n2 r2 => ?_
    have := q (v :: vs) G2 (Mz ++ Mx) (e1.trans e2) (by rw [List.append_assoc]; exact n2) (.cons (r1.up e2 fun x hx => List.mem_append.mpr (.inr hx)) (r2.up Ex.refl fun x hx => List.mem_append.mpr (.inl hx)))
    simpa [List.append_assoc] using this
theorem lit_tup (h : LitsOk K tas σ G ds) (hl : ds.length ≤ 1000) : LitOk K (kTup tas) σ G (.tup ds) := fun G0 My M R E e n q =>
  h G0 My M _ E e n fun vs G1 Mx e1 n1 r1 => ⟨Nat.le_trans (by rw [r1.len]; exact hl) (by decide), fun p fp => by
    rw [← List.append_assoc] at fp
    exact q _ _ Mx (e1.trans (Ex.new fp)) (n1.tup fp) (.tup sqt_new (r1.ex (Ex.new fp)))⟩
theorem lit_lst (h : LitsOk K tas σ G ds) (hl : ds.length ≤ 1000) : LitOk K (kLst tas) σ G (.list ds) := fun G0 My M R E e n q =>
  h G0 My M _ E e n fun vs G1 Mx e1 n1 r1 => ⟨Nat.le_trans (by rw [r1.len]; exact hl) (by decide), fun p fp => by
    rw [← List.append_assoc] at fp
    exact q _ _ ((p, .lst vs) :: Mx) e1 (n1.cell fp) (.list (.inl List.mem_cons_self) (r1.up Ex.refl fun x hx => List.mem_cons_of_mem _ hx))⟩
theorem lit_add (h1 : LitOk K ta σ G (.list ds)) (h2 : LitOk K tb σ G (.list es)) (hl : (ds ++ es).length ≤ 1000) : LitOk K (kBin kAdd ta tb) σ G (.list (ds ++ es)) := fun G0 My M R E e n q =>
  h1 G0 My M _ E e n fun v G1 Mx e1 n1 r1 => by
    rw [← List.append_assoc]
    refine h2 G1 (Mx ++ My) M _ E (e.trans e1) n1 fun u G2 Mz e2 n2 r2 => ?_
    cases r1 with
    | @list a xs _ a1 s1 =>
      cases r2 with
      | @list b ys _ a2 s2 =>
        have l1 := s1.len
        have l2 := s2.len
        refine ⟨xs, ys, ?_, ?_, Nat.le_trans (m := 1000) (by rw [List.length_append] at hl; omega) (by decide), fun p fp => ?_⟩
        · rcases a1 with z | z
          · exact .inl (by simp [z])
          · exact .inr (e2 _ _ z)
        · rcases a2 with z | z
          · exact .inl (by simp [z])
          · exact .inr z
        · have fp' : Fr G2 ((Mz ++ (Mx ++ My)) ++ M) p := by simpa [List.append_assoc] using fp
          have := q (.ref p) G2 ((p, .lst (xs ++ ys)) :: (Mz ++ Mx)) (e1.trans e2) (by
            have := n2.cell (o := .lst (xs ++ ys)) fp'
            simpa [List.append_assoc] using this) (.list (.inl List.mem_cons_self) ((s1.up e2 fun x hx => by simp [hx]).app (s2.up Ex.refl fun x hx => by simp [hx])))
          simpa [List.append_assoc] using this
theorem lit_pow {i j : Int} (h : CPow i j) : LitOk K (kBin (kI CPow fun i j => .int (i ^ j.toNat)) (kC (.int i)) (kC (.int j))) σ G (.int (i ^ j.toNat)) := lit_pure (v := .int (i ^ j.toNat)) (fun _ _ _ _ _ q => ⟨h, q⟩) (.int _)
/-- one of written things is picked by a draw -/
theorem lit_pick {M : Mem} {R : KR} {E : KX} {i n : Nat} {p : Addr} {c s L : Int} (h : LitOk K te σ G (.list ds)) (hv : σ[i]? = some (some (.ref p))) (hn : M[n]? = some (p, pool c s)) (hs : PoolOk s) (hL : L = ds.length) (h0 : 0 < ds.length) (h1 : ds.length ≤ 1000)
    (q : ∀ v d G' Mx c' s', Ex G G' → NewC G' Mx → d ∈ ds → Rp K G' Mx v d → PoolOk s' → R v G' (Mx ++ M.set n (p, pool c' s'))) : kBin (kIx K) te (kCall (S_law_take K) (kCons (kVar i) (kCons (kC (.int L)) kNil))) σ G M R E := by
  refine h G [] M _ E Ex.refl NewC.nil fun v G1 Mx e1 n1 r1 => ?_
  rw [List.append_nil] at n1
  cases r1 with
  | @list a vs _ ha hs1 =>
    have hl := hs1.len
    rw [List.nil_append]
    simp only [kCall, kCons, kVar, hv]
    have hn2 : (Mx ++ M)[Mx.length + n]? = some (p, pool c s) := by rw [List.getElem?_append_right (by omega), Nat.add_sub_cancel_left]; exact hn
    refine ⟨p, L, Mx.length + n, c, s, rfl, rfl, hn2, hs, by omega, by omega, fun r c' s' r0 r1 hs' => ?_⟩
    obtain ⟨j, rfl⟩ := Int.eq_ofNat_of_zero_le r0
    obtain ⟨y, d, hy, hd, ry⟩ := hs1.get (i := j) (by omega)
    have hne : (a, HO.lst vs) ∈ Mx → (a, HO.lst vs) ∈ (Mx ++ M).set (Mx.length + n) (p, pool c' s') := fun z => by
      rw [List.set_append_right _ _ (by omega)]; exact List.mem_append.mpr (.inl z)
    refine ⟨vs, y, ?_, atI_nat hy, ?_⟩
    · rcases ha with z | z
      · exact .inl (.inl (hne z))
      · exact .inl (.inr (sql_of z))
    · have := q y d G1 Mx c' s' e1 n1 (List.mem_of_getElem? hd) ry hs'
      rw [List.set_append_right _ _ (by omega), Nat.add_sub_cancel_left]; exact this
end
/-! what is known of written things -/
def XD.ty : XD → PT
  | .non => .non | .bl _ => .bool | .int _ => .int | .str _ => .str | .list _ => .list | .tup _ => .tuple | .dict => .dict
theorem rp_ty {K : PySem.W.Frag} {G : Hp} {v : V} {d : XD} (h : Rp K G [] v d) (M : Mem) : TyK K G M v d.ty := by
  cases h with
  | non => exact ty_non
  | bl b => exact ty_bl
  | int i => exact ty_int
  | str s => exact ty_str
  | list h _ =>
    rcases h with z | z
    · cases z
    · exact ty_lst (.inr (sql_of z))
  | tup h _ => exact ty_tup h
  | dict h =>
    rcases h with z | z
    · cases z
    · exact ty_dict (.inr z)
mutual
def XD.toD : XD → Option PyData
  | .non => some .none
  | .bl b => some (.bool b)
  | .int i => some (.int i)
  | .str s => some (.str s)
  | .list l => (XD.toDs l).map .list
  | .tup l => (XD.toDs l).map .tuple
  | .dict => none
def XD.toDs : List XD → Option (List PyData)
  | [] => some []
  | x :: l => match x.toD, XD.toDs l with
    | some d, some ds => some (d :: ds)
    | _, _ => none
end
mutual
theorem rp_dp {K : PySem.W.Frag} {G : Hp} : ∀ {v : V} {d : XD} {e : PyData}, Rp K G [] v d → d.toD = some e → Dp K G v e
  | _, _, _, .non, h => by cases h; exact .non
  | _, _, _, .bl b, h => by cases h; exact .bl b
  | _, _, _, .int b, h => by cases h; exact .int b
  | _, _, _, .str b, h => by cases h; exact .str b
  | _, _, e, .list (ds := ds) ha hs, h => by
    have h : (XD.toDs ds).map PyData.list = some e := h
    obtain ⟨es, h1, rfl⟩ := Option.map_eq_some_iff.mp h
    rcases ha with z | z
    · cases z
    · exact .lst (sql_of z) (rpa_dp hs h1)
  | _, _, e, .tup (ds := ds) ha hs, h => by
    have h : (XD.toDs ds).map PyData.tuple = some e := h
    obtain ⟨es, h1, rfl⟩ := Option.map_eq_some_iff.mp h
    exact .tup ha (rpa_dp hs h1)
  | _, _, _, .dict _, h => by cases h
theorem rpa_dp {K : PySem.W.Frag} {G : Hp} : ∀ {vs : List V} {ds : List XD} {es : List PyData}, RpA K G [] vs ds → XD.toDs ds = some es → DpAll K G vs es
  | _, _, _, .nil, h => by cases h; exact .nil
  | _, _, es, .cons (d := d) (ds := ds) a b, h => by
    have h : (match d.toD, XD.toDs ds with | some d, some ds => some (d :: ds) | _, _ => none) = some es := h
    split at h
    · rename_i d' ds' e1 e2
      cases h
      exact .cons (rp_dp a e1) (rpa_dp b e2)
    · cases h
end
end BT
namespace BT
open PySem PySem.Spec L2
theorem LitOk.use {K : PySem.W.Frag} {te : KE} {σ : St} {G : Hp} {d : XD} {M : Mem} {R : KR} {E : KX} (h : LitOk K te σ G d) (q : ∀ v G' Mx, Ex G G' → NewC G' Mx → Rp K G' Mx v d → R v G' (Mx ++ M)) : te σ G M R E :=
  h G [] M R E Ex.refl NewC.nil fun v G' Mx e n r => by rw [List.append_nil] at n; exact q v G' Mx e n r
theorem Wk.dropP {G : Hp} (Mx : Mem) {M : Mem} : Wk G (Mx ++ M) G M := fun H hv => ⟨hv.ex, fun x hx => hv.mu x (List.mem_append.mpr (.inr hx)), hv.nd.sublist ((List.sublist_append_right Mx M).map _), fun x hx => hv.dj x (List.mem_append.mpr (.inr hx))⟩
end BT
set_option Elab.async false
set_option linter.all false
set_option maxRecDepth 100000
set_option maxHeartbeats 4000000
namespace BT
open PySem PySem.Spec L2
open PyProof.Rows hiding St
/-! ### dicts that are walked: locked while it goes on -/
def unl (G : Hp) (d : Addr) : Hp := fun a => if a = d then none else G a
theorem unl_upd {G : Hp} {d : Addr} {o : HO} (h : G d = none) : unl (upd G d o) d = G := by
  funext a
  unfold unl
  by_cases e : a = d
  · rw [if_pos e, e, h]
  · rw [if_neg e, upd_ne e]
theorem hv_lock {G : Hp} {M1 M2 : Mem} {H : Hp} {d : Addr} {u o : HO} (h : Hv G (M1 ++ (d, u) :: M2) H) : Hv (upd G d o) (M1 ++ M2) (upd H d o) := by
  have hg : G d = none := h.dj (d, u) (by simp)
  have h2 := Wk.drop (G := G) M1 (x := (d, u)) (M2 := M2) H h
  have nd : ∀ x, x ∈ M1 ++ M2 → x.1 ≠ d := fun x hx z => by
    have nd := h.nd
    rw [List.map_append, List.map_cons, List.nodup_append] at nd
    obtain ⟨n1, n2, n3⟩ := nd
    rcases List.mem_append.mp hx with q | q
    · exact n3 x.1 (List.mem_map.mpr ⟨x, q, rfl⟩) d (by simp) z
    · rw [List.nodup_cons] at n2
      exact n2.1 (by rw [← z]; exact List.mem_map.mpr ⟨x, q, rfl⟩)
  refine ⟨fun b v e => ?_, fun x hx => ?_, h2.nd, fun x hx => ?_⟩
  · by_cases hb : b = d
    · subst hb; rw [upd_same] at e ⊢; exact e
    · rw [upd_ne hb] at e ⊢; exact h.ex b v e
  · rw [upd_ne (nd x hx)]; exact h2.mu x hx
  · rw [upd_ne (nd x hx)]; exact h2.dj x hx
theorem hv_unlock {G : Hp} {M : Mem} {H : Hp} {d : Addr} {u o : HO} (h : Hv G M H) (hd : G d = some o) : Hv (unl G d) ((d, u) :: M) (upd H d u) := by
  have nd : ∀ x, x ∈ M → x.1 ≠ d := fun x hx z => by
    have := h.dj x hx
    rw [z, hd] at this; cases this
  refine ⟨fun b v e => ?_, fun x hx => ?_, ?_, fun x hx => ?_⟩
  · unfold unl at e
    by_cases hb : b = d
    · rw [if_pos hb] at e; cases e
    · rw [if_neg hb] at e; rw [upd_ne hb]; exact h.ex b v e
  · rcases List.mem_cons.mp hx with rfl | hx
    · exact upd_same
    · rw [upd_ne (nd x hx)]; exact h.mu x hx
  · rw [List.map_cons, List.nodup_cons]
    refine ⟨fun z => ?_, h.nd⟩
    obtain ⟨x, hx, e⟩ := List.mem_map.mp z
    exact nd x hx e
  · unfold unl
    rcases List.mem_cons.mp hx with rfl | hx
    · rw [if_pos rfl]
    · rw [if_neg (nd x hx)]; exact h.dj x hx
/-- a statement with a dict locked -/
def kLock (t : KS) : KS := fun D σ G M => ∃ (M1 M2 : Mem) (d : Addr) (kvs : List (Key × V)), M = M1 ++ (d, .dK kvs) :: M2 ∧ ∀ od : Obj, G d = none →
  t { nx := fun σ' G' M' => G' d = some (.frz od (.dK kvs)) ∧ D.nx σ' (unl G' d) ((d, .dK kvs) :: M'), rt := fun v G' M' => G' d = some (.frz od (.dK kvs)) ∧ D.rt v (unl G' d) ((d, .dK kvs) :: M'), bk := fun _ _ _ => False, ct := fun _ _ _ => False, xc := fun _ _ _ _ _ => False } σ (upd G d (.frz od (.dK kvs))) (M1 ++ M2)
section
variable {X : Cx} {W : WX} {pos : Pos} {o i e f tg : Expr}
theorem js_lock {s : Stmt} {t : KS} (h : JS X W s t) : JS X W s (kLock t) :=
  ps_mono (ps_lock h) fun D σ H ⟨G, M, d, hv, ⟨M1, M2, dd, kvs, e, q⟩, en⟩ => by
    subst e
    exact ⟨dd, .dK kvs, hv.mu (dd, .dK kvs) (by simp), trivial, fun od => ⟨upd G dd (.frz od (.dK kvs)), M1 ++ M2, _, hv_lock hv, q od (hv.dj (dd, .dK kvs) (by simp)), ⟨fun σ' G' M' H' hv' ⟨e1, e2⟩ => ⟨hv'.ex _ _ e1, en.nx σ' _ _ _ (hv_unlock hv' e1) e2⟩, fun v G' M' H' hv' ⟨e1, e2⟩ => ⟨hv'.ex _ _ e1, en.rt v _ _ _ (hv_unlock hv' e1) e2⟩, fun _ _ _ _ _ z => z.elim, fun _ _ _ _ _ z => z.elim, fun _ _ _ _ _ _ _ z => z.elim⟩⟩⟩
/-- an expression with a dict locked -/
def kLockE (t : KE) : KE := fun σ G M R E => ∃ (M1 M2 : Mem) (d : Addr) (kvs : List (Key × V)), M = M1 ++ (d, .dK kvs) :: M2 ∧ ∀ od : Obj, G d = none →
  t σ (upd G d (.frz od (.dK kvs))) (M1 ++ M2) (fun v G' M' => G' d = some (.frz od (.dK kvs)) ∧ R v (unl G' d) ((d, .dK kvs) :: M')) (fun _ _ _ _ => False)
theorem je_lock {t : KE} (h : JE X W e t) : JE X W e (kLockE t) :=
  pe_mono (pe_lock h) fun σ H Q ⟨G, M, R, E, hv, ⟨M1, M2, dd, kvs, e, q⟩, hR, hE⟩ => by
    subst e
    exact ⟨dd, .dK kvs, hv.mu (dd, .dK kvs) (by simp), trivial, fun od => ⟨upd G dd (.frz od (.dK kvs)), M1 ++ M2, _, _, hv_lock hv, q od (hv.dj (dd, .dK kvs) (by simp)), fun v G' M' H' hv' ⟨e1, e2⟩ => ⟨hv'.ex _ _ e1, hR v _ _ _ (hv_unlock hv' e1) e2⟩, fun _ _ _ _ _ _ z => z.elim⟩⟩
/-! what is walked -/
def srcK (d : Addr) (o : Obj) (kvs : List (Key × V)) : Src := ⟨kvs.length, fun i => .inl (match kvs[i]? with | some p => kV p.1 | none => .non), fun G M => G d = some (.frz o (.dK kvs))⟩
def srcVs (d : Addr) (o : Obj) (kvs : List (Key × V)) : Src := ⟨kvs.length, fun i => .inl (match kvs[i]? with | some p => p.2 | none => .non), fun G M => G d = some (.frz o (.dK kvs))⟩
def srcI (d : Addr) (o : Obj) (kvs : List (Key × V)) : Src := ⟨kvs.length, fun i => .inr (match kvs[i]? with | some p => [kV p.1, p.2] | none => []), fun G M => G d = some (.frz o (.dK kvs))⟩
theorem goes_K {d : Addr} {o : Obj} {kvs : List (Key × V)} : Goes (srcK d o kvs) (Itk d o kvs) where
  go := fun i G M H hv ok hi => ⟨hv.ex _ _ ok, hi⟩
  stop := fun i G M H hv ok hi => ⟨hv.ex _ _ ok, hi⟩
  yld := fun i G M H x H' hv ok hi y => by
    obtain ⟨e1, k, v, e2, e3⟩ := y
    show x = (match kvs[i]? with | some p => kV p.1 | none => .non) ∧ H' = H
    rw [e2]; exact ⟨e3, e1⟩
theorem goes_Vs {d : Addr} {o : Obj} {kvs : List (Key × V)} : Goes (srcVs d o kvs) (Itd d o kvs) where
  go := fun i G M H hv ok hi => ⟨hv.ex _ _ ok, hi⟩
  stop := fun i G M H hv ok hi => ⟨hv.ex _ _ ok, hi⟩
  yld := fun i G M H x H' hv ok hi y => by
    obtain ⟨e1, k, e2⟩ := y
    show x = (match kvs[i]? with | some p => p.2 | none => .non) ∧ H' = H
    rw [e2]; exact ⟨rfl, e1⟩
theorem goes_I {d : Addr} {o : Obj} {kvs : List (Key × V)} : Goes (srcI d o kvs) (Iti d o kvs) where
  go := fun i G M H hv ok hi => ⟨hv.ex _ _ ok, hi⟩
  stop := fun i G M H hv ok hi => ⟨hv.ex _ _ ok, hi⟩
  yld := fun i G M H x H' hv ok hi y => by
    obtain ⟨T, k, v, e1, e2, e3, e4⟩ := y
    show ∃ T, x = .ref T ∧ H T = none ∧ H' = upd H T (.tup (match kvs[i]? with | some p => [kV p.1, p.2] | none => []))
    rw [e1]; exact ⟨T, e2, e3, e4⟩
def kiKeys (t : KE) : KI := fun σ G M R E => t σ G M (fun x G M => match x with
  | .ref d => ∃ o kvs, G d = some (.frz o (.dK kvs)) ∧ R (srcK d o kvs) G M
  | _ => False) E
def kiVals (t : KE) : KI := fun σ G M R E => t σ G M (fun x G M => match x with
  | .ref d => ∃ o kvs, G d = some (.frz o (.dK kvs)) ∧ R (srcVs d o kvs) G M
  | _ => False) E
def kiItems (t : KE) : KI := fun σ G M R E => t σ G M (fun x G M => match x with
  | .ref d => ∃ o kvs, G d = some (.frz o (.dK kvs)) ∧ R (srcI d o kvs) G M
  | _ => False) E
theorem ji_keys {t : KE} (h : JE X W e t) : JI X W tg e (kiKeys t) :=
  pi_mono (pi_keys h) fun σ H Q ⟨G, M, R, E, hv, h, hR, hE⟩ => ⟨G, M, _, E, hv, h, fun x G1 M1 H1 hv1 q => by
    match x, q with
    | .ref d, ⟨o, kvs, q1, q2⟩ => exact ⟨d, o, rfl, .inl ⟨kvs, hv1.ex _ _ q1, hR _ G1 M1 H1 hv1 q2 _ goes_K⟩⟩, hE⟩
theorem ji_vals {t : KE} {apos cpos : Pos} (h : JE X W e t) (hbase : attributeBase e "values" X.env (eval e X.env) = eval e X.env := by rfl) (hline : (apos.endLine == cpos.line) = true := by rfl) : JI X W tg (.Call (.Attribute e "values" apos) [] [] cpos) (kiVals t) :=
  pi_mono (pi_values h hbase hline) fun σ H Q ⟨G, M, R, E, hv, h, hR, hE⟩ => ⟨G, M, _, E, hv, h, fun x G1 M1 H1 hv1 q => by
    match x, q with
    | .ref d, ⟨o, kvs, q1, q2⟩ => exact ⟨d, o, kvs, rfl, hv1.ex _ _ q1, hR _ G1 M1 H1 hv1 q2 _ goes_Vs⟩, hE⟩
theorem ji_items {t : KE} {apos cpos tpos : Pos} {elts : List Expr} {kk : Nat} (h : JE X W e t) (hbase : attributeBase e "items" X.env (eval e X.env) = eval e X.env := by rfl) (hline : (apos.endLine == cpos.line) = true := by rfl) : JI X W (.Tuple elts kk tpos) (.Call (.Attribute e "items" apos) [] [] cpos) (kiItems t) :=
  pi_mono (pi_items h hbase hline) fun σ H Q ⟨G, M, R, E, hv, h, hR, hE⟩ => ⟨G, M, _, E, hv, h, fun x G1 M1 H1 hv1 q => by
    match x, q with
    | .ref d, ⟨o, kvs, q1, q2⟩ => exact ⟨d, o, kvs, rfl, hv1.ex _ _ q1, hR _ G1 M1 H1 hv1 q2 _ goes_I⟩, hE⟩
theorem ex_lock {G : Hp} {d : Addr} {o : HO} (h : G d = none) : Ex G (upd G d o) := fun a u e => by
  rw [upd_ne (fun z => by rw [z, h] at e; cases e)]; exact e
/-- d[k], also while d is walked -/
def kDGetF : KR2 := fun x y G M R => match x with
  | .ref a => ∃ (kvs : List (Key × V)) (k : Key) (v : V), (At G M a (.dK kvs) ∨ ∃ od, G a = some (.frz od (.dK kvs))) ∧ y = kV k ∧ valV kvs k = some v ∧ R v G M
  | _ => False
theorem je_dgetF {ta tb : KE} (hu : X.A.units + 64 < cLine) (ha : JE X W o ta) (hb : JE X W i tb) (hs : NoSl i := by exact fun _ _ => rfl) : JE X W (.Subscript o i pos) (kBin kDGetF ta tb) :=
  pe_mono (pe_dget (by omega) ha hb hs) fun σ H Q ⟨G, M, R, E, hv, h, hR, hE⟩ => ⟨G, M, _, E, hv, h, fun x G1 M1 H1 hv1 q1 => ⟨G1, M1, _, E, hv1, q1, fun y G2 M2 H2 hv2 q2 => by
    match x, q2 with
    | .ref a, ⟨kvs, k, v, q3, q4, q5, q6⟩ =>
      subst q4
      refine ⟨a, v, rfl, ?_, hR _ G2 M2 H2 hv2 q6⟩
      rw [← q5]
      rcases q3 with q3 | ⟨od, q3⟩
      · exact DGet.k (hv2.at q3)
      · exact .inl ⟨kvs, k, .inr ⟨od, hv2.ex _ _ q3⟩, rfl, rfl⟩, hE⟩, hE⟩
/-- list(d.items()) -/
def kItems (t : KE) : KE := fun σ G M R E => t σ G M (fun x G M => match x with
  | .ref d => ∃ kvs, At G M d (.dK kvs) ∧ ∀ (G' : Hp) (p : Addr) (ts : List Addr), Ex G G' → Fr G' M p → ts.length = kvs.length → (∀ (i : Nat) (q : Key × V), kvs[i]? = some q → ∃ T, ts[i]? = some T ∧ G' T = some (.tup [kV q.1, q.2])) → R (.ref p) G' ((p, .lst (ts.map V.ref)) :: M)
  | _ => False) E
theorem paired_get2 {α β : Type} {F : α → β → Prop} : ∀ {xs : List α} {ys : List β}, Paired F xs ys → ∀ {i : Nat} {y : β}, ys[i]? = some y → ∃ x, xs[i]? = some x ∧ F x y
  | _, _, .nil, _, _, h => by simp at h
  | _, _, .cons r t, 0, y, h => by
    have e := Option.some.inj h
    subst e
    exact ⟨_, rfl, r⟩
  | _, _, .cons r t, i + 1, y, h => by
    obtain ⟨x, h1, h2⟩ := paired_get2 t (i := i) (y := y) (by simpa using h)
    exact ⟨x, by simpa using h1, h2⟩
theorem je_items {t : KE} {p apos cpos pos : Pos} (hm : X.mg "list" = none) (he : JE X W e t) (hc : X.calm = true := by rfl) (hg : Gl X "list" := by rfl) (hv : bootBuiltins "list" = some (.type "list") := by decide +kernel) (hbase : attributeBase e "items" X.env (eval e X.env) = eval e X.env := by rfl) (hline : (apos.endLine == cpos.line) = true := by rfl)
    (hs : starEach [.Call (.Attribute e "items" apos) [] [] cpos] X.env = (false, eval (.Call (.Attribute e "items" apos) [] [] cpos) X.env) :: starEach [] X.env := by rfl) :
    JE X W (.Call (.Name "list" p) [.Call (.Attribute e "items" apos) [] [] cpos] [] pos) (kItems t) :=
  pe_mono (LiI.pe_listItems hc he hg hm hv hbase hline hs) fun σ H Q ⟨G, M, R, E, hv, h, hR, hE⟩ => ⟨G, M, _, E, hv, h, fun x G1 M1 H1 hv1 q => by
    match x, q with
    | .ref d, ⟨kvs, q1, q2⟩ =>
      refine ⟨d, kvs, rfl, hv1.at q1, fun H' p ts ex hp hts hpt hpl pr => ?_⟩
      obtain ⟨G', hG'⟩ : ∃ G' : Hp, G' = fun a => if a ∈ ts then H' a else G1 a := ⟨_, rfl⟩
      have eG : Ex G1 G' := fun a u e => by
        rw [hG']
        show (if a ∈ ts then H' a else G1 a) = some u
        rw [if_neg (fun z => by have := hts a z; rw [hv1.ex a u e] at this; cases this)]; exact e
      have gp : G1 p = none := by
        cases e : G1 p with
        | none => rfl
        | some u => rw [hv1.ex p u e] at hp; cases hp
      have mp : ∀ x, x ∈ M1 → x.1 ≠ p := fun x hx z => by have := hv1.mu x hx; rw [z, hp] at this; cases this
      have mt : ∀ x, x ∈ M1 → x.1 ∉ ts := fun x hx z => by have := hv1.mu x hx; rw [hts _ z] at this; cases this
      have fp : Fr G' M1 p := ⟨by rw [hG']; show (if p ∈ ts then _ else _) = none; rw [if_neg hpt]; exact gp, mp⟩
      have hv2 : Hv G' ((p, .lst (ts.map V.ref)) :: M1) H' := by
        refine ⟨fun a u e => ?_, fun x hx => ?_, ?_, fun x hx => ?_⟩
        · rw [hG'] at e
          have e : (if a ∈ ts then H' a else G1 a) = some u := e
          split at e
          · exact e
          · exact ex a u (hv1.ex a u e)
        · rcases List.mem_cons.mp hx with rfl | hx
          · exact hpl
          · exact ex _ _ (hv1.mu x hx)
        · rw [List.map_cons, List.nodup_cons]
          refine ⟨fun z => ?_, hv1.nd⟩
          obtain ⟨x, hx, e⟩ := List.mem_map.mp z
          exact mp x hx e
        · rw [hG']
          rcases List.mem_cons.mp hx with rfl | hx
          · show (if p ∈ ts then _ else _) = none
            rw [if_neg hpt]; exact gp
          · show (if x.1 ∈ ts then _ else _) = none
            rw [if_neg (mt x hx)]; exact hv1.dj x hx
      refine hR _ G' _ H' hv2 (q2 G' p ts eG fp (Paired.length pr) fun i kv hkv => ?_)
      obtain ⟨T, h1, h2⟩ := paired_get2 pr hkv
      refine ⟨T, h1, ?_⟩
      rw [hG']
      show (if T ∈ ts then H' T else _) = _
      rw [if_pos (List.mem_of_getElem? h1)]; exact h2, hE⟩
end
end BT
set_option Elab.async false
set_option linter.all false
set_option maxRecDepth 100000
set_option maxHeartbeats 4000000
namespace BT
open PySem PySem.Spec L2
open PyProof.Rows hiding St
/-! ### a statement at which some heap is known to be as told -/
def kH (t : KS) : KS := fun D σ G M => (∃ H, Hv G M H) → ∃ G' M', Wk G M G' M' ∧ t D σ G' M'
theorem js_h {X : Cx} {W : WX} {s : Stmt} {t : KS} (h : JS X W s t) : JS X W s (kH t) := ps_mono h fun D σ H ⟨G, M, d, hv, q, en⟩ => by
  obtain ⟨G', M', wk, q⟩ := q ⟨H, hv⟩
  exact ⟨G', M', d, wk H hv, q, en⟩
/-- a cell may be frozen -/
theorem Hv.fz {G : Hp} {M : Mem} {p : Addr} {o : HO} (h : ∃ H, Hv G ((p, o) :: M) H) : Ex G (upd G p o) := by
  obtain ⟨H, hv⟩ := h
  exact Ex.new' (hv.dj (p, o) List.mem_cons_self)
theorem Hv.no {G : Hp} {M : Mem} {x : Addr × HO} (h : ∃ H, Hv G M H) (hx : x ∈ M) : G x.1 = none := by
  obtain ⟨H, hv⟩ := h
  exact hv.dj x hx
theorem Hv.ne {G : Hp} {M : Mem} {x y : Addr × HO} {i j : Nat} (h : ∃ H, Hv G M H) (hx : M[i]? = some x) (hy : M[j]? = some y) (n : i ≠ j) : x.1 ≠ y.1 := fun e => by
  obtain ⟨H, hv⟩ := h
  exact n (nodup_at M j y.1 y.2 x i hv.nd hy hx e)
end BT
namespace BT
open PySem PySem.Spec L2
theorem Hv.newc {G : Hp} {Mx M : Mem} (h : ∃ H, Hv G (Mx ++ M) H) : NewC G Mx := by
  obtain ⟨H, hv⟩ := h
  exact ⟨fun x hx => hv.dj x (List.mem_append.mpr (.inl hx)), hv.nd.sublist ((List.sublist_append_left Mx M).map _)⟩
end BT
set_option Elab.async false
set_option linter.all false
set_option maxRecDepth 100000
set_option maxHeartbeats 4000000
namespace BT
open PySem PySem.Spec L2
open PyProof.Rows hiding St
/-! ### defs that are called where no guard stands; repr -/
structure GFn (P : Program) (w : World) (K : PySem.W.Frag) (mg : Str → Option Value) (base : Heap) (k : Nat) (f : Addr) (fd : FuncData) (ps : List Str) (sp : Sp) : Prop where
  len : ∀ vs H Q E, sp vs H Q E → vs.length = ps.length
  go : ∀ {A : Around} {outer : List Env} {s : Shared} {H : Hp} {args : Args} {us : List Value} {vs : List V} {Q : VK} {E : XK}, A.guards = some [] → Room k A → Env0 P w K mg base A outer s H → BindsTo s fd args (ps.zip us) → Vals vs us → sp vs H Q E →
    codeAny (model P w) A (.call (.ref f) args) (CR (L2.CX P w) outer P w H s Q E) s
section
variable {P : Program} {w : World} {K : PySem.W.Frag} {mg : Str → Option Value} {base : Heap} {k : Nat} {f : Addr} {fd : FuncData} {ps : List Str} {sp : Sp}
theorem GFn.mono {j : Nat} (F : GFn P w K mg base j f fd ps sp) (h : j ≤ k) : GFn P w K mg base k f fd ps sp := ⟨F.len, fun g r => F.go g (r.mono h)⟩
theorem FnOk.guarded (F : FnOk P w K mg base (L2.CX P w) k f fd ps sp) : GFn P w K mg base k f fd ps sp := ⟨F.len, fun _ r e b v q => F.run _ _ _ _ _ _ _ _ _ r e b v q⟩
theorem gfn_mk {x qual : Str} {st : Stmt} {N : List Str} (F : Fun K x qual st f fd) (sc : FnScope N ps (defScope st)) (len : ∀ vs H Q E, sp vs H Q E → vs.length = ps.length)
    (hbd : ∀ (cdv : Value) (A : Around) (outer : List Env) (s : Shared) (H : Hp) (vs : List V) (Q : VK) (E : XK), A.guards = some [] → Room k (A.deeper (envOfC qual (defScope st) s.heap.objs.size f cdv)) → sp vs H Q E →
      ∃ t, PSs (cxOf (L2.CX P w) P w K mg base N qual (defScope st) f cdv A outer s H E) (defBody st) t ∧ t { nx := fun _ H' => Q .non H', rt := Q } (start N vs) H) : GFn P w K mg base (k + 1) f fd ps sp := by
  obtain ⟨o1, o2, o3, o4, o5, o6, cdv, o8, o9, rfl, lk, hcd⟩ := F.ex
  refine ⟨len, fun {A outer s H args us vs Q E} gd rm en bd rv hsp => ?_⟩
  have hln := len _ _ _ _ hsp
  have inK : K.In s.heap := en.mod.kin.keeps fun a u z => (en.bs a u z).1
  have nolim : s.heap.NoLimit := en.mod.nolimit.keeps fun a u z => (en.bs a u z).1
  have kinds : ∀ z ∈ ps.zip us, (defScope st).names.lookup z.1 = some .local ∨ ((defScope st).names.lookup z.1 = some .cell ∧ ((cellsFrom (s.heap.objs.size + 1) (defScope st).names []).lookup z.1).isSome = true) := fun z hz => by
    obtain ⟨n, u⟩ := z
    rcases sc.par n (List.of_mem_zip hz).1 with h | h
    · exact .inl h
    · exact .inr ⟨h, PySem.W.cellsFrom_some _ _ _ (.inl h)⟩
  refine codeAny_call_function rm.depth (inK _ _ lk) rfl sc.co sc.gen rfl (PySem.W.codeRec_of inK hcd) (bd _ _ _ _ ?_)
  refine wpAny_newFunctionEnv_cells sc.kind kinds fun env hen s1 x => ?_
  subst hen
  refine ⟨nolim.keeps x.toInCall.keep, codeAny_func ?_⟩
  obtain ⟨t, ht, hq⟩ := hbd cdv A outer s H vs Q E gd (rm.deeper _) hsp
  have I := inv_start (CX := L2.CX P w) (E := E) sc rm.hd en hln rv x
  have fin : ∀ {σ' : St} {H' : Hp} {v : V} {u : Value} {s' : Shared}, Inv (cxOf (L2.CX P w) P w K mg base N qual (defScope st) f cdv A outer s H E) [] σ' H' s' → RelV v u → Q v H' → CE outer P w H s Q u s' := fun J r2 q => ⟨_, _, J.os, J.bare, J.base, J.hok, r2, q⟩
  refine wpAny_mono (ht.run [] s1 (start N vs) H _ I hq) (fun fl s' hs => ?_) fun e s' hs => hs
  match fl, hs with
  | .ret u, ⟨v, σ', H', J, r2, q⟩ => exact fin J r2 q
  | .next, ⟨σ', H', J, q⟩ => exact fin (v := V.non) (u := Value.none) J rfl q
  | .brk, ⟨_, _, _, z⟩ => exact z.elim
  | .cont, ⟨_, _, _, z⟩ => exact z.elim
/-- a def with its promise, of this kind -/
theorem gfn_ok {x qual : Str} {st : Stmt} {N : List Str} {S : KSp} (F : Fun K x qual st f fd) (sc : FnScope N ps (defScope st)) (len : ∀ vs G M R X, S vs G M R X → vs.length = ps.length)
    (hbody : ∀ (cdv : Value) (A : Around) (outer : List Env) (s : Shared) (H : Hp) (E : XK), A.guards = some [] → Room k (A.deeper (envOfC qual (defScope st) s.heap.objs.size f cdv)) →
      ∃ t, JSs (cxOf (L2.CX P w) P w K mg base N qual (defScope st) f cdv A outer s H E) (fun c d _ H => E c d H) (defBody st) t ∧
        ∀ vs G M R Z, S vs G M R Z → t { nx := fun _ G M => wkR R .non G M, rt := wkR R, xc := fun c d _ G M => wkX Z c d G M } (start N vs) G M) : GFn P w K mg base (k + 1) f fd ps (lift S) := by
  refine gfn_mk F sc (fun vs H Q E ⟨G, M, R, Z, _, h, _⟩ => len vs G M R Z h) fun cdv A outer s H vs Q E hg hr ⟨G, M, R, Z, hv, h, hR, hZ⟩ => ?_
  obtain ⟨t, j, q⟩ := hbody cdv A outer s H E hg hr
  exact ⟨_, j, G, M, _, hv, q vs G M R Z h, ⟨fun σ G M H hv h => (h H hv).elim fun G' h => h.elim fun M' h => hR _ G' M' H h.1 h.2, fun v G M H hv h => (h H hv).elim fun G' h => h.elim fun M' h => hR _ G' M' H h.1 h.2, fun _ _ _ _ _ z => z.elim, fun _ _ _ _ _ z => z.elim, fun c a σ G M H hv ⟨G', M', w, q⟩ => hZ c a G' M' H (w H hv) q⟩⟩
structure DefG (P : Program) (w : World) (K : PySem.W.Frag) (mg : Str → Option Value) (base : Heap) (lev : Nat) (x : Str) (ps : List Str) (S : KSp) : Prop where
  ex : ∃ f fd, GFn P w K mg base lev f fd ps (lift S) ∧ mg x = some (.ref f) ∧ PySem.W.keepIn K (.ref f) = true ∧ Binds K fd ps []
end
section
variable {X : Cx} {W : WX} {pos p : Pos} {e : Expr} {es : List Expr} {x : Str} {k lev : Nat} {ps : List Str} {S : KSp} {t : KA}
theorem je_callG (D : DefG X.prog X.w X.K X.mg X.base lev x ps S) (hg0 : X.A.guards = some []) (hr : Room k X.A) (tk : Takes X W) (ha : JA X W (e :: es) t) (hl : lev ≤ k := by decide) (hg : Gl X x := by rfl)
    (hdb : (x == ("__debug__" : Str)) = false := by decide) (he : starEach (e :: es) X.env = (false, eval e X.env) :: starEach es X.env := by rfl) (hpl : (backTo pos (starEach es X.env)).any (·.1) = false := by rfl) :
    JE X W (.Call (.Name x p) (e :: es) [] pos) (kCall S t) := by
  obtain ⟨f, fd, F, hm, hk, hb⟩ := D.ex
  have F := F.mono hl
  refine ⟨fun pins s σ H Q I ⟨G, M, R, E, hv, h, hR, hE⟩ => ?_⟩
  refine wpAny_Call_Name_kw (ld_glob I hg hm ?_ hdb)
  refine PySem.W.callWith_K (h₀ := X.base) I.ok.mod.kin hk (thn (ha.run pos pins s σ H (fun vs H1 => lift S vs H1 Q (WE W σ)) I ?_) fun us s1 ⟨vs, H1, I1, r, q⟩ => ⟨I1.kIn, ?_⟩) he hpl
  · exact ⟨G, M, _, E, hv, h, fun vs G1 M1 H1 hv1 q => ⟨G1, M1, R, E, hv1, q, hR, hE⟩, hE⟩
  have hl : us.length = ps.length := by rw [← r.length]; exact F.len _ _ _ _ q
  have b := hb s1 us I1.kIn (by rw [List.append_nil]; exact hl)
  rw [List.append_nil] at b
  refine wpAny_call (codeAny_mono (F.go (args := ⟨us, []⟩) hg0 hr I1.env0 b r q) fun r s' hq => ?_)
  match r, hq with
  | .error e, hq => exact passAt tk σ pins H1 s1 e s' I1 hq
  | .ok (.ret u), hq => exact I1.after hq
  | .ok .next, hq => exact False.elim hq
  | .ok .brk, hq => exact False.elim hq
  | .ok .cont, hq => exact False.elim hq
/-- repr of data -/
def kRepr (K : PySem.W.Frag) : KC := fun vs G M R => match vs with
  | [x] => ∃ (d : PyData), DatAt K G M x d ∧ d.showable = true ∧ d.hasDict = false ∧ d.depth ≤ 30 ∧ d.shown.length ≤ sizeLine ∧ R (.str d.shown) G M
  | _ => False
theorem kc_repr (hg : X.A.guards = some []) (hu : X.A.units + 64 < cLine) : KCall X (.builtin "repr") (kRepr X.K) := by
  intro pins s σ H vs us Q I r h
  obtain ⟨G, M, R, hv, h, hR⟩ := h
  match vs, h with
  | [x], ⟨d, h1, h2, h3, h4, h5, h6⟩ =>
    have hd := hv.dat h1
    cases r with
    | @cons _ u _ _ rx rr =>
      cases rr
      have fin : ∀ (h' : Heap) (t : Tok) (tk : Tok), (∀ b o, s.heap.get? b = some o → h'.get? b = some o) → EP X pins σ Q (.str d.shown t) { s with heap := h', toks := tk } := fun h' t tk hk => ⟨.str d.shown, H, I.kept hk, ⟨t, rfl⟩, hR _ _ _ _ hv h6⟩
      cases hd with
      | non =>
        obtain rfl : u = Value.none := rx
        exact PySem.P.repr_of_none (fin _ _ _ fun _ _ z => z)
      | bl b =>
        obtain rfl : u = Value.bool b := rx
        exact PySem.P.repr_of_bool (fin _ _ _ fun _ _ z => z)
      | int i =>
        obtain ⟨t, rfl⟩ := (show ∃ t, u = Value.int i t from rx)
        exact PySem.P.repr_of_int (of_decide_eq_true (by simpa [PyData.showable] using h2)) (fin _ _ _ fun _ _ z => z)
      | str z =>
        obtain ⟨t, rfl⟩ := (show ∃ t, u = Value.str z t from rx)
        exact PySem.P.repr_of_str (fin _ _ _ fun _ _ z => z) h5
      | @lst a xs ds h7 h8 =>
        obtain rfl : u = Value.ref a := rx
        obtain ⟨as, rd⟩ := Dp.reads I (.list ds) (.ref a) (.ref a) (.lst h7 h8) rfl
        exact repr_of_reads' rd h2 (fun z => by rw [h3] at z; cases z) hg (by omega) (fun _ _ z => z) (fun h' u tk hk => fin _ _ _ hk) h5
      | @tup a xs ds h7 h8 =>
        obtain rfl : u = Value.ref a := rx
        obtain ⟨as, rd⟩ := Dp.reads I (.tuple ds) (.ref a) (.ref a) (.tup h7 h8) rfl
        exact repr_of_reads' rd h2 (fun z => by rw [h3] at z; cases z) hg (by omega) (fun _ _ z => z) (fun h' u tk hk => fin _ _ _ hk) h5
end
end BT
namespace BT
open PySem PySem.Spec L2
open PyProof.Rows hiding St
/-- the law's own call, where nothing but the script is known of the heap -/
theorem call_known {P : Program} {w : World} {K : PySem.W.Frag} {mg mb : Str → Option Value} {k : Nat} {fa a : Addr} {fd : FuncData} {x : Str} {sp : Sp} {s : Shared} {us : List Value} {ns : List Int} (inK : K.In s.heap) (gl : s.heap.Ns mainGlobals mg) (bi : s.heap.Ns builtinsNs mb) (boot : ∀ x : Str, x ≠ "__name__" → mb x = bootBuiltins x)
    (nolim : s.heap.NoLimit) (gens : s.gens = #[]) (hobj : s.heap.get? a = some { cls := .type "list", data := .seq us.toArray }) (rm : Room k callerA) (F : ∀ base : Heap, K.In base → base.Ns mainGlobals mg → GFn P w K mg base k fa fd [x] sp) (bd : ∀ (s : Shared) (u : Value), BindsTo s fd ⟨[u], []⟩ [(x, u)])
    (H : Hp) (only : L2.Only H) (hs : sp [.ref a] H (fun v _ => v = .bl true) fun _ _ _ => False) (hok : HOk P w H s.heap) (one : ∀ b, H b ≠ none → b = a) (own : H a ≠ none → K.lookup a = none) :
    codeAny (model P w) callerA (.call (.ref fa) ⟨[.ref a], []⟩) (fun r s' => r = .ok (.ret (.bool true)) ∧ OldK s.heap s'.heap ∧ s'.os = s.os ∧ AllBare s'.gens) s := by
  have seen : ∀ {b : Addr} {o : Obj}, s.heap.get? b = some o → H b = none → (hidT s.heap H).get? b = some o := fun e z => hidT_get e z
  have nodict : ∀ {b : Addr} {o : Obj} {es : Array DictEntry} {ep : Nat}, s.heap.get? b = some o → o.data = .dict es ep → H b = none := fun {b o es ep} e dd => by
    apply Classical.byContradiction
    intro z
    have ba := one b z
    subst ba
    rw [hobj] at e
    cases e
    exact absurd (show Data.seq us.toArray _ = Data.dict es ep from dd) (by intro y; cases y)
  have ns2 : ∀ {b : Addr} {m : Str → Option Value}, s.heap.Ns b m → (hidT s.heap H).Ns b m := fun ⟨o, es, ep, e, dd, r⟩ => ⟨o, es, ep, seen e (nodict e dd), dd, r⟩
  have inB : K.In (hidT s.heap H) := fun b o e => seen (inK b o e) (by
    apply Classical.byContradiction
    intro z
    have ba := one b z
    subst ba
    rw [own z] at e
    cases e)
  obtain ⟨mc, l1, l2⟩ := nolim
  have md : Mod K mg (hidT s.heap H) := ⟨inB, ns2 gl, ⟨mb, ns2 bi, boot⟩, ⟨mc, ns2 l1, l2⟩⟩
  have en : Env0 P w K mg (hidT s.heap H) callerA [] s H := ⟨rfl, md, fun b o e => of_hidT e, Nat.le_of_eq (hidT_size _ _), trivial, (fun b z => nomatch z), hok, .of_eq gens⟩
  refine codeAny_mono ((F _ inB (ns2 gl)).go (args := ⟨[.ref a], []⟩) (us := [.ref a]) (vs := [.ref a]) rfl rm en (bd s (.ref a)) (.cons rfl .nil) hs) fun r s' h => ?_
  match r, h with
  | .error e, h => exact (cx_none h).elim
  | .ok .next, h => exact False.elim h
  | .ok .brk, h => exact False.elim h
  | .ok .cont, h => exact False.elim h
  | .ok (.ret u), ⟨v, H', h1, h2, un, h3, h4, h5⟩ =>
    have e5 : v = .bl true := h5
    subst e5
    obtain rfl : u = Value.bool true := h4
    refine ⟨rfl, OldK.of_keep fun b o e => ?_, h1, h2⟩
    by_cases z : H b = none
    · exact un.keep b o e z (fun y => nomatch y) (by simp)
    · rcases only b with y | ⟨ob, xs, y⟩
      · exact (z y).elim
      · obtain ⟨e1, _⟩ := hok b _ y
        obtain ⟨e2, _⟩ := h3 b _ (un.frzs b ob _ y)
        rw [e] at e1
        cases e1
        exact e2
theorem law_callG {P : Program} {w : World} {K : PySem.W.Frag} {mg mb : Str → Option Value} {k : Nat} {fa a : Addr} {fd : FuncData} {x : Str} {sp : Sp} {s : Shared} {us : List Value} {ns : List Int} (inK : K.In s.heap) (gl : s.heap.Ns mainGlobals mg) (bi : s.heap.Ns builtinsNs mb) (boot : ∀ x : Str, x ≠ "__name__" → mb x = bootBuiltins x)
    (nolim : s.heap.NoLimit) (gens : s.gens = #[]) (hobj : s.heap.get? a = some { cls := .type "list", data := .seq us.toArray }) (hi : IntsAre us ns) (hl : ns.length ≤ sizeLine) (rm : Room k callerA) (F : ∀ base : Heap, K.In base → base.Ns mainGlobals mg → GFn P w K mg base k fa fd [x] sp)
    (bd : ∀ (s : Shared) (u : Value), BindsTo s fd ⟨[u], []⟩ [(x, u)]) (hs : ∀ H : Hp, L2.Only H → SqL K H a (ns.map V.int) → sp [.ref a] H (fun v _ => v = .bl true) fun _ _ _ => False) :
    codeAny (model P w) callerA (.call (.ref fa) ⟨[.ref a], []⟩) (fun r s' => r = .ok (.ret (.bool true)) ∧ OldK s.heap s'.heap ∧ s'.os = s.os ∧ AllBare s'.gens) s := by
  have rv := L2.vals_ints hi
  by_cases own : K.lookup a = none
  · obtain ⟨H, hH⟩ : ∃ H : Hp, H = fun b => if b = a then some (.frz { cls := .type "list", data := .seq us.toArray } (.lst (ns.map V.int))) else none := ⟨_, rfl⟩
    have at_ : ∀ b, (b = a ∧ H b = some (.frz { cls := .type "list", data := .seq us.toArray } (.lst (ns.map V.int)))) ∨ (b ≠ a ∧ H b = none) := fun b => by
      rw [hH]
      by_cases z : b = a
      · exact .inl ⟨z, if_pos z⟩
      · exact .inr ⟨z, if_neg z⟩
    have atA : H a = some (.frz { cls := .type "list", data := .seq us.toArray } (.lst (ns.map V.int))) := by
      rcases at_ a with h | h
      · exact h.2
      · exact (h.1 rfl).elim
    have only : L2.Only H := fun b => (at_ b).elim (fun h => .inr ⟨_, _, h.2⟩) fun h => .inl h.2
    refine call_known (ns := ns) inK gl bi boot nolim gens hobj rm F bd H only (hs H only (.inl (.inr ⟨_, atA⟩))) (fun b u z => ?_) (fun b z => ?_) fun _ => own
    · rcases at_ b with h | h
      · rw [h.2] at z
        cases z
        rw [h.1]
        exact ⟨hobj, by rw [List.length_map]; exact hl, us, _, rv, hobj⟩
      · rw [h.2] at z
        cases z
    · rcases at_ b with h | h
      · exact h.1
      · exact (z h.2).elim
  · obtain ⟨o, ho⟩ : ∃ o, K.lookup a = some o := by
      cases e : K.lookup a with
      | none => exact (own e).elim
      | some o => exact ⟨o, rfl⟩
    have e := inK a o ho
    rw [hobj] at e
    cases e
    refine call_known (ns := ns) inK gl bi boot nolim gens hobj rm F bd (fun _ => none) (fun _ => .inl rfl) (hs _ (fun _ => .inl rfl) (.inr ⟨_, us.toArray, _, ho, rfl, rfl, rfl, ?_, by simpa using rv⟩)) (fun b u z => nomatch (show (none : Option HO) = some u from z)) (fun b z => (z rfl).elim) fun z => (z rfl).elim
    rw [List.size_toArray, hi.length]
    exact hl
theorem walk_ofG {l : PySem.W.OpenLaw} {n k : Nat} {q : Program} {loose : List Str} {XP : (Str → Option Value) → Heap → Prop} {YP : World → Heap → Prop} {d : DefRec} {K : Params → PySem.W.Frag} {sp : World → Sp} {x : Str} (hn : l.most = some n) (hn2 : n ≤ sizeLine) (hdf : d.params.defaults = []) (rm : Room k callerA)
    (hY : ∀ (w : World) (h : Heap), YP w h → (K w.params).In h) (F : ∀ (w : World) (mg : Str → Option Value) (fa : Addr) (h : Heap), (K w.params).In h → h.Ns mainGlobals mg → mg d.name = some (.ref fa) → ∃ fd : FuncData, (∀ (s : Shared) (u : Value), BindsTo s fd ⟨[u], []⟩ [(x, u)]) ∧ ∀ base : Heap, (K w.params).In base → base.Ns mainGlobals mg → GFn l.prog w (K w.params) mg base k fa fd [x] (sp w))
    (hsp : ∀ (w : World) (H : Hp) (a : Addr) (ns : List Int), ns.length ≤ n → L2.Only H → SqL (K w.params) H a (ns.map V.int) → sp w [.ref a] H (fun v _ => v = .bl true) fun _ _ _ => False) : PySem.W.WalkO q loose XP YP l.row.toRowW d [] (fun f vs => PySem.call f vs) := by
  refine Att.attach_call hn hdf fun w s₀ s₁ mg mb fa o pm cd doc a vs ns G Y ho hd hcd hmg hobj hints hlen hg => ?_
  obtain ⟨fd, hb, hF⟩ := F w mg fa _ (hY w _ Y) G.T.g hmg
  exact law_callG (hY w _ Y) G.T.g G.T.b G.T.builtins G.T.nolimit hg hobj hints (Nat.le_trans hlen hn2) rm hF hb fun H hO hS => hsp w H a ns hlen hO hS
end BT
namespace BT
open PySem PySem.Spec L2
/-! ### data that may be shown -/
structure Sho (p w : Nat) (d : PyData) : Prop where
  s : d.showable = true
  n : d.hasDict = false
  l : d.leavesShort 25 = true
  p : d.depth ≤ p
  w : d.weight ≤ w
theorem Sho.up {p p' w w' : Nat} {d : PyData} (h : Sho p w d) (hp : p ≤ p') (hw : w ≤ w') : Sho p' w' d := ⟨h.s, h.n, h.l, Nat.le_trans h.p hp, Nat.le_trans h.w hw⟩
theorem sho_int {i : Int} (h0 : 0 ≤ i) (h : i < 10 ^ 20) : Sho 0 70 (.int i) := by
  have hl : i.natAbs < 2 ^ 67 := by
    have : (10 : Int) ^ 20 < 2 ^ 67 := by decide
    have e : ((i.natAbs : Nat) : Int) = i := by omega
    have : ((i.natAbs : Nat) : Int) < ((2 ^ 67 : Nat) : Int) := by rw [e]; exact Int.lt_trans h this
    exact Int.ofNat_lt.mp this
  have h67 : i.natAbs ≠ 0 → i.natAbs.log2 < 67 := fun z => (Nat.log2_lt z).mpr hl
  have hlog : i.natAbs.log2 < 67 := by
    by_cases z : i.natAbs = 0
    · rw [z]; decide
    · exact h67 z
  refine ⟨?_, rfl, ?_, Nat.le_refl _, ?_⟩
  · show decide (i.natAbs.log2 < 1920) = true
    exact decide_eq_true (by omega)
  · show decide ((PyData.shown (.int i)).length ≤ 25) = true
    have := PyProof.Rows.toString_length_le h0 (k := 20) (by decide) h
    exact decide_eq_true (Nat.le_trans this (by decide))
  · show (if i == 0 then 0 else i.natAbs.log2 + 1) ≤ 70
    split <;> omega
theorem sho_non : Sho 0 0 .none := ⟨rfl, rfl, rfl, Nat.le_refl _, Nat.le_refl _⟩
theorem sho_bl {b : Bool} : Sho 0 0 (.bool b) := ⟨rfl, rfl, rfl, Nat.le_refl _, Nat.le_refl _⟩
theorem sho_all {p w : Nat} : ∀ {ds : List PyData}, (∀ d, d ∈ ds → Sho p w d) → PyData.showableAll ds = true ∧ PyData.hasDictAll ds = false ∧ PyData.leavesShortAll 25 ds = true ∧ PyData.depthAll ds ≤ p ∧ PyData.weightAll ds ≤ ds.length * (w + 1)
  | [], _ => ⟨rfl, rfl, rfl, Nat.zero_le _, Nat.zero_le _⟩
  | d :: ds, h => by
    obtain ⟨a1, a2, a3, a4, a5⟩ := sho_all fun x hx => h x (List.mem_cons_of_mem _ hx)
    have b := h d List.mem_cons_self
    refine ⟨?_, ?_, ?_, ?_, ?_⟩
    · show (d.showable && PyData.showableAll ds) = true
      rw [b.s, a1]; rfl
    · show (d.hasDict || PyData.hasDictAll ds) = false
      rw [b.n, a2]; rfl
    · show (d.leavesShort 25 && PyData.leavesShortAll 25 ds) = true
      rw [b.l, a3]; rfl
    · show max d.depth (PyData.depthAll ds) ≤ p
      have := b.p; omega
    · show d.weight + 1 + PyData.weightAll ds ≤ (ds.length + 1) * (w + 1)
      have := b.w
      rw [Nat.succ_mul]; omega
theorem sho_list {p w : Nat} {ds : List PyData} (h : ∀ d, d ∈ ds → Sho p w d) : Sho (p + 1) (ds.length * (w + 1)) (.list ds) := by
  obtain ⟨a1, a2, a3, a4, a5⟩ := sho_all h
  exact ⟨a1, a2, a3, Nat.succ_le_succ a4, a5⟩
theorem sho_tup {p w : Nat} {ds : List PyData} (h : ∀ d, d ∈ ds → Sho p w d) : Sho (p + 1) (ds.length * (w + 1)) (.tuple ds) := by
  obtain ⟨a1, a2, a3, a4, a5⟩ := sho_all h
  exact ⟨a1, a2, a3, Nat.succ_le_succ a4, a5⟩
theorem repr_sho {K : PySem.W.Frag} {G : Hp} {M : Mem} {R : KR} {x : V} {d : PyData} {p w : Nat} (h : DatAt K G M x d) (s : Sho p w d) (hp : p ≤ 30) (hw : w ≤ 600000) (q : R (.str d.shown) G M) : kRepr K [x] G M R :=
  ⟨d, h, s.s, s.n, Nat.le_trans s.p hp, Nat.le_trans (PyData.shown_le 25 (by decide) d s.l) (Nat.le_trans (m := (25 + 2) * 600000 + 25) (Nat.add_le_add_right (Nat.mul_le_mul_left _ (Nat.le_trans s.w hw)) _) (by decide)), q⟩
end BT
set_option Elab.async false
set_option linter.all false
set_option maxRecDepth 100000
set_option maxHeartbeats 4000000
/-! sorted(set(xs)), xs a list of ints -/
namespace BT
open PySem PySem.Spec L2
open PyProof.Rows hiding St
section
variable {P : Program} {w : World} {A : Around} {E : Value → Shared → Prop} {s : Shared}
/-- a set that was made just now -/
def setO (b : Bool) : Obj := { cls := .type "set", dict := none, data := .set #[] 0 (.fresh 0 0 b) }
def withO (s : Shared) (o : Obj) : Shared := { s with heap := s.heap.push o }
set_option maxHeartbeats 3200000 in
theorem set_of_ints {l : Addr} {xs : Array Value} (ns : List Int) {Q : Value → Shared → Prop} (quiet : A.handled = none) (isL : s.heap.IsList l xs) (isI : IntsAre xs.toList ns) (few : ns.length + 1 < scanBound)
    (fin : ∀ (h' : Heap) (tk c : Nat), SetR w h' s.heap.objs.size (fun j => decide (j ∈ ns)) c → c ≤ ns.length → (∀ b o, s.heap.get? b = some o → h'.get? b = some o) → Q (.ref s.heap.objs.size) { s with heap := h', toks := tk }) :
    wpAny (model P w) A (call (.type "set") [.ref l]) Q E s := by
  have sameN : xs.size = ns.length := by
    have z := IntsAre.length isI
    rwa [Array.length_toList] at z
  obtain ⟨b, hb⟩ : ∃ b, b = !w.params.followText "set-order" := ⟨_, rfl⟩
  obtain ⟨i0, i1, i2⟩ := PySem.F.called_set.mro
  have i3 := PySem.F.called_set.made
  have i4 := PySem.F.called_set.sub
  refine wpAny_call (codeAny_of_tree (show wpAny _ _ (callAny (.type "set") _) _ _ _ from wpAny_pure ⟨Code.quiet_builtin _ (by decide +kernel), codeAny_builtin PySem.F.entry_type_call ?_⟩))
  rw [Around.under_plain (weight_type_call_type "set" [.ref l] []) rfl]
  have i5 := PySem.F.called_set.notType
  have i6 := PySem.F.called_set.canCreate
  have i7 := PySem.F.typeCall_set_1 (.ref l)
  iterate 20 (try (any_goals (first | assumption | wp_step)))
  refine codeAny_mono (code_set_led1 (.ref l) (E := E) (Q₁ := fun v s1 => v = .ref s.heap.objs.size ∧ s1 = withO s (setO b)) ⟨rfl, by rw [hb]; rfl⟩) fun r1 s1 hr1 => ?_
  match r1, hr1 with
  | .error _, z => exact z
  | .ok (.ret v1), z =>
    obtain ⟨rfl, rfl⟩ := z
    obtain ⟨hp0, hhp0⟩ : ∃ h, h = s.heap.push (setO b) := ⟨_, rfl⟩
    have at0 : hp0.get? s.heap.objs.size = some (setO b) := by rw [hhp0]; exact Heap.get?_push_size _ rfl
    have old0 : ∀ x o, s.heap.get? x = some o → hp0.get? x = some o := fun x o e => by rw [hhp0]; exact Heap.get?_push_of_some _ e
    have sz0 : hp0.objs.size = s.heap.objs.size + 1 := by rw [hhp0]; exact Heap.size_push ..
    have ew : withO s (setO b) = { s with heap := hp0 } := by rw [hhp0]; rfl
    rw [ew]
    have ty0 : Shared.TypeIs { s with heap := hp0 } (.ref s.heap.objs.size) "set" := ⟨_, at0, rfl⟩
    have j1 := PySem.F.called_set.init.lookup
    have j2 := PySem.F.called_set.init.bind (.ref s.heap.objs.size)
    iterate 20 (try (any_goals (first | assumption | wp_step)))
    refine codeAny_mono (codeAny_call_builtin (R := wants (fun v2 s2 => v2 = .none ∧ ∃ (h2 : Heap) (k2 c2 : Nat), s2 = { s with heap := h2, toks := k2 } ∧ SetR w h2 s.heap.objs.size (fun j => decide (j ∈ ns)) c2 ∧ c2 ≤ ns.length ∧ ∀ x o, s.heap.get? x = some o → h2.get? x = some o) E) PySem.F.called_set.init.plain PySem.F.entry_set_init (check_set_init_1 ty0 ?_)) fun r2 s2 hr2 => ?_
    · obtain ⟨ol, hol, cl0, n0, da0⟩ := isL
      obtain ⟨k1, k2, k3, k4⟩ := ol
      dsimp only at cl0 da0
      subst cl0 da0
      have lst0 : hp0.get? l = some { cls := .type "list", dict := k2, data := .seq xs n0, slots := k4 } := old0 _ _ hol
      have m1 := PySem.F.sub_list_set
      have m2 := PySem.F.sub_list_frozenset
      have m3 : ((Value.type "list") == (Value.type "dict")) = false := by decide
      have lst1 : hp0.IsList l xs := ⟨_, lst0, rfl, n0, rfl⟩
      unfold Builtin.«set.__init__» noKeywords Builtin.Frozenset.updateFrom
      generalize itE : pyIter = IT
      wp_walk
      subst itE
      refine wpAny_pyIter_list lst1 (wpAny_bind (wpAny_runValue ?_))
      have ltL : l < s.heap.objs.size := Heap.lt_size hol
      have nh : A.in1.in1.in1.handled = none := by simp [quiet]
      have neL : l ≠ hp0.objs.size := by rw [sz0]; exact Nat.ne_of_lt (Nat.lt_succ_of_lt ltL)
      have notIn : s.heap.objs.size ∉ [hp0.objs.size, l] := by
        rw [sz0]
        simp only [List.mem_cons, List.not_mem_nil, or_false, not_or]
        exact And.intro (Nat.ne_of_lt (Nat.lt_succ_self _)) (Nat.ne_of_gt ltL)
      have isV : ∀ (i : Nat) (v : Value), xs[i]? = some v → ∃ k t, ns[i]? = some k ∧ v = .int k t := fun i v hv => by
        have lt : i < ns.length := by rw [← sameN]; exact (Array.getElem?_eq_some_iff.mp hv).1
        obtain ⟨t, e⟩ := PyProof.Rows.IntsAre.int_at isI i v (by rw [Array.getElem?_toList]; exact hv)
        refine ⟨ns[i], t, List.getElem?_eq_getElem lt, ?_⟩
        rw [e, List.getD_eq_getElem?_getD, List.getElem?_eq_getElem lt]; rfl
      refine set_update_ints (Walks.list nh _ l neL xs).toS s.heap.objs.size notIn ns sameN few isV (xs.size - 0) 0 _ (by omega) (Nat.zero_le _) ⟨⟨_, Heap.get?_push_size _ rfl, rfl, rfl⟩, lst1.push _⟩ ⟨0, Nat.le_refl 0, setR_new_at ?_⟩ fun s3 c3 mv hc3 hS3 => ?_
      · rw [← hb]; exact Heap.get?_push_of_some _ at0
      · obtain ⟨h3, g3, d3, t3, o3⟩ := s3
        obtain rfl : g3 = s.gens := mv.gens
        obtain rfl : d3 = s.drawn := mv.drawn
        obtain rfl : o3 = s.os := mv.os
        rw [sameN] at hc3
        refine wpAny_pure (show wpAny _ _ (ret Value.none) _ _ _ from wpAny_pure ⟨rfl, h3, t3, c3, rfl, hS3, hc3, fun x o e => ?_⟩)
        have ltX : x < s.heap.objs.size := Heap.lt_size e
        refine mv.heap x o ?_ (Heap.get?_push_of_some _ (old0 _ _ e))
        rw [sz0]
        simp only [List.mem_cons, List.not_mem_nil, or_false, not_or]
        exact And.intro (Nat.ne_of_lt ltX) (Nat.ne_of_lt (Nat.lt_succ_of_lt ltX))
    · match r2, hr2 with
      | .error _, z => exact z
      | .ok (.ret v2), z =>
        obtain ⟨rfl, h2, k2, c2, rfl, z1, z2, z3⟩ := z
        iterate 20 (try (any_goals (first | assumption | wp_step)))
        exact fin _ _ _ z1 z2 z3
      | .ok .next, z => exact z.elim
      | .ok .brk, z => exact z.elim
      | .ok .cont, z => exact z.elim
  | .ok .next, z => exact z.elim
  | .ok .brk, z => exact z.elim
  | .ok .cont, z => exact z.elim
end
section
variable {X : Cx} {W : WX}
def kSortedSet (K : PySem.W.Frag) (t : KE) : KE := fun σ G M R E => t σ G M (fun x G M => match x with
  | .ref a => ∃ ns : List Int, LstAt K G M a (ns.map V.int) ∧ ns.length ≤ 60 ∧ ∀ (p : Addr) (ms : List Int), Fr G M p → ms.Pairwise (· < ·) → (∀ k, k ∈ ms ↔ k ∈ ns) → ms.length ≤ ns.length → R (.ref p) G ((p, .lst (ms.map V.int)) :: M)
  | _ => False) E
theorem je_sortedSet {a : Expr} {ta : KE} {p p2 q pos : Pos} (hm : X.mg "sorted" = none) (hm2 : X.mg "set" = none) (ha : JE X W a ta) (hc : X.calm = true := by rfl) (hg : Gl X "sorted" := by rfl) (hg2 : Gl X "set" := by rfl)
    (na : starEach [a] X.env = (false, eval a X.env) :: starEach [] X.env := by rfl) : JE X W (.Call (.Name "sorted" p) [.Call (.Name "set" p2) [a] [] q] [] pos) (kSortedSet X.K ta) := by
  refine ⟨fun pins s σ H Q I ⟨G, M, R, E, hv, h, hR, hE⟩ => ?_⟩
  refine Call_ (ld_blt I hg hm (show bootBuiltins "sorted" = some (.builtin "sorted") by decide +kernel) ?_)
  refine PyProof.Rows.callWith_builtin1 (PyProof.Rows.args_cons ?_ rfl) rfl rfl
  refine Call_ (ld_blt I hg2 hm2 PyProof.Rows.boot_set ?_)
  refine PyProof.Rows.callWith_type1 (PyProof.Rows.args_cons (thn (ha.run pins s σ H (fun x H1 => ∃ (l : Addr) (ns : List Int), x = V.ref l ∧ SqL X.K H1 l (ns.map V.int) ∧ ns.length ≤ 60 ∧ ∀ (p : Addr) (ms : List Int), H1 p = none → ms.Pairwise (· < ·) → (∀ k, k ∈ ms ↔ k ∈ ns) → ms.length ≤ ns.length → Q (.ref p) (upd H1 p (.lst (ms.map V.int)))) I ?_) fun v s1 ⟨x, H1, I1, r1, q1⟩ => PyProof.Rows.args_nil ?_) na) na rfl
  · refine ⟨G, M, _, E, hv, h, fun x G1 M1 H1 hv1 q => ?_, hE⟩
    match x, q with
    | .ref a, ⟨ns, q1, q2, q3⟩ => exact ⟨a, ns, rfl, hv1.lst q1, q2, fun p ms e0 e1 e2 e3 => hR _ G1 _ _ (hv1.newM e0) (q3 p ms (hv1.fr e0) e1 e2 e3)⟩
  obtain ⟨l, ns, rfl, hq, h1, q1⟩ := q1
  cases r1
  obtain ⟨its, r, pl, hz⟩ := I1.list hq
  refine set_of_ints ns (I1.ok.hd hc) pl.isList (by simpa using r.ints) (by unfold scanBound; omega) fun h' tk c hS hcl hk => ?_
  refine PyProof.Rows.args_nil ?_
  have I2 : Inv X pins σ H1 { s1 with heap := h', toks := tk } := I1.kept hk
  refine sorted_set hS (I1.ok.hd hc) (by omega) fun s' p out ep ms k1 g1 o1 hp hat hin hpw hmem hlen => ?_
  have hfr : H1 p = none := I2.hok.fresh hp
  have hlen2 : (ms.map V.int).length ≤ sizeLine := by rw [List.length_map]; exact sz (by omega)
  have hob : ObjOk X.prog X.w (upd H1 p (.lst (ms.map V.int))) s'.heap p (.lst (ms.map V.int)) := ⟨hlen2, out.toList, ep, vals_of_ints hin, by simpa [seqObj] using hat⟩
  have J := I2.call' (s' := s') (ch := []) o1 (Un.laid k1 hp hfr) (I2.hok.laid k1 hp hob) (by rw [g1]; exact I2.bare) (fun b z => absurd z (by simp))
  exact ⟨.ref p, _, J, rfl, q1 p ms hfr hpw (fun k => by rw [hmem k, decide_eq_true_iff]) (by rw [hlen]; exact hcl)⟩
end
end BT
set_option Elab.async false
set_option linter.all false
set_option maxRecDepth 100000
set_option maxHeartbeats 4000000
/-! texts: str(int), sep.join(list), text.split(sep), f-strings, x or y for texts -/
namespace BT
open PySem PySem.Spec L2
open PyProof.Rows hiding St
section
variable {X : Cx} {W : WX} {e o a b : Expr} {pos apos : Pos} {rest : List Expr}
def kStr : KC := fun vs G M R => match vs with
  | [.int i] => i.natAbs.log2 < 1920 ∧ R (.str (toString i)) G M
  | _ => False
theorem kc_str : KCall X (.type "str") kStr := kcall_of call_str_int fun vs G M R H Q hv h hR => by
  match vs, h with
  | [.int i], ⟨h1, h2⟩ => exact ⟨i, rfl, h1, hR _ G M H hv h2⟩
def kSM1 (r : KM) (to te : KE) : KE := fun σ G M R E => to σ G M (fun x G M => (∃ a, x = .str a) ∧ te σ G M (fun y G M => r x [y] G M R) E) E
def kJoin (K : PySem.W.Frag) : KM := fun x vs G M R => match x, vs with
  | .str a, [.ref p] => ∃ ys : List Str, SeqAt' K G M p (ys.map V.str) ∧ (ys.map (·.length)).sum + ys.length * a.length ≤ 16777216 ∧ R (.str (Txt.join a ys)) G M
  | _, _ => False
theorem je_join {to te : KE} (ho : JE X W o to) (he : JE X W e te) (hs : starEach [e] X.env = [(false, eval e X.env)] := by rfl) (hbase : attributeBase o "join" X.env (eval o X.env) = eval o X.env := by rfl) (hline : (apos.endLine == pos.line) = true := by rfl) :
    JE X W (.Call (.Attribute o "join" apos) [e] [] pos) (kSM1 (kJoin X.K) to te) :=
  pe_mono (pe_join ho he hs hbase hline) fun σ H Q ⟨G, M, R, E, hv, h, hR, hE⟩ => ⟨G, M, _, E, hv, h, fun x G1 M1 H1 hv1 ⟨hx, h1⟩ => ⟨hx, G1, M1, _, E, hv1, h1, fun y G2 M2 H2 hv2 h2 => by
    obtain ⟨a, rfl⟩ := hx
    cases y <;> first
      | exact h2.elim
      | (obtain ⟨ys, h3, h4, h5⟩ := h2
         exact ⟨a, _, ys, rfl, rfl, h3.elim (fun q => .inl (hv2.lst q)) (fun q => .inr (hv2.tup q)), h4, hR _ G2 M2 H2 hv2 h5⟩), hE⟩, hE⟩
def kSplit : KM := fun x vs G M R => match x, vs with
  | .str a, [.str b] => (b.length == 0) = false ∧ a.length + 2 ≤ sizeLine ∧ ∀ p, Fr G M p → R (.ref p) G ((p, .lst ((Txt.split a b).map V.str)) :: M)
  | _, _ => False
theorem je_split {to te : KE} (ho : JE X W o to) (he : JE X W e te) (hs : starEach [e] X.env = [(false, eval e X.env)] := by rfl) (hbase : attributeBase o "split" X.env (eval o X.env) = eval o X.env := by rfl) (hline : (apos.endLine == pos.line) = true := by rfl) :
    JE X W (.Call (.Attribute o "split" apos) [e] [] pos) (kSM1 kSplit to te) :=
  pe_mono (pe_m1 F.slot_str_split F.type_str_split mt_split ho he hs hbase hline) fun σ H Q ⟨G, M, R, E, hv, h, hR, hE⟩ => ⟨G, M, _, E, hv, h, fun x G1 M1 H1 hv1 ⟨hx, h1⟩ => ⟨hx, G1, M1, _, E, hv1, h1, fun y G2 M2 H2 hv2 h2 => by
    obtain ⟨a, rfl⟩ := hx
    cases y <;> first
      | exact h2.elim
      | (obtain ⟨h3, h4, h5⟩ := h2
         exact ⟨a, _, rfl, rfl, h3, h4, fun p hp => hR _ G2 _ _ (hv2.newM hp) (h5 p (hv2.fr hp))⟩), hE⟩, hE⟩
def kFmt (te : KE) : KE := fun σ G M R E => te σ G M (fun x G M => match x with
  | .str y => y.length ≤ sizeLine ∧ R (.str y) G M
  | .int i => i.natAbs.log2 < 1920 ∧ R (.str (toString i)) G M
  | _ => False) E
theorem je_fmt {te : KE} (he : JE X W e te) : JE X W (.FormattedValue e (-1) none pos) (kFmt te) :=
  pe_mono (pe_fmt he) fun σ H Q ⟨G, M, R, E, hv, h, hR, hE⟩ => ⟨G, M, _, E, hv, h, fun x G1 M1 H1 hv1 h1 => by
    cases x <;> first
      | exact h1.elim
      | exact .inl ⟨_, rfl, h1.1, hR _ G1 M1 H1 hv1 h1.2⟩
      | exact .inr ⟨_, rfl, h1.1, hR _ G1 M1 H1 hv1 h1.2⟩, hE⟩
/-- the parts of an f-string -/
def kJs : List KE → Str → St → Hp → Mem → (Str → Hp → Mem → Prop) → KX → Prop
  | [], acc, _, G, M, R, _ => R acc G M
  | t :: ts, acc, σ, G, M, R, E => t σ G M (fun x G M => match x with
    | .str y => (acc ++ y).length ≤ sizeLine ∧ kJs ts (acc ++ y) σ G M R E
    | _ => False) E
def kJoined (ts : List KE) : KE := fun σ G M R E => kJs ts Str.empty σ G M (fun s G M => R (.str s) G M) E
inductive JJ (X : Cx) (W : WX) : List Expr → List KE → Prop where
  | nil : JJ X W [] []
  | cons {e : Expr} {t : KE} {es : List Expr} {ts : List KE} (h : JE X W e t) (r : JJ X W es ts) : JJ X W (e :: es) (t :: ts)
theorem jj_pj {es : List Expr} {ts : List KE} (h : JJ X W es ts) : PJ X es (ts.map (upG W)) := by
  induction h with
  | nil => exact .nil
  | cons h _ ih => exact .cons h ih
theorem js_sim {σ : St} {Q : VK} {R : KR} {E : KX} (hR : ∀ v G M H, Hv G M H → R v G M → Q v H) (hE : ∀ c a G M H, Hv G M H → E c a G M → W c a σ H) : ∀ (ts : List KE) (acc : Str) (G : Hp) (M : Mem) (H : Hp), Hv G M H → kJs ts acc σ G M (fun s G M => R (.str s) G M) E → tJs (ts.map (upG W)) acc σ H (fun out H1 => Q (.str out) H1)
  | [], acc, G, M, H, hv, h => hR _ G M H hv h
  | t :: ts, acc, G, M, H, hv, h => ⟨G, M, _, E, hv, h, fun x G1 M1 H1 hv1 h1 => by
      cases x <;> first
        | exact h1.elim
        | exact ⟨_, rfl, h1.1, js_sim hR hE ts _ G1 M1 H1 hv1 h1.2⟩, hE⟩
theorem je_joined {v1 v2 : Expr} {ts : List KE} (h : JJ X W (v1 :: v2 :: rest) ts) : JE X W (.JoinedStr (v1 :: v2 :: rest) pos) (kJoined ts) :=
  pe_mono (pe_joined (jj_pj h)) fun σ H Q ⟨G, M, R, E, hv, h, hR, hE⟩ => js_sim hR hE ts Str.empty G M H hv h
/-- a text, or else another value -/
def kOrT (t u : KE) : KE := fun σ G M R E => t σ G M (fun x G M => match x with
  | .str y => y.length ≤ sizeLine ∧ if ((y.length : Int) != 0) = true then R x G M else u σ G M R E
  | _ => False) E
theorem je_orT {t u : KE} (ha : JE X W a t) (hb : JE X W (.BoolOp .Or (b :: rest) pos) u) : JE X W (.BoolOp .Or (a :: b :: rest) pos) (kOrT t u) :=
  pe_mono (pe_orT ha hb) fun σ H Q ⟨G, M, R, E, hv, h, hR, hE⟩ => ⟨G, M, _, E, hv, h, fun x G1 M1 H1 hv1 h1 => by
    cases x <;> first
      | exact h1.elim
      | (obtain ⟨h2, h3⟩ := h1
         refine ⟨_, ⟨h2, rfl⟩, ?_⟩
         split
         · rename_i e; rw [if_pos e] at h3; exact hR _ G1 M1 H1 hv1 h3
         · rename_i e; rw [if_neg e] at h3; exact ⟨G1, M1, R, E, hv1, h3, hR, hE⟩), hE⟩
end
end BT
namespace BT
open PySem PySem.Spec L2
open PyProof.Rows hiding St
def storeKs : List Nat := []
/-! ### whole numbers -/
def isIntV : V → Bool
  | .int _ => true
  | _ => false
def withinV (x : V) (lo hi : Int) : Bool := match x with
  | .int i => decide (lo ≤ i) && decide (i ≤ hi)
  | _ => false
def S_is_whole (K : PySem.W.Frag) : KSp := sp1 fun x G M R Z => ∃ T : PT, TyK K G M x T ∧ R (.bl (T == .int)) G M
def S_is_within (K : PySem.W.Frag) : KSp := sp3 fun x y z G M R Z => ∃ (T : PT) (lo hi : Int), y = .int lo ∧ z = .int hi ∧ TyK K G M x T ∧ (T == .int) = isIntV x ∧ R (.bl (withinV x lo hi)) G M
def isStrV : V → Bool
  | .str _ => true
  | _ => false

/-! ### things whose type is known -/
def WOk (K : PySem.W.Frag) (G : Hp) (w : V) : Prop := ∃ S : PT, (∀ M, TyK K G M w S) ∧ (S == .str) = isStrV w
def IOk (K : PySem.W.Frag) (G : Hp) (x : V) : Prop := ∃ T : PT, (∀ M, TyK K G M x T) ∧ (T == .int) = isIntV x

/-! ### kinds and draws -/
structure Kn where
  leaf : Bool
  n : Nat
def Kn.txt (k : Kn) : Str := if k.leaf then "leaf" else "shuffle"
def KnOk (k : Kn) : Prop := k.n ≤ 64 ∧ (k.leaf = true → k.n ≤ 6) ∧ (k.leaf = false → 1 ≤ k.n)
def fac : Nat → Nat
  | 0 => 1
  | n + 1 => (n + 1) * fac n
def manyK (k : Kn) : Nat := if k.leaf then 2 ^ k.n else fac k.n
def prK : List Kn → Nat
  | [] => 1
  | k :: ks => manyK k * prK ks
def knD (k : Kn) : PyData := .tuple [.str k.txt, .int k.n]
def rowAt : Nat → Nat → List Nat
  | 0, _ => []
  | s + 1, n => rowAt s (n / (s + 1)) ++ [n % (s + 1)]
/-- a draw: a leaf's number, or a row -/
inductive Dr | leaf (n : Nat) | row (l : List Nat)
def dOf (k : Kn) (n : Nat) : Dr := if k.leaf then .leaf n else .row (rowAt k.n n)
def drR : List Kn → Nat → List Dr
  | [], _ => []
  | k :: ks, n => dOf k (n % manyK k) :: drR ks (n / manyK k)
def drawsAt (ks : List Kn) (n : Nat) : List Dr := (drR ks.reverse n).reverse
def natsV (l : List Nat) : List V := l.map fun (n : Nat) => V.int (n : Int)
inductive A2 {α β : Type} (r : α → β → Prop) : List α → List β → Prop
  | nil : A2 r [] []
  | cons {a : α} {b : β} {as : List α} {bs : List β} : r a b → A2 r as bs → A2 r (a :: as) (b :: bs)
/-- a draw as it lies: a row's list is one of the cells -/
def DrM (M : Mem) (v : V) (d : Dr) : Prop := match d with
  | .leaf n => v = .int n
  | .row l => ∃ b, v = .ref b ∧ (b, HO.lst (natsV l)) ∈ M
def DrV (K : PySem.W.Frag) (G : Hp) (M : Mem) (v : V) (d : Dr) : Prop := match d with
  | .leaf n => v = .int n
  | .row l => ∃ b, v = .ref b ∧ LstAt K G M b (natsV l)
def KnAt (K : PySem.W.Frag) (G : Hp) (M : Mem) (a : Addr) (ks : List Kn) : Prop := ∃ us, LstAt K G M a us ∧ DpAll K G us (ks.map knD) ∧ (∀ k, k ∈ ks → KnOk k) ∧ ks.length ≤ 1000
def DrAt (K : PySem.W.Frag) (G : Hp) (M : Mem) (a : Addr) (ds : List Dr) : Prop := ∃ us, LstAt K G M a us ∧ A2 (DrV K G M) us ds
def DrOk (k : Kn) (d : Dr) : Prop := match d with
  | .leaf n => k.leaf = true ∧ n < 2 ^ k.n
  | .row l => k.leaf = false ∧ l.length = k.n ∧ ∀ (i v : Nat), l[i]? = some v → v ≤ i
def S_leaves (K : PySem.W.Frag) : KSp := sp1 fun x G M R Z => ∃ n : Nat, x = .int n ∧ n ≤ 1000 ∧ R (.int ((2 ^ n : Nat) : Int)) G M
def S_many_of (K : PySem.W.Frag) : KSp := sp1 fun x G M R Z => ∃ k : Kn, Dp K G x (knD k) ∧ KnOk k ∧ R (.int (manyK k)) G M
def S_how_many (K : PySem.W.Frag) : KSp := sp1 fun x G M R Z => ∃ (a : Addr) (ks : List Kn), x = .ref a ∧ KnAt K G M a ks ∧ R (.int (prK ks)) G M
def S_row_at (K : PySem.W.Frag) : KSp := sp2 fun x y G M R Z => ∃ s n : Nat, x = .int s ∧ y = .int n ∧ s ≤ 64 ∧ ∀ p, Fr G M p → R (.ref p) G ((p, .lst (natsV (rowAt s n))) :: M)
def S_draws_at (K : PySem.W.Frag) : KSp := sp2 fun x y G M R Z => ∃ (a : Addr) (ks : List Kn) (T : PT), x = .ref a ∧ KnAt K G M a ks ∧ TyK K G M y T ∧ (T == .int) = isIntV y ∧
  (∀ n : Nat, y = .int n → n < prK ks → ∀ (p : Addr) (us : List V) (Mn : Mem), A2 (DrM Mn) us (drawsAt ks n) → R (.ref p) G ((p, .lst us) :: (Mn ++ M))) ∧
  (withinV y 0 ((prK ks : Int) - 1) = false → Z (.ref (cl K "NoNumber")) none G M)

/-! ### sizes and needs -/
def highN (m : Nat) : Nat := ((List.range 6).filter fun k => decide (2 ^ k < m)).length
def lastN (m : Nat) : Nat := highN m - 1
def sideN (m : Nat) : Nat := ((List.range 7).filter fun k => decide (1 ≤ k) && decide (m ≤ k * k)).headD 0
def stairN (m p : Nat) : Nat := ((List.range 6).filter fun k => decide (k = lastN m) || decide (p % (2 * 2 ^ k) ≠ 0)).headD 0
def slotA (m st : Nat) : Nat := if st = lastN m then m else 2 * 2 ^ st
def trN : Nat → Nat → List Nat
  | 0, m => [m]
  | f + 1, m => if 4 < m then m :: trN f ((m + 3) / 4) else [m]
def treesN (m : Nat) : List Nat := trN 3 m
def spareK (m most : Nat) : List Kn := List.replicate ((most + sideN m - 1) / sideN m) ⟨false, m + sideN m⟩
def stairL (m most : Nat) : List Nat := lastN m :: (List.range ((most + 1) / 2 - 1)).map fun i => stairN m (i + 1)
def stairsK (m most : Nat) : List Kn := if most = 0 then [] else (stairL m most).map fun st => ⟨false, slotA m st + 2 * 2 ^ st⟩
def groveK (ts : List Nat) (most : Nat) : List Kn := (ts.flatMap fun m => List.replicate m ⟨true, highN m⟩) ++ (List.replicate most (ts.map fun m => (⟨true, highN m⟩ : Kn))).flatten
def kindsK (w : Str) (m most : Nat) : List Kn := if w = "spare" then spareK m most else if w = "stairs" then stairsK m most else if w = "tree" then groveK [m] most else if w = "grove" then groveK (treesN m) most else []
/-- a list of kinds that was told: a cell of its own -/
def KndsR (K : PySem.W.Frag) (G : Hp) (M : Mem) (ks : List Kn) (R : KR) : Prop := ∀ (t : Addr) (us : List V) (G' : Hp), Ex G G' → Fr G' M t → DpAll K G' us (ks.map knD) → R (.ref t) G' ((t, .lst us) :: M)
def natOk (x : V) (m : Nat) (lo hi : Nat) : Prop := x = .int m ∧ lo ≤ m ∧ m ≤ hi
def S_side_of (K : PySem.W.Frag) : KSp := sp1 fun x G M R Z => ∃ m, natOk x m 1 32 ∧ R (.int (sideN m)) G M
def S_high_of (K : PySem.W.Frag) : KSp := sp1 fun x G M R Z => ∃ m, natOk x m 1 32 ∧ R (.int (highN m)) G M
def S_last_of (K : PySem.W.Frag) : KSp := sp1 fun x G M R Z => ∃ m, natOk x m 1 32 ∧ R (.int (lastN m)) G M
def S_stair_of (K : PySem.W.Frag) : KSp := sp2 fun x y G M R Z => ∃ m p, natOk x m 1 32 ∧ natOk y p 1 30 ∧ R (.int (stairN m p)) G M
def S_slots_of (K : PySem.W.Frag) : KSp := sp2 fun x y G M R Z => ∃ m st, natOk x m 1 32 ∧ natOk y st 0 6 ∧ ∀ t G', Ex G G' → SqT K G' t [.int (slotA m st), .int ((2 * 2 ^ st : Nat) : Int)] → R (.ref t) G' M
def S_trees_of (K : PySem.W.Frag) : KSp := sp1 fun x G M R Z => ∃ m, natOk x m 1 32 ∧ ∀ t, Fr G M t → R (.ref t) G ((t, .lst (natsV (treesN m))) :: M)
def S_look_at_many (K : PySem.W.Frag) : KSp := sp1 fun x G M R Z => ∃ T : PT, TyK K G M x T ∧ (T == .int) = isIntV x ∧ (withinV x 1 32 = true → R .non G M) ∧ (withinV x 1 32 = false → Z (.ref (cl K "NoSize")) none G M)
def S_look_at_sizes (K : PySem.W.Frag) : KSp := sp2 fun x y G M R Z => ∃ T U : PT, TyK K G M x T ∧ (T == .int) = isIntV x ∧ TyK K G M y U ∧ (U == .int) = isIntV y ∧
  ((withinV x 1 32 && withinV y 0 60) = true → R .non G M) ∧ ((withinV x 1 32 && withinV y 0 60) = false → Z (.ref (cl K "NoSize")) none G M)
def waysL : List Str := ["scan", "spare", "stairs", "tree", "grove"]
def wayV (x : V) : Bool := match x with
  | .str s => waysL.contains s
  | _ => false
def S_look_at_way (K : PySem.W.Frag) : KSp := sp1 fun x G M R Z => ∃ T : PT, TyK K G M x T ∧ (T == .str) = isStrV x ∧ (wayV x = true → R .non G M) ∧ (wayV x = false → Z (.ref (cl K "NoWay")) none G M)
def S_spare_needs (K : PySem.W.Frag) : KSp := sp2 fun x y G M R Z => ∃ m q, natOk x m 1 32 ∧ natOk y q 0 60 ∧ KndsR K G M (spareK m q) R
def S_stairs_needs (K : PySem.W.Frag) : KSp := sp2 fun x y G M R Z => ∃ m q, natOk x m 1 32 ∧ natOk y q 0 60 ∧ KndsR K G M (stairsK m q) R
def S_grove_needs (K : PySem.W.Frag) : KSp := sp2 fun x y G M R Z => ∃ (a : Addr) (ts : List Nat) (q : Nat), x = .ref a ∧ LstAt K G M a (natsV ts) ∧ (∀ t, t ∈ ts → 1 ≤ t ∧ t ≤ 32) ∧ ts.length ≤ 3 ∧ natOk y q 0 60 ∧ KndsR K G M (groveK ts q) R
def S_kinds_of (K : PySem.W.Frag) : KSp := sp3 fun w x y G M R Z => ∃ (s : Str) (m q : Nat), w = .str s ∧ natOk x m 1 32 ∧ natOk y q 0 60 ∧ KndsR K G M (kindsK s m q) R
def S_needs (K : PySem.W.Frag) : KSp := sp3 fun w x y G M R Z => ∃ S T U : PT, TyK K G M w S ∧ (S == .str) = isStrV w ∧ TyK K G M x T ∧ (T == .int) = isIntV x ∧ TyK K G M y U ∧ (U == .int) = isIntV y ∧
  (∀ (s : Str) (m q : Nat), w = .str s → wayV w = true → natOk x m 1 32 → natOk y q 0 60 → KndsR K G M (kindsK s m q) R) ∧
  (wayV w = false → Z (.ref (cl K "NoWay")) none G M) ∧ (wayV w = true → (withinV x 1 32 && withinV y 0 60) = false → Z (.ref (cl K "NoSize")) none G M)

/-! ### keepers and shelves -/
structure Tch where
  lay : Bool
  shelf : Nat
  room : Nat
  deriving DecidableEq
def Tch.txt (t : Tch) : Str := if t.lay then "lay" else "look"
def tchD (t : Tch) : PyData := .tuple [.str t.txt, .int t.shelf, .int t.room]
/-- a list of touches, as it lies -/
def LogC (K : PySem.W.Frag) (G : Hp) (ts : List Tch) (o : HO) : Prop := ∃ vs, o = .lst vs ∧ DpAll K G vs (ts.map tchD)
structure KeepAt (K : PySem.W.Frag) (G : Hp) (M : Mem) (kp dk lg : Addr) (j l : Nat) (o : HO) (ts : List Tch) : Prop where
  k : M[j]? = some (kp, Ob K 1 dk [.ref lg])
  l : M[l]? = some (lg, o)
  c : LogC K G ts o
structure ShelfAt (K : PySem.W.Frag) (M : Mem) (a dx kp th : Addr) (num n i : Nat) (xs : List V) : Prop where
  s : M[n]? = some (a, Ob K 2 dx [.ref kp, .int num, .ref th])
  t : M[i]? = some (th, .lst xs)
/-- a list that is another cell than the one at n, or frozen -/
def LstN (K : PySem.W.Frag) (G : Hp) (M : Mem) (n : Nat) (b : Addr) (xs : List V) : Prop := (∃ i, n ≠ i ∧ M[i]? = some (b, .lst xs)) ∨ SqL K G b xs
def S_Keeper_init (K : PySem.W.Frag) : KSp := sp1 fun x G M R Z => ∃ (a dx : Addr) (n : Nat), x = .ref a ∧ M[n]? = some (a, Ob K 1 dx []) ∧ ∀ lg, Fr G M lg → R .non G ((lg, .lst []) :: M.set n (a, Ob K 1 dx [.ref lg]))
def S_Keeper_sees (K : PySem.W.Frag) : KSp := sp4 fun x y z u G M R Z => ∃ (kp dk lg : Addr) (j l : Nat) (o : HO) (ts : List Tch) (t : Tch), x = .ref kp ∧ y = .str t.txt ∧ z = .int t.shelf ∧ u = .int t.room ∧ KeepAt K G M kp dk lg j l o ts ∧ ts.length ≤ 1000000 ∧
  ∀ G' o', Ex G G' → LogC K G' (ts ++ [t]) o' → R .non G' (M.set l (lg, o'))
def S_Keeper_seen (K : PySem.W.Frag) : KSp := sp1 fun x G M R Z => ∃ (kp dk lg : Addr) (j l : Nat) (o : HO) (ts : List Tch), x = .ref kp ∧ KeepAt K G M kp dk lg j l o ts ∧ ∀ p, Fr G M p → R (.ref p) G ((p, o) :: M)
def S_Shelf_init (K : PySem.W.Frag) : KSp := sp4 fun x y z u G M R Z => ∃ (a dx b : Addr) (n : Nat) (xs : List V), x = .ref a ∧ u = .ref b ∧ M[n]? = some (a, Ob K 2 dx []) ∧ LstN K G M n b xs ∧ ∀ th, Fr G M th → R .non G ((th, .lst xs) :: M.set n (a, Ob K 2 dx [y, z, .ref th]))
def S_Shelf_rooms (K : PySem.W.Frag) : KSp := sp1 fun x G M R Z => ∃ (a dx kp th : Addr) (num n i : Nat) (xs : List V), x = .ref a ∧ ShelfAt K M a dx kp th num n i xs ∧ R (.int xs.length) G M
def S_Shelf_need_room (K : PySem.W.Frag) : KSp := sp2 fun x y G M R Z => ∃ (a dx kp th : Addr) (num n i : Nat) (xs : List V) (T : PT), x = .ref a ∧ ShelfAt K M a dx kp th num n i xs ∧ TyK K G M y T ∧ (T == .int) = isIntV y ∧ (withinV y 0 ((xs.length : Int) - 1) = true → R .non G M) ∧ (withinV y 0 ((xs.length : Int) - 1) = false → Z (.ref (cl K "NoRoom")) none G M)
def S_Shelf_look (K : PySem.W.Frag) : KSp := sp2 fun x y G M R Z => ∃ (a dx kp th : Addr) (num n i : Nat) (xs : List V), x = .ref a ∧ ShelfAt K M a dx kp th num n i xs ∧
  ((∃ T : PT, TyK K G M y T ∧ (T == .int) = isIntV y ∧ withinV y 0 ((xs.length : Int) - 1) = false ∧ Z (.ref (cl K "NoRoom")) none G M) ∨
   ∃ (dk lg : Addr) (j l : Nat) (o : HO) (ts : List Tch) (r : Nat) (v : V), y = .int r ∧ KeepAt K G M kp dk lg j l o ts ∧ ts.length ≤ 1000000 ∧ xs[r]? = some v ∧ l ≠ i ∧ ∀ G' o', Ex G G' → LogC K G' (ts ++ [⟨false, num, r⟩]) o' → R v G' (M.set l (lg, o')))
def S_Shelf_lay (K : PySem.W.Frag) : KSp := sp3 fun x y z G M R Z => ∃ (a dx kp th : Addr) (num n i : Nat) (xs : List V), x = .ref a ∧ ShelfAt K M a dx kp th num n i xs ∧
  ((∃ T : PT, TyK K G M y T ∧ (T == .int) = isIntV y ∧ withinV y 0 ((xs.length : Int) - 1) = false ∧ Z (.ref (cl K "NoRoom")) none G M) ∨
   ∃ (dk lg : Addr) (j l : Nat) (o : HO) (ts : List Tch) (r : Nat), y = .int r ∧ KeepAt K G M kp dk lg j l o ts ∧ ts.length ≤ 1000000 ∧ r < xs.length ∧ l ≠ i ∧ l ≠ n ∧ ∀ G' o', Ex G G' → LogC K G' (ts ++ [⟨true, num, r⟩]) o' → R .non G' ((M.set l (lg, o')).set i (th, .lst (xs.set r z))))

/-! texts of touches and cells -/
def itT (n : Nat) : Str := Str.ofString (toString (n : Int))
def tcT (t : Tch) : Str := (((t.txt ++ (" " : Str)) ++ itT t.shelf) ++ (" " : Str)) ++ itT t.room
def cellsT (l : List Nat) : Str := if l = [] then "-" else Txt.join " " (l.map itT)
def touchesT (ts : List Tch) : Str := match ts with
  | [] => "-"
  | t :: ts => Txt.join ", " ((t :: ts).map tcT)
def pocketT (ls : List (List Nat)) : Str := Txt.join " / " (ls.map cellsT)
def tcV (t : Tch) : List V := [.str t.txt, .int t.shelf, .int t.room]
def TcSm (t : Tch) : Prop := t.shelf < 10000 ∧ t.room < 10000
def TcAt (K : PySem.W.Frag) (G : Hp) (v : V) (t : Tch) : Prop := ∃ T, v = .ref T ∧ SqT K G T (tcV t)
def CsSm (l : List Nat) : Prop := l.length ≤ 100 ∧ ∀ c, c ∈ l → c < 10000
def S_law_touch (K : PySem.W.Frag) : KSp := sp1 fun x G M R Z => ∃ (p : Addr) (n : Nat) (c s : Int), x = .ref p ∧ M[n]? = some (p, pool c s) ∧ PoolOk s ∧
  ∀ (T : Addr) (t : Tch) (c' s' : Int) (G' : Hp), Ex G G' → SqT K G' T (tcV t) → TcSm t → PoolOk s' → R (.ref T) G' (M.set n (p, pool c' s'))
def S_law_cells (K : PySem.W.Frag) : KSp := sp1 fun x G M R Z => ∃ (p : Addr) (n : Nat) (c s : Int), x = .ref p ∧ M[n]? = some (p, pool c s) ∧ PoolOk s ∧
  ∀ (q : Addr) (l : List Nat) (c' s' : Int), CsSm l → PoolOk s' → R (.ref q) G ((q, .lst (natsV l)) :: M.set n (p, pool c' s'))
def S_show_touches (K : PySem.W.Frag) : KSp := sp1 fun x G M R Z => ∃ (a : Addr) (us : List V) (ts : List Tch), x = .ref a ∧ LstAt K G M a us ∧ A2 (TcAt K G) us ts ∧ ts.length ≤ 100 ∧ (∀ t, t ∈ ts → TcSm t) ∧ ∀ G', Ex G G' → R (.str (touchesT ts)) G' M
def S_show_cells (K : PySem.W.Frag) : KSp := sp1 fun x G M R Z => ∃ (a : Addr) (l : List Nat), x = .ref a ∧ LstAt K G M a (natsV l) ∧ CsSm l ∧ R (.str (cellsT l)) G M
def S_law_words (K : PySem.W.Frag) : KSp := sp1 fun x G M R Z => ∃ (a : Addr) (l : List Nat), x = .ref a ∧ LstAt K G M a (natsV l) ∧ CsSm l ∧ R (.str (cellsT l)) G M
def S_show_pocket (K : PySem.W.Frag) : KSp := sp1 fun x G M R Z => ∃ a : Addr, x = .ref a ∧ ((∃ l : List Nat, LstAt K G M a (natsV l) ∧ CsSm l ∧ R (.str (cellsT l)) G M) ∨
  ∃ (us : List V) (ls : List (List Nat)), LstAt K G M a us ∧ A2 (fun v l => ∃ b, v = .ref b ∧ LstAt K G M b (natsV l)) us ls ∧ ls ≠ [] ∧ ls.length ≤ 10 ∧ (∀ l, l ∈ ls → CsSm l) ∧ R (.str (pocketT ls)) G M)
def S_law_right (K : PySem.W.Frag) : KSp := sp1 fun x G M R Z => ∃ (p : Addr) (c s : Int), x = .ref p ∧ M = [(p, pool c s)] ∧ PoolOk s ∧ ∀ G', Ex G G' → R (.bl true) G' []
/-! readings of the defs, printed by gen.py -/
/-- law_pool(_law_script, _law_k); slots 0 _law_script, 1 _law_k, 2 _law_cell, 3 _law_seed -/
def rd_law_pool_3 (K : PySem.W.Frag) : KS :=
  kSeq (kRet (kLst (kCons (kBin (kMul) (kVar 2) (kCB (kInt) (kCons (kBin (kI0 fun i j => .bl (decide (j ≤ i))) (kVar 2) (kBin (kI CPow fun i j => .int (i ^ j.toNat)) (kC (.int 10)) (kC (.int 18)))) (kNil)))) (kCons (kVar 3) (kNil))))) (kNext)
def rd_law_pool_2 (K : PySem.W.Frag) : KS :=
  kSeq (kSet 3 (kBin (kI (fun _ j => 0 < j) fun i j => .int (i % j)) (kBin (kMul) (kBin (kAdd) (kBin (kAdd) (kBin (kI (fun _ j => 0 < j) fun i j => .int (i % j)) (kVar 2) (kC (.int 1000003))) (kBin (kMul) (kC (.int 104729)) (kVar 1))) (kC (.int 107))) (kC (.int 48271))) (kC (.int 2147483647)))) (rd_law_pool_3 K)
def rd_law_pool_1 (K : PySem.W.Frag) : KS :=
  kSeq (kIf (kT (kBin (kI0 fun i j => .bl (decide (i < j))) (kVar 1) (kCB (kLen K) (kCons (kVar 0) (kNil))))) (kSeq (kSet 2 (kBin (kIx K) (kVar 0) (kVar 1))) (kNext)) (kNext)) (rd_law_pool_2 K)
def rd_law_pool (K : PySem.W.Frag) : KS :=
  kSeq (kSet 2 (kCB (kLen K) (kCons (kVar 0) (kNil)))) (rd_law_pool_1 K)
/-- law_take(_law_pool_here, _law_many); slots 0 _law_pool_here, 1 _law_many, 2 _law_digit -/
def rd_law_take_2 (K : PySem.W.Frag) : KS :=
  kSeq (kRet (kBin (kI (fun _ j => 0 < j) fun i j => .int (i % j)) (kBin (kI CDivW fun i j => .int (i / j)) (kBin (kI (fun _ j => 0 < j) fun i j => .int (i % j)) (kBin (kMul) (kBin (kIx K) (kVar 0) (kC (.int 1))) (kBin (kIx K) (kVar 0) (kC (.int 1)))) (kC (.int 2147483629))) (kC (.int 64))) (kVar 1))) (kNext)
def rd_law_take_1 (K : PySem.W.Frag) : KS :=
  kSeq (kAsg (kBin (kI (fun _ j => 0 < j) fun i j => .int (i % j)) (kBin (kAdd) (kBin (kMul) (kBin (kIx K) (kVar 0) (kC (.int 1))) (kC (.int 48271))) (kC (.int 11))) (kC (.int 2147483647))) (kgIx (kVar 0) (kC (.int 1)))) (rd_law_take_2 K)
def rd_law_take (K : PySem.W.Frag) : KS :=
  kSeq (kIf (kT (kBin (kI0 fun i j => .bl (decide (j < i))) (kBin (kIx K) (kVar 0) (kC (.int 0))) (kC (.int 0)))) (kSeq (kSet 2 (kBin (kI (fun _ j => 0 < j) fun i j => .int (i % j)) (kBin (kIx K) (kVar 0) (kC (.int 0))) (kVar 1))) (kSeq (kAsg (kBin (kI CDivW fun i j => .int (i / j)) (kBin (kIx K) (kVar 0) (kC (.int 0))) (kVar 1)) (kgIx (kVar 0) (kC (.int 0)))) (kSeq (kRet (kVar 2)) (kNext)))) (kNext)) (rd_law_take_1 K)
/-- law_touch(_law_pool_here); slots 0 _law_pool_here, 1 _law_most -/
def rd_law_touch_1 (K : PySem.W.Frag) : KS :=
  kSeq (kRet (kTup (kCons (kBin (kIx K) (kLst (kCons (kC (.str "look")) (kCons (kC (.str "lay")) (kNil)))) (kCall (S_law_take K) (kCons (kVar 0) (kCons (kC (.int 2)) (kNil))))) (kCons (kCall (S_law_take K) (kCons (kVar 0) (kCons (kVar 1) (kNil)))) (kCons (kCall (S_law_take K) (kCons (kVar 0) (kCons (kVar 1) (kNil)))) (kNil)))))) (kNext)
def rd_law_touch (K : PySem.W.Frag) : KS :=
  kSeq (kSet 1 (kBin (kIx K) (kLst (kCons (kC (.int 10)) (kCons (kC (.int 100)) (kCons (kC (.int 10000)) (kNil))))) (kCall (S_law_take K) (kCons (kVar 0) (kCons (kC (.int 3)) (kNil)))))) (rd_law_touch_1 K)
/-- show_touches(touches); slots 0 touches, 1 deed, 2 shelf, 3 room -/
def rd_show_touches_1 (K : PySem.W.Frag) : KS :=
  kSeq (kRet (kSM1 (kJoin K) (kC (.str ", ")) (kComp (kiSeq K (kVar 0)) (kgTup K 3 (kgsCons (kgName 1) (kgsCons (kgName 2) (kgsCons (kgName 3) (kgsNil))))) (kYes) (kJoined [kFmt (kVar 1), kC (.str " "), kFmt (kVar 2), kC (.str " "), kFmt (kVar 3)]) [1, 2, 3]))) (kNext)
def rd_show_touches (K : PySem.W.Frag) : KS :=
  kSeq (kIf (kT (kBin (kEqv false K) (kVar 0) (kLst (kNil)))) (kSeq (kRet (kC (.str "-"))) (kNext)) (kNext)) (rd_show_touches_1 K)
/-- law_cells(_law_pool_here); slots 0 _law_pool_here, 1 _law_k -/
def rd_law_cells (K : PySem.W.Frag) : KS :=
  kSeq (kRet (kSortedSet K (kComp (kiR1 (kCons (kCall (S_law_take K) (kCons (kVar 0) (kCons (kC (.int 7)) (kNil)))) (kNil))) (kgName 1) (kYes) (kCall (S_law_take K) (kCons (kVar 0) (kCons (kC (.int 32)) (kNil)))) [1]))) (kNext)
/-- show_cells(cells); slots 0 cells, 1 cell -/
def rd_show_cells_1 (K : PySem.W.Frag) : KS :=
  kSeq (kRet (kSM1 (kJoin K) (kC (.str " ")) (kComp (kiSeq K (kVar 0)) (kgName 1) (kYes) (kCB (kStr) (kCons (kVar 1) (kNil))) [1]))) (kNext)
def rd_show_cells (K : PySem.W.Frag) : KS :=
  kSeq (kIf (kT (kBin (kEqv false K) (kVar 0) (kLst (kNil)))) (kSeq (kRet (kC (.str "-"))) (kNext)) (kNext)) (rd_show_cells_1 K)
/-- show_pocket(pocket); slots 0 pocket, 1 cells -/
def rd_show_pocket_1 (K : PySem.W.Frag) : KS :=
  kSeq (kRet (kCall (S_show_cells K) (kCons (kVar 0) (kNil)))) (kNext)
def rd_show_pocket (K : PySem.W.Frag) : KS :=
  kSeq (kIf (kAnd (kT (kBin (kEqv true K) (kVar 0) (kLst (kNil)))) (kT (kCB (kIsi K) (kCons (kBin (kIx K) (kVar 0) (kC (.int 0))) (kCons (kC (.ty "list")) (kNil)))))) (kSeq (kRet (kSM1 (kJoin K) (kC (.str " / ")) (kComp (kiSeq K (kVar 0)) (kgName 1) (kYes) (kCall (S_show_cells K) (kCons (kVar 1) (kNil))) [1]))) (kNext)) (kNext)) (rd_show_pocket_1 K)
/-- law_words(_law_cells_here); slots 0 _law_cells_here, 1 _law_cell -/
def rd_law_words (K : PySem.W.Frag) : KS :=
  kSeq (kRet (kOrT (kSM1 (kJoin K) (kC (.str " ")) (kComp (kiSeq K (kVar 0)) (kgName 1) (kYes) (kCB (kStr) (kCons (kVar 1) (kNil))) [1])) (kC (.str "-")))) (kNext)
/-- law_right(_law_pool_here); slots 0 _law_pool_here, 1 _law_touches, 2 _law_k, 3 _law_handed, 4 _law_words_here, 5 _law_deed, 6 _law_shelf, 7 _law_room, 8 _law_due, 9 _law_cells_here, 10 _law_several, 11 _law_kept, 12 _law_one -/
def rd_law_right_9 (K : PySem.W.Frag) : KS :=
  kSeq (kRet (kAndV (kBin (kEqv false K) (kCall (S_show_pocket K) (kCons (kVar 10) (kNil))) (kSM1 (kJoin K) (kC (.str " / ")) (kComp (kiSeq K (kVar 11)) (kgName 12) (kYes) (kCall (S_law_words K) (kCons (kVar 12) (kNil))) [12]))) (kBin (kEqv false K) (kVar 10) (kVar 11)))) (kNext)
def rd_law_right_8 (K : PySem.W.Frag) : KS :=
  kSeq (kIf (kT (kBin (kEqv true K) (kCall (S_show_pocket K) (kCons (kCB (kList K) (kCons (kVar 9) (kNil))) (kNil))) (kCall (S_law_words K) (kCons (kVar 9) (kNil))))) (kSeq (kRet (kC (.bl false))) (kNext)) (kNext)) (rd_law_right_9 K)
def rd_law_right_7 (K : PySem.W.Frag) : KS :=
  kSeq (kSet 11 (kComp (kiSeq K (kVar 10)) (kgName 12) (kYes) (kCB (kList K) (kCons (kVar 12) (kNil))) [12])) (rd_law_right_8 K)
def rd_law_right_6 (K : PySem.W.Frag) : KS :=
  kSeq (kSet 10 (kComp (kiR1 (kCons (kBin (kAdd) (kC (.int 1)) (kCall (S_law_take K) (kCons (kVar 0) (kCons (kC (.int 3)) (kNil))))) (kNil))) (kgName 2) (kYes) (kCall (S_law_cells K) (kCons (kVar 0) (kNil))) [2])) (rd_law_right_7 K)
def rd_law_right_5 (K : PySem.W.Frag) : KS :=
  kSeq (kSet 9 (kCall (S_law_cells K) (kCons (kVar 0) (kNil)))) (rd_law_right_6 K)
def rd_law_right_4 (K : PySem.W.Frag) : KS :=
  kSeq (kIf (kOr (kT (kBin (kEqv true K) (kCall (S_show_touches K) (kCons (kVar 3) (kNil))) (kVar 8))) (kT (kBin (kEqv true K) (kVar 3) (kVar 1)))) (kSeq (kRet (kC (.bl false))) (kNext)) (kNext)) (rd_law_right_5 K)
def rd_law_right_3 (K : PySem.W.Frag) : KS :=
  kSeq (kSet 8 (kOrT (kSM1 (kJoin K) (kC (.str ", ")) (kVar 4)) (kC (.str "-")))) (rd_law_right_4 K)
def rd_law_right_2 (K : PySem.W.Frag) : KS :=
  kSeq (kSet 4 (kComp (kiSeq K (kVar 1)) (kgTup K 3 (kgsCons (kgName 5) (kgsCons (kgName 6) (kgsCons (kgName 7) (kgsNil))))) (kYes) (kBin (kAdd) (kBin (kAdd) (kBin (kAdd) (kBin (kAdd) (kVar 5) (kC (.str " "))) (kCB (kStr) (kCons (kVar 6) (kNil)))) (kC (.str " "))) (kCB (kStr) (kCons (kVar 7) (kNil)))) [5, 6, 7])) (rd_law_right_3 K)
def rd_law_right_1 (K : PySem.W.Frag) : KS :=
  kSeq (kSet 3 (kCB (kList K) (kCons (kVar 1) (kNil)))) (rd_law_right_2 K)
def rd_law_right (K : PySem.W.Frag) : KS :=
  kSeq (kSet 1 (kComp (kiR1 (kCons (kCall (S_law_take K) (kCons (kVar 0) (kCons (kC (.int 13)) (kNil)))) (kNil))) (kgName 2) (kYes) (kCall (S_law_touch K) (kCons (kVar 0) (kNil))) [2])) (rd_law_right_1 K)
/-- law(_law_script); slots 0 _law_script, 1 _law_k -/
def rd_law_b0 (K : PySem.W.Frag) : KS :=
  kSeq (kIf (kNot (kT (kCall (S_law_right K) (kCons (kCall (S_law_pool K) (kCons (kVar 0) (kCons (kVar 1) (kNil)))) (kNil))))) (kSeq (kRet (kC (.bl false))) (kNext)) (kNext)) (kNext)
def rd_law_1 (K : PySem.W.Frag) : KS :=
  kSeq (kRet (kC (.bl true))) (kNext)
def rd_law (K : PySem.W.Frag) : KS :=
  kSeq (kFor (kiR1 (kCons (kBin (kAdd) (kCB (kMin2) (kCons (kCB (kLen K) (kCons (kVar 0) (kNil))) (kCons (kC (.int 30)) (kNil)))) (kC (.int 1))) (kNil))) (kgName 1) (rd_law_b0 K)) (rd_law_1 K)
section
variable {K : PySem.W.Frag} {vs : List V} {G : Hp} {M : Mem} {R : KR} {Z : KX}
theorem pf_law_take (h : S_law_take K vs G M R Z) : rd_law_take K (ends R Z) (sta 3 vs) G M := by
  obtain ⟨_, _, rfl, p, m, n, c, s, rfl, rfl, hn, hs, hm0, hm1, q⟩ := sp2_of h
  have hS : SeqAt' K G M p [.int c, .int s] := lst_n hn
  refine ⟨G, M, Wk.refl, _, _, hS, rfl, ite2' (fun e => ?_) (fun e => ?_)⟩
  · refine ⟨G, M, Wk.refl, _, _, hS, rfl, hm0, ?_⟩
    refine ⟨G, M, Wk.refl, _, _, hS, rfl, divW hm0 hm1 c, n, _, 0, hn, rfl, ?_⟩
    refine ⟨G, _, Wk.refl, ?_⟩
    exact ret0 (q _ _ _ (Int.emod_nonneg _ (by omega)) (Int.emod_lt_of_pos _ hm0) hs)
  · obtain ⟨s0, s1⟩ := hs
    have hs' : PoolOk ((s * 48271 + 11) % 2147483647) := ⟨Int.emod_nonneg _ (by decide), Int.emod_lt_of_pos _ (by decide)⟩
    refine ⟨G, M, Wk.refl, _, _, hS, rfl, mul_r (by decide) (by decide), (by show (0 : Int) < _; decide), n, _, 1, hn, rfl, ?_⟩
    have hn' : (M.set n (p, pool c ((s * 48271 + 11) % 2147483647)))[n]? = some (p, pool c ((s * 48271 + 11) % 2147483647)) := set_n hn
    have hS' : SeqAt' K G (M.set n (p, pool c ((s * 48271 + 11) % 2147483647))) p [.int c, .int ((s * 48271 + 11) % 2147483647)] := lst_n hn'
    refine ⟨G, _, Wk.refl, _, _, hS', rfl, _, _, hS', rfl, mul_l (by have := hs'.1; omega) (by have := hs'.2; omega), (by show (0 : Int) < _; decide), divW (by decide) (by decide) _, hm0, ?_⟩
    exact ret0 (q _ _ _ (Int.emod_nonneg _ (by omega)) (Int.emod_lt_of_pos _ hm0) hs')
theorem b01 (b : Bool) : -(2 ^ 64) < (if b then (1 : Int) else 0) ∧ (if b then (1 : Int) else 0) < 2 ^ 64 := by cases b <;> decide
end

section
variable {K : PySem.W.Frag} {vs : List V} {G : Hp} {M : Mem} {R : KR} {Z : KX}
theorem set_self {α : Type} {l : List α} {n : Nat} {x : α} (h : l[n]? = some x) : l.set n x = l := by
  apply List.ext_getElem? 
  intro i
  rw [List.getElem?_set]
  by_cases e : n = i
  · subst e
    rw [if_pos rfl, if_pos (List.getElem?_eq_some_iff.mp h).1, h]
  · rw [if_neg e]
theorem at_two {x y : V} {r : Int} (h0 : 0 ≤ r) (h1 : r < 2) : ∃ v, atI [x, y] r = some v ∧ (v = x ∨ v = y) := by
  have e : r = 0 ∨ r = 1 := by omega
  rcases e with rfl | rfl
  · exact ⟨x, rfl, .inl rfl⟩
  · exact ⟨y, rfl, .inr rfl⟩
theorem fr_set {n : Nat} {p : Addr} {o : HO} {x : Addr × HO} {t : Addr} (hn : M[n]? = some (p, o)) (h : Fr G M t) (e : x.1 = p := by rfl) : Fr G (M.set n x) t := by
  refine ⟨h.1, fun y hy => ?_⟩
  rcases List.mem_or_eq_of_mem_set hy with hy | rfl
  · exact h.2 y hy
  · rw [e]; exact h.2 _ (List.mem_of_getElem? hn)
theorem fr_unset {n : Nat} {p : Addr} {o : HO} {x : Addr × HO} {t : Addr} (hn : M[n]? = some (p, o)) (h : Fr G (M.set n x) t) (e : x.1 = p := by rfl) : Fr G M t := by
  have hl : n < M.length := (List.getElem?_eq_some_iff.mp hn).1
  refine ⟨h.1, fun y hy => ?_⟩
  obtain ⟨m, hm⟩ := List.getElem?_of_mem hy
  by_cases z : n = m
  · subst z
    rw [hn] at hm; cases hm
    have := h.2 x (List.mem_of_getElem? (List.getElem?_set_self hl))
    rw [e] at this; exact this
  · exact h.2 y (List.mem_of_getElem? (by rw [List.getElem?_set_ne z]; exact hm))
end

section
variable {K : PySem.W.Frag} {vs : List V} {G : Hp} {M : Mem} {R : KR} {Z : KX}
end

section
variable {K : PySem.W.Frag} {vs : List V} {G : Hp} {M : Mem} {R : KR} {Z : KX}
section
variable {α β : Type} {r : α → β → Prop}
theorem A2.len {as : List α} {bs : List β} (h : A2 r as bs) : as.length = bs.length := by
  induction h with
  | nil => rfl
  | cons _ _ ih => simp [ih]
theorem A2.app {as as' : List α} {bs bs' : List β} (h : A2 r as bs) (h' : A2 r as' bs') : A2 r (as ++ as') (bs ++ bs') := by
  induction h with
  | nil => exact h'
  | cons a _ ih => exact .cons a ih
theorem A2.rev {as : List α} {bs : List β} (h : A2 r as bs) : A2 r as.reverse bs.reverse := by
  induction h with
  | nil => exact .nil
  | cons a _ ih => rw [List.reverse_cons, List.reverse_cons]; exact ih.app (.cons a .nil)
theorem A2.get {as : List α} {bs : List β} (h : A2 r as bs) : ∀ {i : Nat} {b : β}, bs[i]? = some b → ∃ a, as[i]? = some a ∧ r a b := by
  induction h with
  | nil => intro i b e; simp at e
  | cons a _ ih =>
    intro i b e
    cases i with
    | zero => cases e; exact ⟨_, rfl, a⟩
    | succ i => exact ih e
theorem A2.get' {as : List α} {bs : List β} (h : A2 r as bs) : ∀ {i : Nat} {a : α}, as[i]? = some a → ∃ b, bs[i]? = some b ∧ r a b := by
  induction h with
  | nil => intro i b e; simp at e
  | cons a _ ih =>
    intro i b e
    cases i with
    | zero => cases e; exact ⟨_, rfl, a⟩
    | succ i => exact ih e
theorem A2.mono {r' : α → β → Prop} (m : ∀ a b, r a b → r' a b) {as : List α} {bs : List β} (h : A2 r as bs) : A2 r' as bs := by
  induction h with
  | nil => exact .nil
  | cons a _ ih => exact .cons (m _ _ a) ih
end
theorem drM_v {Mn : Mem} (hs : ∀ x, x ∈ Mn → x ∈ M) {v : V} {d : Dr} (h : DrM Mn v d) : DrV K G M v d := by
  cases d with
  | leaf n => exact h
  | row l => obtain ⟨b, rfl, h⟩ := h; exact ⟨b, rfl, .inl (hs _ h)⟩
theorem drM_sub {Mn Mm : Mem} (hs : ∀ x, x ∈ Mn → x ∈ Mm) {v : V} {d : Dr} (h : DrM Mn v d) : DrM Mm v d := by
  cases d with
  | leaf n => exact h
  | row l => obtain ⟨b, rfl, h⟩ := h; exact ⟨b, rfl, hs _ h⟩
theorem dp_kn_inv {v : V} {k : Kn} (h : Dp K G v (knD k)) : ∃ t, v = .ref t ∧ SqT K G t [.str k.txt, .int k.n] := by
  obtain ⟨t, xs, rfl, s, a⟩ := dp_tup_inv h
  refine ⟨t, rfl, ?_⟩
  cases a with
  | cons a b =>
    cases b with
    | cons b c =>
      cases c
      cases a
      cases b
      exact s
theorem dp_kn {t : Addr} {k : Kn} (h : SqT K G t [.str k.txt, .int k.n]) : Dp K G (.ref t) (knD k) := .tup h (.cons (.str _) (.cons (.int _) .nil))
theorem shp_kns {n : Nat} (ks : List Kn) : Shp (n + 2) (.list (ks.map knD)) := .list fun d hd => by
  obtain ⟨p, _, rfl⟩ := List.mem_map.mp hd
  refine .tuple fun d hd => ?_
  rcases List.mem_cons.mp hd with rfl | hd
  · exact .str (by obtain ⟨b, n⟩ := p; cases b <;> (show PyData.strOk _ = true; first | exact (by decide +kernel : PyData.strOk ("leaf" : Str) = true) | exact (by decide +kernel : PyData.strOk ("shuffle" : Str) = true)))
  · rcases List.mem_cons.mp hd with rfl | hd
    · exact .int
    · cases hd
theorem txt_leaf (k : Kn) : decide ((V.str k.txt) = (.str "leaf")) = k.leaf := by
  obtain ⟨b, n⟩ := k
  cases b
  · exact decide_eq_false (by intro h; injection h with h; exact absurd (show ("shuffle" : Str) = "leaf" from h) (by decide))
  · exact decide_eq_true rfl
/-! sizes -/
theorem fac_pos : ∀ n, 0 < fac n
  | 0 => by decide
  | n + 1 => Nat.mul_pos (by omega) (fac_pos n)
theorem fac_mono : ∀ {m n : Nat}, m ≤ n → fac m ≤ fac n := by
  intro m n h
  induction n with
  | zero => have : m = 0 := by omega
            subst this; exact Nat.le_refl _
  | succ n ih =>
    by_cases e : m = n + 1
    · subst e; exact Nat.le_refl _
    · have h1 := ih (by omega)
      show fac m ≤ (n + 1) * fac n
      have : 1 * fac n ≤ (n + 1) * fac n := Nat.mul_le_mul_right _ (by omega)
      omega
theorem fac_64 : fac 64 < 2 ^ 300 := by decide +kernel
theorem manyK_pos (k : Kn) : 0 < manyK k := by
  unfold manyK; split
  · exact Nat.pow_pos (by decide)
  · exact fac_pos _
theorem manyK_lt {k : Kn} (h : KnOk k) : manyK k < 2 ^ 300 := by
  unfold manyK; split
  · exact Nat.pow_lt_pow_right (by decide) (by have := h.1; omega)
  · exact Nat.lt_of_le_of_lt (fac_mono h.1) fac_64
theorem prK_pos : ∀ ks, 0 < prK ks
  | [] => by decide
  | k :: ks => Nat.mul_pos (manyK_pos k) (prK_pos ks)
theorem prK_lt : ∀ ks : List Kn, (∀ k, k ∈ ks → KnOk k) → prK ks < 2 ^ (300 * ks.length + 1)
  | [], _ => by decide
  | k :: ks, h => by
    have h1 := manyK_lt (h k List.mem_cons_self)
    have h2 := prK_lt ks fun q hq => h q (List.mem_cons_of_mem _ hq)
    show manyK k * prK ks < _
    rw [List.length_cons, show 300 * (ks.length + 1) + 1 = 300 + (300 * ks.length + 1) by omega, Nat.pow_add]
    exact Nat.mul_lt_mul'' h1 h2
theorem prK_snoc (ks : List Kn) (k : Kn) : prK (ks ++ [k]) = prK ks * manyK k := by
  induction ks with
  | nil => simp [prK]
  | cons a ks ih => show manyK a * prK (ks ++ [k]) = manyK a * prK ks * manyK k; rw [ih, Nat.mul_assoc]
theorem prK_take_le (ks : List Kn) (i : Nat) (h : ∀ k, k ∈ ks → KnOk k) : ∀ k, k ∈ ks.take i → KnOk k := fun k hk => h k (List.mem_of_mem_take hk)
theorem take_succ' {α : Type} {l : List α} {i : Nat} {x : α} (h : l[i]? = some x) : l.take (i + 1) = l.take i ++ [x] := by
  rw [List.take_succ, h]; rfl
end

section
variable {K : PySem.W.Frag} {vs : List V} {G : Hp} {M : Mem} {R : KR} {Z : KX}
theorem natsV_get {l : List Nat} {i v : Nat} (h : l[i]? = some v) : (natsV l)[i]? = some (.int (v : Int)) := by
  unfold natsV; rw [List.getElem?_map, h]; rfl
theorem natsV_len (l : List Nat) : (natsV l).length = l.length := by unfold natsV; rw [List.length_map]
theorem atI_nats {l : List Nat} {i v : Nat} (h : l[i]? = some v) : atI (natsV l) (i : Int) = some (.int (v : Int)) := atI_nat (natsV_get h)
theorem at_mem {l : List V} {r : Int} (h0 : 0 ≤ r) (h1 : r < l.length) : ∃ v, atI l r = some v ∧ v ∈ l := by
  obtain ⟨j, rfl⟩ := Int.eq_ofNat_of_zero_le h0
  have hj : l[j]? = some l[j] := List.getElem?_eq_getElem (by omega)
  exact ⟨_, atI_nat hj, List.mem_of_getElem? hj⟩
theorem dpall_rep {v : V} {d : PyData} (h : Dp K G v d) : ∀ n, DpAll K G (List.replicate n v) (List.replicate n d)
  | 0 => .nil
  | n + 1 => .cons h (dpall_rep h n)
theorem dpall_app2 : ∀ {vs ws : List V} {ds es : List PyData}, DpAll K G vs ds → DpAll K G ws es → DpAll K G (vs ++ ws) (ds ++ es)
  | _, _, _, _, .nil, h => h
  | _, _, _, _, .cons a b, h => .cons a (dpall_app2 b h)
theorem dpall_flat {us : List V} {ds : List PyData} (h : DpAll K G us ds) : ∀ n, DpAll K G (List.replicate n us).flatten (List.replicate n ds).flatten
  | 0 => .nil
  | n + 1 => dpall_app2 h (dpall_flat h n)
theorem ex_lat {G' : Hp} {M' : Mem} {a : Addr} {us : List V} (x : Ex G G') (hm : ∀ x, x ∈ M → x ∈ M') (h : LstAt K G M a us) : LstAt K G' M' a us := by
  rcases h with h | h
  · exact .inl (hm _ h)
  · exact .inr (ex_l x h)
theorem wi_hi {i lo hi : Int} (h : hi < i) : withinV (.int i) lo hi = false := by
  show (decide (lo ≤ i) && decide (i ≤ hi)) = false
  rw [decide_eq_false (p := i ≤ hi) (by omega), Bool.and_false]
theorem wi_lo {i lo hi : Int} (h : i < lo) : withinV (.int i) lo hi = false := by
  show (decide (lo ≤ i) && decide (i ≤ hi)) = false
  rw [decide_eq_false (p := lo ≤ i) (by omega), Bool.false_and]
theorem wi_in {i lo hi : Int} (h : lo ≤ i) (h2 : i ≤ hi) : withinV (.int i) lo hi = true := by
  show (decide (lo ≤ i) && decide (i ≤ hi)) = true
  rw [decide_eq_true h, decide_eq_true h2]; rfl
theorem Wk.sub' {G : Hp} {M M' : Mem} (h : List.Sublist M' M) : Wk G M G M' := fun H hv => ⟨hv.ex, fun x hx => hv.mu x (h.subset hx), hv.nd.sublist (h.map _), fun x hx => hv.dj x (h.subset hx)⟩
end

section
variable {K : PySem.W.Frag} {vs : List V} {G : Hp} {M : Mem} {R : KR} {Z : KX}
theorem asg_C {lo c v : Int} {n i : Nat} {g : KG} {σ : St} {R : St → Hp → Mem → Prop} (e : lo + (i : Nat) * c = v) (q : g.val (.int v) σ G M R) : asg g ((srcC lo c n).get i) σ G M R := by subst e; exact q
theorem asg_R {lo v : Int} {n i : Nat} {g : KG} {σ : St} {R : St → Hp → Mem → Prop} (e : lo + (i : Nat) = v) (q : g.val (.int v) σ G M R) : asg g ((srcR lo n).get i) σ G M R := by subst e; exact q
theorem rgV_nats (n : Nat) : rgV 0 (n : Int) = natsV (List.range n) := by
  unfold rgV natsV
  rw [show ((n : Int) - 0).toNat = n by omega]
  refine List.map_congr_left fun i _ => ?_
  rw [Int.zero_add]
theorem ixN_nat {n i : Nat} (h : i < n) : ixN n (i : Int) = some i := by rw [ixN_int (by omega) (by omega)]; rfl
theorem natsV_set {l : List Nat} {i v : Nat} : (natsV l).set i (.int (v : Int)) = natsV (l.set i v) := by unfold natsV; rw [List.map_set]
theorem tyk_cons {x : V} {T : PT} {y : Addr × HO} (h : TyK K G M x T) : TyK K G (y :: M) x T := fun H hv => h H (Wk.drop0 H hv)
theorem all_snoc (bs : List Bool) (b : Bool) : (bs ++ [b]).all id = (bs.all id && b) := by simp
theorem within_int {x : V} {lo hi : Int} (h : withinV x lo hi = true) : ∃ i, x = .int i ∧ lo ≤ i ∧ i ≤ hi := by
  cases x with
  | int i =>
    have h : (decide (lo ≤ i) && decide (i ≤ hi)) = true := h
    rw [Bool.and_eq_true] at h
    exact ⟨i, rfl, of_decide_eq_true h.1, of_decide_eq_true h.2⟩
  | _ => cases h
theorem natsV_flat (l : List Nat) : (natsV l).all flatV = true := List.all_eq_true.mpr fun x hx => by
  obtain ⟨n, _, rfl⟩ := List.mem_map.mp hx
  rfl
theorem rep_zeros (n : Nat) : (List.replicate n [V.int 0]).flatten = natsV (List.replicate n 0) := by
  induction n with
  | zero => rfl
  | succ n ih => rw [List.replicate_succ, List.flatten_cons, ih]; rfl
end

section
variable {K : PySem.W.Frag} {vs : List V} {G : Hp} {M : Mem} {R : KR} {Z : KX}
theorem Fr.keys {M M' : Mem} {p : Addr} (h : Fr G M p) (e : M'.map (·.1) = M.map (·.1) := by rfl) : Fr G M' p := ⟨h.1, fun x hx z => by
  have : x.1 ∈ M'.map (·.1) := List.mem_map.mpr ⟨x, hx, rfl⟩
  rw [e] at this
  obtain ⟨y, hy, ey⟩ := List.mem_map.mp this
  exact h.2 y hy (ey.trans z)⟩
/-! ### cells that were just laid, frozen together -/
inductive Frs (G : Hp) (M : Mem) : Mem → Prop
  | nil : Frs G M []
  | cons {p : Addr} {o : HO} {Mx : Mem} : Fr G (Mx ++ M) p → Frs G M Mx → Frs G M ((p, o) :: Mx)
theorem Frs.key {Mx : Mem} (h : Frs G M Mx) : ∀ x, x ∈ Mx → G x.1 = none ∧ ∀ y, y ∈ M → y.1 ≠ x.1 := by
  induction h with
  | nil => intro x hx; cases hx
  | cons f _ ih =>
    intro x hx
    rcases List.mem_cons.mp hx with rfl | hx
    · exact ⟨f.1, fun y hy => f.2 y (List.mem_append.mpr (.inr hy))⟩
    · exact ih x hx
theorem Frs.upd {Mx : Mem} {p : Addr} {o : HO} (h : Frs G M Mx) (f : ∀ x, x ∈ Mx → x.1 ≠ p) : Frs (upd G p o) M Mx := by
  induction h with
  | nil => exact .nil
  | cons f1 _ ih => exact .cons ⟨by rw [upd_ne (f _ List.mem_cons_self)]; exact f1.1, f1.2⟩ (ih fun x hx => f x (List.mem_cons_of_mem _ hx))
theorem frz_pre {M : Mem} : ∀ {Mx : Mem} {G : Hp}, Frs G M Mx → ∃ G', Ex G G' ∧ (∀ x, x ∈ Mx → G' x.1 = some x.2) ∧ Wk G (Mx ++ M) G' M ∧ ∀ q, G q = none → (∀ x, x ∈ Mx → x.1 ≠ q) → G' q = none
  | [], G, _ => ⟨G, Ex.refl, fun _ h => (nomatch h), Wk.refl, fun _ h _ => h⟩
  | (p, o) :: Mx, G, h => by
    cases h with
    | cons f h =>
      have hp : ∀ x, x ∈ Mx → x.1 ≠ p := fun x hx => f.2 x (List.mem_append.mpr (.inl hx))
      obtain ⟨G', e, a, w, n⟩ := frz_pre (h.upd (o := o) hp)
      refine ⟨G', (Ex.new f).trans e, fun x hx => ?_, Wk.frz0.trans w, fun q hq hx => ?_⟩
      · rcases List.mem_cons.mp hx with rfl | hx
        · exact e p o upd_same
        · exact a x hx
      · exact n q (by rw [upd_ne (Ne.symm (hx (p, o) List.mem_cons_self))]; exact hq) fun x h2 => hx x (List.mem_cons_of_mem _ h2)
theorem Frs.more {Mx : Mem} {x : Addr × HO} (h : Frs G M Mx) (f : ∀ y, y ∈ Mx → x.1 ≠ y.1) : Frs G (x :: M) Mx := by
  induction h with
  | nil => exact .nil
  | @cons p o Mx f1 _ ih =>
    refine .cons ⟨f1.1, fun y hy => ?_⟩ (ih fun y hy => f y (List.mem_cons_of_mem _ hy))
    rcases List.mem_append.mp hy with hy | hy
    · exact f1.2 y (List.mem_append.mpr (.inl hy))
    · rcases List.mem_cons.mp hy with rfl | hy
      · exact f _ List.mem_cons_self
      · exact f1.2 y (List.mem_append.mpr (.inr hy))
/-- the same beneath one cell -/
theorem frz_pre1 {Mx : Mem} {s : Addr} {o : HO} (h : Frs G M Mx) (f : Fr G (Mx ++ M) s) : ∃ G', Ex G G' ∧ (∀ x, x ∈ Mx → G' x.1 = some x.2) ∧ Wk G ((s, o) :: (Mx ++ M)) G' ((s, o) :: M) ∧ Fr G' M s := by
  obtain ⟨G', a, b, c, d⟩ := frz_pre (h.more (x := (s, o)) fun y hy => Ne.symm (f.2 y (List.mem_append.mpr (.inl hy))))
  exact ⟨G', a, b, (Wk.perm List.perm_middle).trans c, d s f.1 fun x hx => f.2 x (List.mem_append.mpr (.inl hx)), fun x hx => f.2 x (List.mem_append.mpr (.inr hx))⟩
theorem kseq_wk {t u : KS} {D : Kd} {σ : St} {G G' : Hp} {M M' : Mem} (w : Wk G M G' M') (h : kSeq t u D σ G' M') : kSeq t u D σ G M := by
  obtain ⟨a, b, c, d⟩ := h
  exact ⟨a, b, w.trans c, d⟩
/-! ### things whose type is known -/
theorem ty_ex {G' : Hp} {x : V} {T : PT} (e : Ex G G') (h : ∀ M, TyK K G M x T) : ∀ M, TyK K G' M x T := fun M H hv => h M H (Wk.less e H hv)
theorem WOk.ex {G' : Hp} {w : V} (e : Ex G G') (h : WOk K G w) : WOk K G' w := by
  obtain ⟨S, h1, h2⟩ := h
  exact ⟨S, ty_ex e h1, h2⟩
theorem IOk.ex {G' : Hp} {w : V} (e : Ex G G') (h : IOk K G w) : IOk K G' w := by
  obtain ⟨S, h1, h2⟩ := h
  exact ⟨S, ty_ex e h1, h2⟩
theorem iok_int {i : Int} : IOk K G (.int i) := ⟨.int, fun _ => ty_int, rfl⟩
theorem iok_non : IOk K G .non := ⟨.non, fun _ => ty_non, rfl⟩
theorem iok_bl {b : Bool} : IOk K G (.bl b) := ⟨.bool, fun _ => ty_bl, rfl⟩
theorem iok_str {b : Str} : IOk K G (.str b) := ⟨.str, fun _ => ty_str, rfl⟩
theorem iok_tup {a : Addr} {xs : List V} (h : SqT K G a xs) : IOk K G (.ref a) := ⟨.tuple, fun _ => ty_tup h, rfl⟩
theorem iok_lst {a : Addr} {xs : List V} (h : SqL K G a xs) : IOk K G (.ref a) := ⟨.list, fun _ => ty_lst (.inr h), rfl⟩
theorem iok_dict {a : Addr} {xs : List (Key × V)} (h : G a = some (.dK xs)) : IOk K G (.ref a) := ⟨.dict, fun _ => ty_dict (.inr h), rfl⟩
theorem wok_str {b : Str} : WOk K G (.str b) := ⟨.str, fun _ => ty_str, rfl⟩
def boolsD (l : List Bool) : PyData := .list (l.map .bool)
theorem dp_bools : ∀ l : List Bool, DpAll K G (l.map V.bl) (l.map PyData.bool)
  | [] => .nil
  | b :: l => .cons (.bl b) (dp_bools l)
theorem shp_bools (l : List Bool) : Shp 1 (boolsD l) := .list fun d hd => by
  obtain ⟨b, _, rfl⟩ := List.mem_map.mp hd
  exact .bl
/-! ### slices of numbers -/
theorem cut_take {xs : List V} {k : Nat} : cutV xs none (some (k : Int)) = xs.take k := by
  unfold cutV
  rw [HT.sIx_none, HT.sIx_nat, List.drop_zero, Nat.sub_zero]
  rw [Nat.min_def]; split
  · rfl
  · rw [List.take_length, List.take_of_length_le (by omega)]
theorem cut_drop {xs : List V} {k : Nat} : cutV xs (some (k : Int)) none = xs.drop k := by
  unfold cutV
  rw [HT.sIx_none, HT.sIx_nat, Nat.min_def]; split
  · rw [List.take_of_length_le (by rw [List.length_drop]; exact Nat.le_refl _)]
  · rw [List.drop_length, List.take_nil, List.drop_of_length_le (by omega)]
theorem cut_init {xs : List V} : cutV xs none (some (-1)) = xs.dropLast := by
  unfold cutV
  rw [HT.sIx_none, List.drop_zero, Nat.sub_zero, List.dropLast_eq_take]
  have e : HT.sIx xs.length xs.length (some (-1)) = xs.length - 1 := by
    show (if (-1 : Int) < 0 then (-1 + (xs.length : Int)).toNat else min (-1 : Int).toNat xs.length) = _
    rw [if_pos (by decide)]; omega
  rw [e]
theorem natsV_take {l : List Nat} {k : Nat} : (natsV l).take k = natsV (l.take k) := by unfold natsV; rw [List.map_take]
theorem natsV_drop {l : List Nat} {k : Nat} : (natsV l).drop k = natsV (l.drop k) := by unfold natsV; rw [List.map_drop]
theorem natsV_app {l m : List Nat} : natsV l ++ natsV m = natsV (l ++ m) := by unfold natsV; rw [List.map_append]
/-- numbers as data -/
def natsD (l : List Nat) : List PyData := l.map fun (n : Nat) => PyData.int (n : Int)
theorem dp_nats : ∀ (l : List Nat), DpAll K G (natsV l) (natsD l)
  | [] => .nil
  | n :: l => .cons (.int _) (dp_nats l)
theorem shp_nats {n : Nat} (l : List Nat) : Shp (n + 1) (.list (natsD l)) := .list fun d hd => by
  obtain ⟨i, _, rfl⟩ := List.mem_map.mp hd
  exact .int
theorem dat_nats {a : Addr} {l : List Nat} (h : LstAt K G M a (natsV l)) : DatAt K G M (.ref a) (.list (natsD l)) := dat_list h (dats_g (dp_nats l))
theorem natsD_inj : ∀ {l m : List Nat}, natsD l = natsD m → l = m
  | [], [], _ => rfl
  | [], _ :: _, h => by cases h
  | _ :: _, [], h => by cases h
  | a :: l, b :: m, h => by
    have h1 := List.cons.inj h
    have := PyData.int.inj h1.1
    rw [natsD_inj h1.2]
    congr 1; omega
/-- something drawn from a written list -/
theorem pick {l : List V} {p : Addr} {n : Nat} {c s : Int} (hn : M[n]? = some (p, pool c s)) (hs : PoolOk s) (h0 : 0 < l.length) (h1 : l.length ≤ 1000)
    (q : ∀ y c' s' d, y ∈ l → PoolOk s' → Fr G M d → R y G ((d, .lst l) :: M.set n (p, pool c' s'))) :
    l.length ≤ sizeLine ∧ ∀ d, Fr G M d → S_law_take K [.ref p, .int (l.length : Int)] G ((d, .lst l) :: M) (fun y G M => kIx K (.ref d) y G M R) E0 := by
  refine ⟨sz (by omega), fun d fd => ⟨p, l.length, n + 1, c, s, rfl, rfl, hn, hs, by omega, ?_, fun r c' s' r0 r1 hs' => ?_⟩⟩
  · have : (l.length : Int) ≤ 1000 := by omega
    have : (1000 : Int) < 2 ^ 200 := by decide
    omega
  · obtain ⟨y, hy, hm⟩ := at_mem (l := l) r0 r1
    exact ⟨l, y, lst_n (n := 0) rfl, hy, q y c' s' d hm hs' fd⟩
end

section
theorem eqvA_ints : ∀ xs ys : List Int, PyData.eqvAll (xs.map .int) (ys.map .int) = decide (xs = ys)
  | [], [] => by simp [PyData.eqvAll]
  | [], _ :: _ => by simp [PyData.eqvAll]
  | _ :: _, [] => by simp [PyData.eqvAll]
  | x :: xs, y :: ys => by
    show (PyData.eqv (.int x) (.int y) && PyData.eqvAll (xs.map .int) (ys.map .int)) = _
    rw [eqvA_ints xs ys]
    have : PyData.eqv (.int x) (.int y) = decide (x = y) := by
      show (x == y) = _
      by_cases e : x = y <;> simp [e]
    rw [this]
    by_cases e1 : x = y <;> by_cases e2 : xs = ys <;> simp [e1, e2]
theorem eqvL_ints (xs ys : List Int) : PyData.eqv (.list (xs.map .int)) (.list (ys.map .int)) = decide (xs = ys) := eqvA_ints xs ys
theorem natsD_ints (l : List Nat) : natsD l = (l.map fun (n : Nat) => (n : Int)).map PyData.int := by unfold natsD; rw [List.map_map]; rfl
theorem eqvL_nats (l m : List Nat) : PyData.eqv (.list (natsD l)) (.list (natsD m)) = decide (l = m) := by
  rw [natsD_ints, natsD_ints, eqvL_ints]
  by_cases e : l = m
  · subst e; simp
  · rw [decide_eq_false e, decide_eq_false]
    intro z
    exact e (natsD_inj (by rw [natsD_ints, natsD_ints, z]))
theorem eqvL_nil (ds : List PyData) : PyData.eqv (.list ds) (.list []) = ds.isEmpty := by
  cases ds <;> rfl
end

section
variable {K : PySem.W.Frag} {vs : List V} {G : Hp} {M : Mem} {R : KR} {Z : KX}
theorem LogC.ex {G' : Hp} {ts : List Tch} {o : HO} (e : Ex G G') (h : LogC K G ts o) : LogC K G' ts o := by
  obtain ⟨vs, rfl, h⟩ := h
  exact ⟨vs, rfl, ex_ds e _ h⟩
theorem dp_tch {T : Addr} {t : Tch} (h : SqT K G T [.str t.txt, .int t.shelf, .int t.room]) : Dp K G (.ref T) (tchD t) := .tup h (.cons (.str _) (.cons (.int _) (.cons (.int _) .nil)))
theorem LstN.at {n : Nat} {b : Addr} {xs : List V} (h : LstN K G M n b xs) : LstAt K G M b xs := by
  rcases h with ⟨i, _, h⟩ | h
  · exact lat_n h
  · exact .inr h
theorem LstN.set {n : Nat} {b : Addr} {xs : List V} {x : Addr × HO} (h : LstN K G M n b xs) : LstN K G (M.set n x) n b xs := by
  rcases h with ⟨i, e, h⟩ | h
  · exact .inl ⟨i, e, by rw [List.getElem?_set_ne e]; exact h⟩
  · exact .inr h
end

section
variable {K : PySem.W.Frag} {vs : List V} {G : Hp} {M : Mem} {R : KR} {Z : KX}
theorem eq_ref {a b : Addr} {d : PyData} {n : Nat} {neg : Bool} (ha : DatAt K G M (.ref a) d) (hb : DatAt K G M (.ref b) d) (sh : Shp n d) (hn : n ≤ 64) (q : R (.bl (!neg)) G M) : kEqv neg K (.ref a) (.ref b) G M R := by
  refine ⟨d, d, ha, hb, sh.shaped hn, sh.shaped hn, ?_⟩
  rw [sh.refl]
  cases neg <;> exact q
theorem eq_bools {a b : Addr} {l : List Bool} {neg : Bool} (ha : LstAt K G M a (l.map V.bl)) (hb : LstAt K G M b (l.map V.bl)) (q : R (.bl (!neg)) G M) : kEqv neg K (.ref a) (.ref b) G M R :=
  eq_ref (d := boolsD l) (dat_list ha (dats_g (dp_bools l))) (dat_list hb (dats_g (dp_bools l))) (shp_bools l) (by decide) q
theorem eq_nats {a b : Addr} {l : List Nat} {neg : Bool} (ha : LstAt K G M a (natsV l)) (hb : LstAt K G M b (natsV l)) (q : R (.bl (!neg)) G M) : kEqv neg K (.ref a) (.ref b) G M R :=
  eq_ref (dat_nats ha) (dat_nats hb) (shp_nats (n := 0) l) (by decide) q
theorem shp_tchs (ts : List Tch) : Shp 2 (.list (ts.map tchD)) := .list fun d hd => by
  obtain ⟨t, _, rfl⟩ := List.mem_map.mp hd
  refine .tuple fun d hd => ?_
  simp only [List.mem_cons, List.not_mem_nil, or_false] at hd
  rcases hd with rfl | rfl | rfl
  · refine .str ?_
    unfold Tch.txt; split
    · exact (by decide +kernel : PyData.strOk ("lay" : Str) = true)
    · exact (by decide +kernel : PyData.strOk ("look" : Str) = true)
  · exact .int
  · exact .int
theorem neq_self {x : V} (h : (!decide (x = x)) = true) : False := by rw [decide_eq_true rfl] at h; cases h
end

section
variable {K : PySem.W.Frag} {vs : List V} {G : Hp} {M : Mem} {R : KR} {Z : KX}
theorem pf_law_pool (h : S_law_pool K vs G M R Z) : rd_law_pool K (ends R Z) (sta 4 vs) G M := by
  obtain ⟨_, _, rfl, a, ns, k, rfl, rfl, hS, k0, k1, hl, q⟩ := sp2_of h
  have rest : ∀ cell : Int, rd_law_pool_2 K (ends R Z) [some (.ref a), some (.int k), some (.int cell), none] G M := fun cell => by
    refine ⟨G, M, Wk.refl, (by show (0 : Int) < _; decide), mul_l (by decide) (by decide), mul_r (by decide) (by decide), (by show (0 : Int) < _; decide), ?_⟩
    refine ⟨G, M, Wk.refl, pow10_18, mul_r (b01 _).1 (b01 _).2, sz2, fun p fp => ?_⟩
    exact ret0 (q p _ _ fp ⟨Int.emod_nonneg _ (by decide), Int.emod_lt_of_pos _ (by decide)⟩)
  refine ⟨G, M, Wk.refl, _, lst_g hS, ?_⟩
  refine ⟨G, M, Wk.refl, _, lst_g hS, ite2' (fun e => ?_) (fun e => rest _)⟩
  have e1 : k < ((ns.map V.int).length : Int) := of_decide_eq_true e
  rw [List.length_map] at e1
  exact ⟨G, M, Wk.refl, _, _, lst_g hS, atI_int k0 e1, rest _⟩
end

section
variable {K : PySem.W.Frag} {vs : List V} {G : Hp} {M : Mem} {R : KR} {Z : KX}
theorem it_len {n : Nat} (h : n < 10000) : (itT n).length ≤ 4 := by
  have h4 : (10 : Int) ^ 4 = 10000 := by decide
  refine PyProof.Rows.toString_length_le (v := (n : Int)) (by omega) (k := 4) (by decide) ?_
  rw [h4]; omega
theorem it_log {n : Nat} (h : n < 10000) : ((n : Int)).natAbs.log2 < 1920 := by
  have e : ((n : Int)).natAbs = n := by omega
  rw [e]
  by_cases z : n = 0
  · rw [z]; decide
  · have : n < 2 ^ 14 := by have : (2 : Nat) ^ 14 = 16384 := by decide
                            omega
    have := (Nat.log2_lt z).mpr this
    omega
theorem sum_len {B : Nat} : ∀ (ts : List Str), (∀ y, y ∈ ts → y.length ≤ B) → (ts.map (·.length)).sum ≤ ts.length * B
  | [], _ => by simp
  | y :: r, h => by
    have h1 := h y List.mem_cons_self
    have h2 := sum_len r fun z hz => h z (List.mem_cons_of_mem _ hz)
    simp only [List.map_cons, List.sum_cons, List.length_cons, Nat.succ_mul]
    omega
theorem app_len (a b : Str) : (a ++ b).length = a.length + b.length := by
  show (a.cps ++ b.cps).size = a.cps.size + b.cps.size
  exact Array.size_append
theorem join_len {sep : Str} : ∀ ts : List Str, (Txt.join sep ts).length ≤ (ts.map (·.length)).sum + ts.length * sep.length := fun ts => by
  rw [TL.join_eq]
  induction ts with
  | nil => exact Nat.zero_le _
  | cons x r ih =>
    cases r with
    | nil => show x.length ≤ _; simp only [List.map_cons, List.map_nil, List.sum_cons, List.sum_nil, List.length_cons, List.length_nil]; omega
    | cons y r =>
      show ((x ++ sep) ++ Str.join sep (y :: r)).length ≤ _
      rw [app_len, app_len]
      simp only [List.map_cons, List.sum_cons, List.length_cons, Nat.succ_mul] at ih ⊢
      omega
theorem join_pos {sep x : Str} (h : 0 < x.length) (r : List Str) : 0 < (Txt.join sep (x :: r)).length := by
  rw [TL.join_eq]
  cases r with
  | nil => exact h
  | cons y r =>
    show 0 < ((x ++ sep) ++ Str.join sep (y :: r)).length
    rw [app_len, app_len]
    omega
theorem cells_fit {l : List Nat} (h : CsSm l) : ((l.map itT).map (·.length)).sum + (l.map itT).length * (" " : Str).length ≤ 16777216 := by
  have h1 := sum_len (B := 4) (l.map itT) fun y hy => by
    obtain ⟨c, hc, rfl⟩ := List.mem_map.mp hy
    exact it_len (h.2 c hc)
  have h2 : (" " : Str).length = 1 := by decide
  have h3 := h.1
  rw [h2]
  rw [List.length_map] at h1 ⊢
  omega
theorem pf_show_cells (h : S_show_cells K vs G M R Z) : rd_show_cells K (ends R Z) (sta 2 vs) G M := by
  obtain ⟨_, rfl, a, l, rfl, hl, hs, q⟩ := sp1_of h
  refine ⟨G, M, Wk.refl, sz0, fun p fp => ?_⟩
  have hlM : ∀ {x : Addr × HO}, LstAt K G (x :: M) a (natsV l) := fun {x} => hl.elim (fun z => .inl (List.mem_cons_of_mem _ z)) .inr
  refine ⟨.list (natsD l), .list [], dat_nats hlM, dat_list lat_0 dats_nil, (shp_nats (n := 0) l).shaped (by decide), (shp_nats (n := 0) []).shaped (by decide), ?_⟩
  show if (PyData.eqv (.list (natsD l)) (.list [])) = true then _ else _
  rw [eqvL_nil]
  cases l with
  | nil => exact ⟨G, M, Wk.drop0, ret0 q⟩
  | cons c l =>
    refine ⟨G, M, Wk.drop0, ⟨_, rfl⟩, natsV (c :: l), hl, sz (by show (natsV (c :: l)).length ≤ _; rw [natsV_len]; have := hs.1; omega), fun i acc G' M' => G' = G ∧ M' = M ∧ acc = (((c :: l).take i).map itT).map V.str, ⟨rfl, rfl, rfl⟩, ?_, ?_, ?_⟩
    · rintro i acc G' M' _ ⟨rfl, rfl, _⟩; exact hl
    · rintro i acc G' M' X hi hacc ⟨rfl, rfl, rfl⟩ fX
      have hi : i < (natsV (c :: l)).length := hi
      rw [natsV_len] at hi
      obtain ⟨x, hx⟩ : ∃ x, (c :: l)[i]? = some x := ⟨_, List.getElem?_eq_getElem hi⟩
      refine asg_L (natsV_get hx) ⟨rfl, it_log (hs.2 x (List.mem_of_getElem? hx)), _, _, Wk.refl, rfl, rfl, ?_⟩
      rw [take_succ' hx, List.map_append, List.map_append]; rfl
    · rintro acc G' M' y ⟨rfl, rfl, rfl⟩ hacc fy
      have en : (srcL K a (natsV (c :: l))).n = (c :: l).length := natsV_len _
      rw [en, List.take_length]
      exact ⟨(c :: l).map itT, .inl lat_0, cells_fit hs, retW Wk.drop0 q⟩
end
section
variable {K : PySem.W.Frag} {vs : List V} {G : Hp} {M : Mem} {R : KR} {Z : KX}
theorem core_pos (b : Nat) : ∀ (fuel n : Nat) (ds : List Char), 0 < fuel ∨ 0 < ds.length → 0 < (Nat.toDigitsCore b fuel n ds).length
  | 0, n, ds, h => by
    rcases h with h | h
    · omega
    · exact h
  | fuel + 1, n, ds, _ => by
    unfold Nat.toDigitsCore
    dsimp only
    split
    · exact Nat.succ_pos _
    · exact core_pos b fuel _ _ (.inr (Nat.succ_pos _))
theorem it_pos (n : Nat) : 0 < (itT n).length := by
  unfold itT
  rw [PyProof.Rows.ofString_length]
  have e : (toString (n : Int)).toList = Nat.toDigits 10 n := by
    show (Nat.repr n).toList = _
    unfold Nat.repr
    simp
  rw [e]
  exact core_pos 10 _ _ _ (.inl (Nat.succ_pos _))
theorem cells_len {l : List Nat} (h : CsSm l) : (Txt.join " " (l.map itT)).length ≤ 500 := by
  have h1 := sum_len (B := 4) (l.map itT) fun y hy => by
    obtain ⟨c, hc, rfl⟩ := List.mem_map.mp hy
    exact it_len (h.2 c hc)
  have h2 : (" " : Str).length = 1 := by decide
  have h3 := h.1
  have h4 := join_len (sep := " ") (l.map itT)
  rw [h2] at h4
  rw [List.length_map] at h1 h4
  omega
theorem pf_law_words (h : S_law_words K vs G M R Z) : rd_law_words K (ends R Z) (sta 2 vs) G M := by
  obtain ⟨_, rfl, a, l, rfl, hl, hs, q⟩ := sp1_of h
  refine ⟨G, M, Wk.refl, ⟨_, rfl⟩, natsV l, hl, sz (by show (natsV l).length ≤ _; rw [natsV_len]; have := hs.1; omega), fun i acc G' M' => G' = G ∧ M' = M ∧ acc = ((l.take i).map itT).map V.str, ⟨rfl, rfl, rfl⟩, ?_, ?_, ?_⟩
  · rintro i acc G' M' _ ⟨rfl, rfl, _⟩; exact hl
  · rintro i acc G' M' X hi hacc ⟨rfl, rfl, rfl⟩ fX
    have hi : i < (natsV l).length := hi
    rw [natsV_len] at hi
    obtain ⟨x, hx⟩ : ∃ x, l[i]? = some x := ⟨_, List.getElem?_eq_getElem hi⟩
    refine asg_L (natsV_get hx) ⟨rfl, it_log (hs.2 x (List.mem_of_getElem? hx)), _, _, Wk.refl, rfl, rfl, ?_⟩
    rw [take_succ' hx, List.map_append, List.map_append]; rfl
  · rintro acc G' M' y ⟨rfl, rfl, rfl⟩ hacc fy
    have en : (srcL K a (natsV l)).n = l.length := natsV_len _
    rw [en, List.take_length]
    refine ⟨l.map itT, .inl lat_0, cells_fit hs, sz (Nat.le_trans (cells_len hs) (by decide)), ?_⟩
    cases l with
    | nil => exact retW Wk.drop0 q
    | cons c l =>
      have hp := join_pos (sep := " ") (x := itT c) (it_pos c) (l.map itT)
      have e : (((Txt.join " " ((c :: l).map itT)).length : Int) != 0) = true := bne_iff_ne.mpr (by
        have hp : 0 < (Txt.join " " ((c :: l).map itT)).length := hp
        omega)
      rw [e]
      exact retW Wk.drop0 q
end
section
variable {K : PySem.W.Frag} {vs : List V} {G : Hp} {M : Mem} {R : KR} {Z : KX}
theorem lat_more {a : Addr} {xs : List V} {Mx : Mem} (h : LstAt K G M a xs) : LstAt K G (Mx ++ M) a xs := h.elim (fun z => .inl (List.mem_append.mpr (.inr z))) .inr
theorem cellsT_len {l : List Nat} (h : CsSm l) : (cellsT l).length ≤ 500 := by
  unfold cellsT
  split
  · decide
  · exact cells_len h
def LsAt (K : PySem.W.Frag) (G : Hp) (M : Mem) (v : V) (l : List Nat) : Prop := ∃ b, v = .ref b ∧ LstAt K G M b (natsV l)
theorem ls_dats {us : List V} {ls : List (List Nat)} (h : A2 (fun v l => ∃ b, v = .ref b ∧ LstAt K G M b (natsV l)) us ls) (Mx : Mem) : DatAll K G (Mx ++ M) us (ls.map fun l => PyData.list (natsD l)) := by
  induction h with
  | nil => exact dats_nil
  | cons h _ ih =>
    obtain ⟨b, rfl, hb⟩ := h
    exact dats_cons (dat_nats (lat_more hb)) ih
theorem shp_ls (ls : List (List Nat)) : Shp 2 (.list (ls.map fun l => PyData.list (natsD l))) := .list fun d hd => by
  obtain ⟨l, _, rfl⟩ := List.mem_map.mp hd
  exact shp_nats (n := 0) l
theorem pf_show_pocket (h : S_show_pocket K vs G M R Z) : rd_show_pocket K (ends R Z) (sta 2 vs) G M := by
  obtain ⟨_, rfl, a, rfl, hh⟩ := sp1_of h
  rcases hh with ⟨l, hl, hs, q⟩ | ⟨us, ls, hl, hls, hne, h10, hs, q⟩
  · refine ⟨G, M, Wk.refl, sz0, fun p fp => ?_⟩
    refine ⟨.list (natsD l), .list [], dat_nats (lat_more (Mx := [_]) hl), dat_list lat_0 dats_nil, (shp_nats (n := 0) l).shaped (by decide), (shp_nats (n := 0) []).shaped (by decide), ?_⟩
    show if (!PyData.eqv (.list (natsD l)) (.list [])) = true then _ else _
    rw [eqvL_nil]
    cases l with
    | nil => exact ⟨G, M, Wk.drop0, a, [], rfl, hl, hs, ret0 q⟩
    | cons c l =>
      refine ⟨natsV (c :: l), _, .inl (lat_more (Mx := [_]) hl), atI_nat (j := 0) rfl, isi_pt PT.list ty_int ?_⟩
      exact ⟨G, M, Wk.drop0, a, c :: l, rfl, hl, hs, ret0 q⟩
  · refine ⟨G, M, Wk.refl, sz0, fun p fp => ?_⟩
    refine ⟨.list (ls.map fun l => PyData.list (natsD l)), .list [], dat_list (lat_more (Mx := [_]) hl) (ls_dats hls [_]), dat_list lat_0 dats_nil, (shp_ls ls).shaped (by decide), (shp_nats (n := 0) []).shaped (by decide), ?_⟩
    show if (!PyData.eqv (.list (ls.map fun l => PyData.list (natsD l))) (.list [])) = true then _ else _
    rw [eqvL_nil]
    obtain ⟨l0, lr, rfl⟩ : ∃ x r, ls = x :: r := by
      cases ls with
      | nil => exact absurd rfl hne
      | cons x r => exact ⟨x, r, rfl⟩
    obtain ⟨v0, hv0, b0, rfl, hb0⟩ := hls.get (i := 0) (b := l0) rfl
    refine ⟨us, _, .inl (lat_more (Mx := [_]) hl), atI_nat (j := 0) hv0, isi_pt PT.list (ty_lst (lat_more (Mx := [_]) hb0)) ?_⟩
    have hul : us.length = (l0 :: lr).length := hls.len
    refine ⟨G, M, Wk.drop0, ⟨_, rfl⟩, us, hl, sz (by show us.length ≤ _; omega), fun i acc G' M' => G' = G ∧ M' = M ∧ acc = (((l0 :: lr).take i).map cellsT).map V.str, ⟨rfl, rfl, rfl⟩, ?_, ?_, ?_⟩
    · rintro i acc G' M' _ ⟨rfl, rfl, _⟩; exact hl
    · rintro i acc G' M' X hi hacc ⟨rfl, rfl, rfl⟩ fX
      have hi : i < us.length := hi
      obtain ⟨x, hx⟩ : ∃ x, (l0 :: lr)[i]? = some x := ⟨_, List.getElem?_eq_getElem (by omega)⟩
      obtain ⟨v, hv, b, rfl, hb⟩ := hls.get hx
      refine asg_L hv ⟨rfl, b, x, rfl, lat_more (Mx := [_]) hb, hs x (List.mem_of_getElem? hx), _, _, Wk.refl, rfl, rfl, ?_⟩
      rw [take_succ' hx, List.map_append, List.map_append]; rfl
    · rintro acc G' M' y ⟨rfl, rfl, rfl⟩ hacc fy
      have en : (srcL K a us).n = (l0 :: lr).length := hul
      rw [en, List.take_length]
      refine ⟨(l0 :: lr).map cellsT, .inl lat_0, ?_, retW Wk.drop0 q⟩
      have h1 := sum_len (B := 500) ((l0 :: lr).map cellsT) fun y hy => by
        obtain ⟨c, hc, rfl⟩ := List.mem_map.mp hy
        exact cellsT_len (hs c hc)
      have h2 : (" / " : Str).length = 3 := by decide
      rw [h2]
      rw [List.length_map] at h1 ⊢
      omega
end
section
variable {K : PySem.W.Frag} {vs : List V} {G : Hp} {M : Mem} {R : KR} {Z : KX}
theorem empty_app (a : Str) : Str.empty ++ a = a := by
  show (⟨#[] ++ a.cps⟩ : Str) = a
  rw [Array.empty_append]
theorem txt_len (t : Tch) : t.txt.length ≤ 4 := by
  obtain ⟨b, s, r⟩ := t
  cases b
  · exact (by decide : ("look" : Str).length ≤ 4)
  · exact (by decide : ("lay" : Str).length ≤ 4)
theorem tcT_len {t : Tch} (h : TcSm t) : (tcT t).length ≤ 14 := by
  have h1 := txt_len t
  have h2 := it_len h.1
  have h3 := it_len h.2
  have h4 : (" " : Str).length = 1 := by decide
  unfold tcT
  rw [app_len, app_len, app_len, app_len, h4]
  omega
theorem tc_dp {us : List V} {ts : List Tch} (h : A2 (TcAt K G) us ts) : DpAll K G us (ts.map tchD) := by
  induction h with
  | nil => exact .nil
  | cons h _ ih =>
    obtain ⟨T, rfl, hT⟩ := h
    exact .cons (dp_tch hT) ih
theorem tcs_fit {ts : List Tch} (hl : ts.length ≤ 100) (h : ∀ t, t ∈ ts → TcSm t) : ((ts.map tcT).map (·.length)).sum + (ts.map tcT).length * (", " : Str).length ≤ 16777216 ∧ (Txt.join ", " (ts.map tcT)).length ≤ 2000 := by
  have h1 := sum_len (B := 14) (ts.map tcT) fun y hy => by
    obtain ⟨c, hc, rfl⟩ := List.mem_map.mp hy
    exact tcT_len (h c hc)
  have h2 : (", " : Str).length = 2 := by decide
  have h4 := join_len (sep := ", ") (ts.map tcT)
  rw [h2] at h4 ⊢
  rw [List.length_map] at h1 h4 ⊢
  omega
theorem pf_show_touches (h : S_show_touches K vs G M R Z) : rd_show_touches K (ends R Z) (sta 4 vs) G M := by
  obtain ⟨_, rfl, a, us, ts, rfl, hl, ha, h100, hs, q⟩ := sp1_of h
  refine ⟨G, M, Wk.refl, sz0, fun p fp => ?_⟩
  refine ⟨.list (ts.map tchD), .list [], dat_list (lat_more (Mx := [_]) hl) (dats_g (tc_dp ha)), dat_list lat_0 dats_nil, (shp_tchs ts).shaped (by decide), (shp_nats (n := 0) []).shaped (by decide), ?_⟩
  show if (PyData.eqv (.list (ts.map tchD)) (.list [])) = true then _ else _
  rw [eqvL_nil]
  cases ts with
  | nil => exact ⟨G, M, Wk.drop0, ret0 (q G Ex.refl)⟩
  | cons t0 tr =>
    have hul : us.length = (t0 :: tr).length := ha.len
    refine ⟨G, M, Wk.drop0, ⟨_, rfl⟩, us, hl, sz (by show us.length ≤ _; omega), fun i acc G' M' => G' = G ∧ M' = M ∧ acc = (((t0 :: tr).take i).map tcT).map V.str, ⟨rfl, rfl, rfl⟩, ?_, ?_, ?_⟩
    · rintro i acc G' M' _ ⟨rfl, rfl, _⟩; exact hl
    · rintro i acc G' M' X hi hacc ⟨rfl, rfl, rfl⟩ fX
      have hi : i < us.length := hi
      obtain ⟨t, ht⟩ : ∃ t, (t0 :: tr)[i]? = some t := ⟨_, List.getElem?_eq_getElem (by omega)⟩
      obtain ⟨v, hv, T, rfl, hT⟩ := ha.get ht
      have hsm := hs t (List.mem_of_getElem? ht)
      have l1 := txt_len t
      have l2 := it_len hsm.1
      have l3 := it_len hsm.2
      have l4 : (" " : Str).length = 1 := by decide
      have l5 : Str.empty.length = 0 := by decide
      refine asg_L hv ⟨_, hT, rfl, sz (by omega), sz (by rw [app_len]; omega), sz (by rw [app_len, app_len]; omega), it_log hsm.1, sz (by rw [app_len, app_len, app_len]; show _ + (itT t.shelf).length ≤ _; omega), sz (by rw [app_len, app_len, app_len, app_len]; show _ + (itT t.shelf).length + _ ≤ _; omega), it_log hsm.2, sz (by rw [app_len, app_len, app_len, app_len, app_len]; show _ + (itT t.shelf).length + _ + (itT t.room).length ≤ _; omega), _, _, Wk.refl, rfl, rfl, ?_⟩
      rw [take_succ' ht, List.map_append, List.map_append, empty_app]; rfl
    · rintro acc G' M' y ⟨rfl, rfl, rfl⟩ hacc fy
      have en : (srcL K a us).n = (t0 :: tr).length := hul
      rw [en, List.take_length]
      exact ⟨(t0 :: tr).map tcT, .inl lat_0, (tcs_fit h100 hs).1, retW Wk.drop0 (q _ Ex.refl)⟩
end
section
variable {K : PySem.W.Frag} {vs : List V} {G : Hp} {M : Mem} {R : KR} {Z : KX}
theorem nv_app (a b : List Nat) : natsV (a ++ b) = natsV a ++ natsV b := List.map_append
theorem nv_ints (l : List Nat) : (l.map fun (n : Nat) => (n : Int)).map V.int = natsV l := by
  unfold natsV; rw [List.map_map]; rfl
theorem pf_law_touch (h : S_law_touch K vs G M R Z) : rd_law_touch K (ends R Z) (sta 2 vs) G M := by
  obtain ⟨_, rfl, p, n, c, s, rfl, hn, hs, q⟩ := sp1_of h
  refine ⟨G, M, Wk.refl, pick (n := n) (l := [V.int 10, .int 100, .int 10000]) hn hs (by decide) (by decide) fun y c1 s1 d hy hs1 fd => ?_⟩
  obtain ⟨m, rfl, m0, m1⟩ : ∃ m : Nat, y = .int m ∧ 1 ≤ m ∧ m ≤ 10000 := by
    simp only [List.mem_cons, List.not_mem_nil, or_false] at hy
    rcases hy with rfl | rfl | rfl
    · exact ⟨10, rfl, by decide, by decide⟩
    · exact ⟨100, rfl, by decide, by decide⟩
    · exact ⟨10000, rfl, by decide, by decide⟩
  have h200 : (10000 : Int) < 2 ^ 200 := by decide
  refine ⟨G, M.set n (p, pool c1 s1), Wk.drop0, pick (n := n) (l := [V.str "look", .str "lay"]) (set_n hn) hs1 (by decide) (by decide) fun y c2 s2 d2 hy2 hs2 fd2 => ?_⟩
  rw [List.set_set]
  obtain ⟨b, rfl⟩ : ∃ b : Bool, y = .str (Tch.txt ⟨b, 0, 0⟩) := by
    simp only [List.mem_cons, List.not_mem_nil, or_false] at hy2
    rcases hy2 with rfl | rfl
    · exact ⟨false, rfl⟩
    · exact ⟨true, rfl⟩
  refine ⟨p, m, n + 1, c2, s2, rfl, rfl, set_n hn, hs2, by omega, by omega, fun r1 c3 s3 a0 a1 hs3 => ?_⟩
  refine ⟨p, m, n + 1, c3, s3, rfl, rfl, set_n (set_n hn), hs3, by omega, by omega, fun r2 c4 s4 b0 b1 hs4 => ?_⟩
  refine ⟨sz3, fun T fT => ?_⟩
  obtain ⟨x1, rfl⟩ := Int.eq_ofNat_of_zero_le a0
  obtain ⟨x2, rfl⟩ := Int.eq_ofNat_of_zero_le b0
  have eT := Ex.new (o := .tup [.str (Tch.txt ⟨b, 0, 0⟩), .int (x1 : Int), .int (x2 : Int)]) fT
  refine retW (M' := M.set n (p, pool c4 s4)) ?_ (q T ⟨b, x1, x2⟩ c4 s4 _ eT sqt_new ⟨by show x1 < 10000; omega, by show x2 < 10000; omega⟩ hs4)
  simp only [List.set_cons_succ, List.set_set]
  exact Wk.drop0
theorem pf_law_cells (h : S_law_cells K vs G M R Z) : rd_law_cells K (ends R Z) (sta 2 vs) G M := by
  obtain ⟨_, rfl, p, n, c, s, rfl, hn, hs, q⟩ := sp1_of h
  refine ⟨G, M, Wk.refl, p, 7, n, c, s, rfl, rfl, hn, hs, by decide, by decide, fun r c1 s1 r0 r1 hs1 => ?_⟩
  refine ⟨by omega, sz (by show r.toNat ≤ _; omega), fun i acc G' M' => ∃ (l : List Nat) (c s : Int), G' = G ∧ acc = natsV l ∧ M' = M.set n (p, pool c s) ∧ PoolOk s ∧ l.length = i ∧ ∀ x, x ∈ l → x < 32, ⟨[], c1, s1, rfl, rfl, rfl, hs1, rfl, fun _ z => nomatch z⟩, fun _ _ _ _ _ _ => trivial, ?_, ?_⟩
  · rintro i acc G' M' D hi hacc ⟨l, c2, s2, rfl, rfl, rfl, hs2, hl, hx⟩ fD
    have hi : i < r.toNat := hi
    refine asg_R (v := (i : Int)) (by omega) ⟨rfl, p, 32, n + 1, c2, s2, rfl, rfl, set_n hn, hs2, by decide, by decide, fun r2 c3 s3 a0 a1 hs3 => ?_⟩
    obtain ⟨x, rfl⟩ := Int.eq_ofNat_of_zero_le a0
    refine ⟨_, M.set n (p, pool c3 s3), by simp only [List.set_cons_succ, List.set_set]; exact Wk.refl, l ++ [x], c3, s3, rfl, by rw [nv_app]; rfl, rfl, hs3, by rw [List.length_append, hl]; rfl, fun y hy => ?_⟩
    rcases List.mem_append.mp hy with hy | hy
    · exact hx y hy
    · rw [List.mem_singleton.mp hy]; omega
  rintro acc G' M' y ⟨l, c2, s2, rfl, rfl, rfl, hs2, hl, hx⟩ hacc fy
  have hl : l.length = r.toNat := hl
  refine ⟨l.map fun (n : Nat) => (n : Int), by rw [nv_ints]; exact lat_0, by rw [List.length_map]; omega, fun t ms ft hpw hmem hml => ?_⟩
  rw [List.length_map] at hml
  have hms : ms.map V.int = natsV (ms.map Int.toNat) := by
    unfold natsV
    rw [List.map_map]
    refine List.map_congr_left fun k hk => ?_
    obtain ⟨x, hx2, e⟩ := List.mem_map.mp ((hmem k).mp hk)
    subst e
    rfl
  rw [hms]
  refine retW (M' := (t, .lst (natsV (ms.map Int.toNat))) :: M.set n (p, pool c2 s2)) ?_ (q t _ c2 s2 ⟨by rw [List.length_map]; omega, fun k hk => ?_⟩ hs2)
  · exact (Wk.perm (M' := (y, .lst (natsV l)) :: (t, .lst (natsV (ms.map Int.toNat))) :: M.set n (p, pool c2 s2)) (List.Perm.swap _ _ _)).trans Wk.drop0
  · obtain ⟨z, hz, rfl⟩ := List.mem_map.mp hk
    obtain ⟨x, hx2, e⟩ := List.mem_map.mp ((hmem z).mp hz)
    have := hx x hx2
    subst e
    show x < 10000
    omega
end
section
variable {K : PySem.W.Frag} {vs : List V} {G : Hp} {M : Mem} {R : KR} {Z : KX}
theorem TcAt.ex {G' : Hp} {v : V} {t : Tch} (e : Ex G G') (h : TcAt K G v t) : TcAt K G' v t := by
  obtain ⟨T, rfl, hT⟩ := h
  exact ⟨T, rfl, ex_t e hT⟩
theorem neq_self' {v : V} {A : Prop} (e : (!decide (v = v)) = true) : A := by
  rw [decide_eq_true rfl] at e; cases e
/-- the first half: touches shown -/
theorem right_a {p : Addr} {c s : Int} {D : Kd} (hs : PoolOk s)
    (q : ∀ (G' : Hp) (M' : Mem) (c s : Int) (y1 y3 y4 y8 : Option V), Ex G G' → PoolOk s → Wk G' M' G' [(p, pool c s)] → rd_law_right_5 K D [some (.ref p), y1, none, y3, y4, none, none, none, y8, none, none, none, none] G' M') :
    rd_law_right K D [some (.ref p), none, none, none, none, none, none, none, none, none, none, none, none] G [(p, pool c s)] := by
  refine ⟨G, _, Wk.refl, p, 13, 0, c, s, rfl, rfl, rfl, hs, by decide, by decide, fun r c1 s1 r0 r1 hs1 => ?_⟩
  refine ⟨by omega, sz (by show r.toNat ≤ _; omega), fun i acc G' M' => ∃ (ts : List Tch) (c s : Int), Ex G G' ∧ M' = [(p, pool c s)] ∧ PoolOk s ∧ ts.length = i ∧ A2 (TcAt K G') acc ts ∧ ∀ t, t ∈ ts → TcSm t, ⟨[], c1, s1, Ex.refl, rfl, hs1, rfl, .nil, fun _ z => nomatch z⟩, fun _ _ _ _ _ _ => trivial, ?_, ?_⟩
  · rintro i acc G' M' X hi hacc ⟨ts, c2, s2, ex, rfl, hs2, hl, ha, hsm⟩ fX
    have hi : i < r.toNat := hi
    refine asg_R (v := (i : Int)) (by omega) ⟨rfl, p, 1, c2, s2, rfl, rfl, hs2, fun T t c3 s3 G3 ex3 hT ht hs3 => ?_⟩
    refine ⟨G3, [(p, pool c3 s3)], Wk.refl, ts ++ [t], c3, s3, ex.trans ex3, rfl, hs3, by rw [List.length_append, hl]; rfl, (ha.mono fun _ _ z => z.ex ex3).app (.cons ⟨T, rfl, hT⟩ .nil), fun x hx => ?_⟩
    rcases List.mem_append.mp hx with hx | hx
    · exact hsm x hx
    · rw [List.mem_singleton.mp hx]; exact ht
  rintro av G1 M' tl ⟨ts, c2, s2, ex1, rfl, hs2, hl, ha, hsm⟩ hacc ftl
  have hl : ts.length = r.toNat := hl
  have h100 : ts.length ≤ 100 := by omega
  have hul : av.length = ts.length := ha.len
  clear hacc
  refine ⟨G1, _, Wk.refl, av, lst_n (n := 0) rfl, fun h fh => ?_⟩
  refine ⟨G1, _, Wk.refl, av, lat_n (n := 1) rfl, sz (by show av.length ≤ _; omega), fun i acc G' M' => G' = G1 ∧ M' = (h, .lst av) :: (tl, .lst av) :: [(p, pool c2 s2)] ∧ acc = ((ts.take i).map tcT).map V.str, ⟨rfl, rfl, rfl⟩, ?_, ?_, ?_⟩
  · rintro i acc G' M' _ ⟨rfl, rfl, _⟩; exact lat_n (n := 1) rfl
  · rintro i acc G' M' X hi hacc ⟨rfl, rfl, rfl⟩ fX
    have hi : i < av.length := hi
    obtain ⟨t, ht⟩ : ∃ t, ts[i]? = some t := ⟨_, List.getElem?_eq_getElem (by omega)⟩
    obtain ⟨v, hv, T, rfl, hT⟩ := ha.get ht
    have hst := hsm t (List.mem_of_getElem? ht)
    have l1 := txt_len t
    have l2 := it_len hst.1
    have l3 := it_len hst.2
    have l4 : (" " : Str).length = 1 := by decide
    refine asg_L hv ⟨_, hT, rfl, sz (by omega), it_log hst.1, sz (by rw [app_len]; show _ + (itT t.shelf).length ≤ _; omega), sz (by rw [app_len, app_len]; show _ + (itT t.shelf).length + _ ≤ _; omega), it_log hst.2, sz (by rw [app_len, app_len, app_len]; show _ + (itT t.shelf).length + _ + (itT t.room).length ≤ _; omega), _, _, Wk.refl, rfl, rfl, ?_⟩
    rw [take_succ' ht, List.map_append, List.map_append]; rfl
  rintro acc G' M' wl ⟨rfl, rfl, rfl⟩ hacc fwl
  have en : (srcL K tl av).n = ts.length := hul
  rw [en, List.take_length]
  clear hacc
  obtain ⟨f1, f2⟩ := tcs_fit h100 hsm
  refine ⟨G', _, Wk.refl, ⟨_, rfl⟩, ts.map tcT, .inl lat_0, f1, sz (Nat.le_trans f2 (by decide)), ?_⟩
  have go : ∀ {y8 : V}, y8 = .str (touchesT ts) → rd_law_right_4 K D [some (.ref p), some (.ref tl), none, some (.ref h), some (.ref wl), none, none, none, some y8, none, none, none, none] G' ((wl, .lst ((ts.map tcT).map V.str)) :: (h, .lst av) :: (tl, .lst av) :: [(p, pool c2 s2)]) := fun {y8} e => by
    subst e
    refine ⟨G', _, Wk.refl, h, av, ts, rfl, lat_n (n := 1) rfl, ha, h100, hsm, fun G2 ex2 => ?_⟩
    have ha2 := ha.mono (r' := TcAt K G2) fun _ _ z => z.ex ex2
    refine ite2' (c := !decide (V.str (touchesT ts) = .str (touchesT ts))) (fun e => neq_self' e) (fun _ => ?_)
    refine eq_ref (n := 2) (neg := true) (dat_list (lat_n (n := 1) rfl) (dats_g (tc_dp ha2))) (dat_list (lat_n (n := 2) rfl) (dats_g (tc_dp ha2))) (shp_tchs _) (by decide) ?_
    exact q G2 _ c2 s2 _ _ _ _ (ex1.trans ex2) hs2 (Wk.dropP [_, _, _])
  cases ts with
  | nil => exact go rfl
  | cons t tr =>
    have hp := join_pos (sep := ", ") (x := tcT t) (by unfold tcT; rw [app_len, app_len, app_len, app_len]; have := it_pos t.room; omega) (tr.map tcT)
    have e : (((Txt.join ", " ((t :: tr).map tcT)).length : Int) != 0) = true := bne_iff_ne.mpr (by
      have hp : 0 < (Txt.join ", " ((t :: tr).map tcT)).length := hp
      omega)
    rw [e]
    exact go rfl
end
section
variable {K : PySem.W.Frag} {vs : List V} {G : Hp} {M : Mem} {R : KR} {Z : KX}
theorem gA {B N : Mem} {n : Nat} {x : Addr × HO} (h : N[n]? = some x) : (B ++ N)[B.length + n]? = some x := by
  rw [List.getElem?_append_right (by omega), Nat.add_sub_cancel_left]; exact h
theorem sA {B N : Mem} {n : Nat} {x : Addr × HO} : (B ++ N).set (B.length + n) x = B ++ N.set n x := by
  rw [List.set_append_right _ _ (by omega), Nat.add_sub_cancel_left]
def cN (x : Addr × List Nat) : Addr × HO := (x.1, .lst (natsV x.2))
def rN (bs : List (Addr × List Nat)) : List V := bs.map fun x => V.ref x.1
theorem a2_cN : ∀ {bs : List (Addr × List Nat)}, (∀ x, x ∈ bs → cN x ∈ M) → A2 (fun v l => ∃ b, v = V.ref b ∧ LstAt K G M b (natsV l)) (rN bs) (bs.map (·.2))
  | [], _ => .nil
  | x :: bs, h => .cons ⟨x.1, rfl, .inl (h x List.mem_cons_self)⟩ (a2_cN fun y hy => h y (List.mem_cons_of_mem _ hy))
theorem right_5 {p : Addr} {c s : Int} {y1 y3 y4 y8 : Option V} (hs : PoolOk s) (k : ∀ G', Ex G G' → R (.bl true) G' []) :
    rd_law_right_5 K (ends R Z) [some (.ref p), y1, none, y3, y4, none, none, none, y8, none, none, none, none] G [(p, pool c s)] := by
  refine ⟨G, _, Wk.refl, p, 0, c, s, rfl, rfl, hs, fun q0 l0 c1 s1 h0 hs1 => ?_⟩
  refine ⟨G, (q0, .lst (natsV l0)) :: [(p, pool c1 s1)], Wk.refl, p, 3, 1, c1, s1, rfl, rfl, rfl, hs1, by decide, by decide, fun r c2 s2 r0 r1 hs2 => ?_⟩
  refine ⟨by omega, sz (by show (1 + r).toNat ≤ _; omega), fun i acc G' M' => ∃ (bs : List (Addr × List Nat)) (c s : Int), G' = G ∧ acc = rN bs ∧ M' = bs.map cN ++ [(q0, .lst (natsV l0)), (p, pool c s)] ∧ PoolOk s ∧ bs.length = i ∧ ∀ x, x ∈ bs → CsSm x.2, ⟨[], c2, s2, rfl, rfl, rfl, hs2, rfl, fun _ z => nomatch z⟩, fun _ _ _ _ _ _ => trivial, ?_, ?_⟩
  · rintro i acc G' M' X hi hacc ⟨bs, c3, s3, rfl, rfl, rfl, hs3, hl, hx⟩ fX
    have hi : i < (1 + r).toNat := hi
    refine asg_R (v := (i : Int)) (by omega) ⟨rfl, p, ((X, HO.lst (rN bs)) :: bs.map cN).length + 1, c3, s3, rfl, gA (B := (X, HO.lst (rN bs)) :: bs.map cN) rfl, hs3, fun q l c4 s4 h4 hs4 => ?_⟩
    have e : ((X, HO.lst (rN bs)) :: (bs.map cN ++ [(q0, .lst (natsV l0)), (p, pool c3 s3)])).set (((X, HO.lst (rN bs)) :: bs.map cN).length + 1) (p, pool c4 s4) = ((X, HO.lst (rN bs)) :: bs.map cN) ++ [(q0, .lst (natsV l0)), (p, pool c4 s4)] := sA (B := (X, HO.lst (rN bs)) :: bs.map cN) (N := [(q0, .lst (natsV l0)), (p, pool c3 s3)]) (n := 1)
    rw [e]
    refine ⟨_, (bs ++ [(q, l)]).map cN ++ [(q0, .lst (natsV l0)), (p, pool c4 s4)], Wk.perm ?_, bs ++ [(q, l)], c4, s4, rfl, by unfold rN; rw [List.map_append]; rfl, rfl, hs4, by rw [List.length_append, hl]; rfl, fun x hx2 => ?_⟩
    · rw [List.map_append]
      show List.Perm ((X, HO.lst (rN bs)) :: ((bs.map cN ++ [(q, HO.lst (natsV l))]) ++ [(q0, .lst (natsV l0)), (p, pool c4 s4)])) ((q, HO.lst (natsV l)) :: (((X, HO.lst (rN bs)) :: bs.map cN) ++ [(q0, .lst (natsV l0)), (p, pool c4 s4)]))
      (classical (rw [List.perm_iff_count]; intro x; simp only [List.set_cons_zero, List.set_cons_succ, List.cons_append, List.nil_append, List.append_assoc, List.append_eq, List.count_append, List.count_cons, List.count_nil] <;> omega))
    · rcases List.mem_append.mp hx2 with hx2 | hx2
      · exact hx x hx2
      · rw [List.mem_singleton.mp hx2]; exact h4
  rintro acc G' M' sv ⟨bs, c3, s3, rfl, rfl, rfl, hs3, hl, hx⟩ hacc fsv
  have hl : bs.length = (1 + r).toNat := hl
  have hrl : (rN bs).length = bs.length := by unfold rN; rw [List.length_map]
  clear hacc
  obtain ⟨M6, hM6⟩ : ∃ M6, M6 = (sv, HO.lst (rN bs)) :: (bs.map cN ++ [(q0, .lst (natsV l0)), (p, pool c3 s3)]) := ⟨_, rfl⟩
  have hsv : (sv, HO.lst (rN bs)) ∈ M6 := by rw [hM6]; exact List.mem_cons_self
  have hq0 : (q0, HO.lst (natsV l0)) ∈ M6 := by rw [hM6]; simp
  have hbs : ∀ x, x ∈ bs → cN x ∈ M6 := fun x hx => by rw [hM6]; exact List.mem_cons_of_mem _ (List.mem_append.mpr (.inl (List.mem_map.mpr ⟨x, hx, rfl⟩)))
  refine ⟨G', M6, by rw [hM6]; exact Wk.refl, rN bs, .inl hsv, sz (by show (rN bs).length ≤ _; omega), fun i acc G2 M2 => ∃ es : List (Addr × List Nat), G2 = G' ∧ acc = rN es ∧ M2 = es.map cN ++ M6 ∧ es.map (·.2) = (bs.map (·.2)).take i, ⟨[], rfl, rfl, rfl, rfl⟩, ?_, ?_, ?_⟩
  · rintro i acc G2 M2 _ ⟨es, rfl, _, rfl, _⟩; exact .inl (List.mem_append.mpr (.inr hsv))
  · rintro i acc G2 M2 X hi hacc ⟨es, rfl, rfl, rfl, he⟩ fX
    have hi : i < (rN bs).length := hi
    obtain ⟨x, hxi⟩ : ∃ x, bs[i]? = some x := ⟨_, List.getElem?_eq_getElem (by omega)⟩
    refine asg_L (v := .ref x.1) (by unfold rN; rw [List.getElem?_map, hxi]; rfl) ⟨rfl, natsV x.2, .inl (.inl (List.mem_cons_of_mem _ (List.mem_append.mpr (.inr (hbs x (List.mem_of_getElem? hxi)))))), fun p2 f2 => ?_⟩
    refine ⟨_, (es ++ [(p2, x.2)]).map cN ++ M6, Wk.perm ?_, es ++ [(p2, x.2)], rfl, by unfold rN; rw [List.map_append]; rfl, rfl, ?_⟩
    · rw [List.map_append]
      show List.Perm ((X, HO.lst (rN es)) :: ((es.map cN ++ [(p2, HO.lst (natsV x.2))]) ++ M6)) ((p2, HO.lst (natsV x.2)) :: (X, HO.lst (rN es)) :: (es.map cN ++ M6))
      (classical (rw [List.perm_iff_count]; intro x; simp only [List.set_cons_zero, List.set_cons_succ, List.cons_append, List.nil_append, List.append_assoc, List.append_eq, List.count_append, List.count_cons, List.count_nil] <;> omega))
    · rw [List.map_append, he, take_succ' (l := bs.map (·.2)) (x := x.2) (by rw [List.getElem?_map, hxi]; rfl)]; rfl
  rintro acc G2 M2 kv ⟨es, rfl, rfl, rfl, he⟩ hacc fkv
  have he : es.map (·.2) = (bs.map (·.2)).take (rN bs).length := he
  rw [hrl, List.take_of_length_le (by rw [List.length_map]; exact Nat.le_refl _)] at he
  clear hacc
  obtain ⟨M7, hM7⟩ : ∃ M7, M7 = (kv, HO.lst (rN es)) :: (es.map cN ++ M6) := ⟨_, rfl⟩
  have hkv : (kv, HO.lst (rN es)) ∈ M7 := by rw [hM7]; exact List.mem_cons_self
  have h67 : ∀ x, x ∈ M6 → x ∈ M7 := fun x hx => by rw [hM7]; exact List.mem_cons_of_mem _ (List.mem_append.mpr (.inr hx))
  have hes : ∀ x, x ∈ es → cN x ∈ M7 := fun x hx => by rw [hM7]; exact List.mem_cons_of_mem _ (List.mem_append.mpr (.inl (List.mem_map.mpr ⟨x, hx, rfl⟩)))
  have hel : es.length = bs.length := by have := congrArg List.length he; rwa [List.length_map, List.length_map] at this
  have hsm : ∀ l, l ∈ bs.map (·.2) → CsSm l := fun l hl => by
    obtain ⟨x, hx2, rfl⟩ := List.mem_map.mp hl
    exact hx x hx2
  have hne : bs.map (·.2) ≠ [] := fun z => by
    have := congrArg List.length z
    rw [List.length_map] at this
    have : bs.length = 0 := this
    omega
  refine ⟨_, M7, by rw [hM7]; exact Wk.refl, natsV l0, .inl (.inl (h67 _ hq0)), fun p6 f6 => ?_⟩
  refine ⟨p6, rfl, .inl ⟨l0, lat_0, h0, q0, l0, rfl, .inl (List.mem_cons_of_mem _ (h67 _ hq0)), h0, ?_⟩⟩
  refine ite2' (c := !decide (V.str (cellsT l0) = .str (cellsT l0))) (fun e => neq_self' e) (fun _ => ?_)
  refine ⟨_, M7, Wk.drop0, sv, rfl, .inr ⟨rN bs, bs.map (·.2), .inl (h67 _ hsv), a2_cN fun x hx => h67 _ (hbs x hx), hne, by rw [List.length_map]; omega, hsm, ⟨_, rfl⟩, rN es, .inl hkv, sz (by show (rN es).length ≤ _; unfold rN; rw [List.length_map]; omega), fun i acc G3 M3 => G3 = G2 ∧ M3 = M7 ∧ acc = (((bs.map (·.2)).take i).map cellsT).map V.str, ⟨rfl, rfl, rfl⟩, ?_, ?_, ?_⟩⟩
  · rintro i acc G3 M3 _ ⟨rfl, rfl, _⟩; exact .inl hkv
  · rintro i acc G3 M3 X hi hacc ⟨hG, rfl, rfl⟩ fX
    subst hG
    have hi : i < (rN es).length := hi
    have hi : i < es.length := by unfold rN at hi; rwa [List.length_map] at hi
    obtain ⟨x, hxi⟩ : ∃ x, es[i]? = some x := ⟨_, List.getElem?_eq_getElem hi⟩
    have hl2 : (bs.map (·.2))[i]? = some x.2 := by rw [← he, List.getElem?_map, hxi]; rfl
    refine asg_L (v := .ref x.1) (by unfold rN; rw [List.getElem?_map, hxi]; rfl) ⟨rfl, x.1, x.2, rfl, .inl (List.mem_cons_of_mem _ (hes x (List.mem_of_getElem? hxi))), hsm x.2 (List.mem_of_getElem? hl2), _, _, Wk.refl, rfl, rfl, ?_⟩
    rw [take_succ' hl2, List.map_append, List.map_append]; rfl
  · rintro acc G3 M3 y ⟨hG, rfl, rfl⟩ hacc fy
    subst hG
    have en : (srcL K kv (rN es)).n = (bs.map (·.2)).length := by show (rN es).length = _; unfold rN; rw [List.length_map, List.length_map]; exact hel
    rw [en, List.take_length]
    refine ⟨(bs.map (·.2)).map cellsT, .inl lat_0, ?_, ?_⟩
    · have h1 := sum_len (B := 500) ((bs.map (·.2)).map cellsT) fun y hy => by
        obtain ⟨c, hc, rfl⟩ := List.mem_map.mp hy
        exact cellsT_len (hsm c hc)
      have h2 : (" / " : Str).length = 3 := by decide
      rw [h2]
      rw [List.length_map, List.length_map] at h1 ⊢
      omega
    · show if decide (V.str (pocketT (bs.map (·.2))) = .str (pocketT (bs.map (·.2)))) = true then _ else _
      rw [decide_eq_true rfl]
      have d1 : DatAll K G3 ([_] ++ M3) (rN bs) ((bs.map (·.2)).map fun l => PyData.list (natsD l)) := ls_dats (a2_cN fun x hx => h67 _ (hbs x hx)) [(y, HO.lst (((bs.map (·.2)).map cellsT).map V.str))]
      have d2 : DatAll K G3 ([_] ++ M3) (rN es) ((es.map (·.2)).map fun l => PyData.list (natsD l)) := ls_dats (a2_cN hes) [(y, HO.lst (((bs.map (·.2)).map cellsT).map V.str))]
      rw [he] at d2
      refine eq_ref (n := 2) (neg := false) (dat_list (.inl (List.mem_cons_of_mem _ (h67 _ hsv))) d1) (dat_list (.inl (List.mem_cons_of_mem _ hkv)) d2) (shp_ls _) (by decide) ?_
      exact retW Wk.nil' (k G3 Ex.refl)
theorem pf_law_right (h : S_law_right K vs G M R Z) : rd_law_right K (ends R Z) (sta 13 vs) G M := by
  obtain ⟨_, rfl, p, c, s, rfl, rfl, hs, k⟩ := sp1_of h
  exact right_a hs fun G' M' c s y1 y3 y4 y8 ex hs' wk => kseq_wk wk (right_5 hs' fun G2 ex2 => k G2 (ex.trans ex2))
theorem pf_law (h : S_law K vs G M R Z) : rd_law K (ends R Z) (sta 2 vs) G M := by
  obtain ⟨_, rfl, a, ns, rfl, hS, hl, q⟩ := sp1_of h
  clear h
  refine ⟨G, [], Wk.nil', _, lst_g hS, by omega, fun i σ G' M' => ∃ (y1 : Option V), σ = [some (.ref a), y1] ∧ Ex G G' ∧ M' = [], ⟨_, rfl, Ex.refl, rfl⟩, fun _ _ _ _ _ _ => trivial, ?_, ?_⟩
  · rintro i σ G' M' hi ⟨y1, rfl, ex, rfl⟩
    have hi : i < (min ((ns.map V.int).length : Int) 30 + 1).toNat := hi
    refine asg_R (v := (i : Int)) (by omega) ⟨G', [], Wk.refl, a, ns, i, rfl, rfl, ex_l ex hS, by omega, by omega, hl, fun p c s fp hs => ⟨p, c, s, rfl, rfl, hs, fun G2 ex2 => ?_⟩⟩
    exact ⟨G2, [], Wk.refl, _, rfl, ex.trans ex2, rfl⟩
  · rintro σ G' M' ⟨y1, rfl, ex, rfl⟩
    exact ⟨G', [], Wk.refl, ret0 (q _ _)⟩
end
def topS (i : Nat) : Stmt := PySem.Challenge.pw_blindtouch_k85_touches_and_pockets_shown.main.body.getD i (.Pass ⟨0, 0, 0, 0⟩)
structure Bs (mg : Str → Option Value) : Prop where
  int : mg "int" = none
  isinstance : mg "isinstance" = none
  len : mg "len" = none
  list : mg "list" = none
  min : mg "min" = none
  range : mg "range" = none
  set : mg "set" = none
  sorted : mg "sorted" = none
  str : mg "str" = none
structure Cs (K : PySem.W.Frag) (mg : Str → Option Value) : Prop where
  k_NONE : ∃ u, mg "NONE" = some u ∧ RelV (.str "-") u
abbrev s_law_pool : Stmt := topS 6
abbrev N_law_pool : List Str := ["_law_script", "_law_k", "_law_cell", "_law_seed"]
theorem sc_law_pool : FnScope N_law_pool ["_law_script", "_law_k"] (defScope s_law_pool) := ⟨rfl, rfl, rfl, by decide +kernel, rfl, by decide +kernel, by decide +kernel⟩
theorem fo_law_pool {P : Program} {w : World} {K : PySem.W.Frag} {mg : Str → Option Value} {base : Heap} {f : Addr} {fd : FuncData} (B : Bs mg) (C : Cs K mg) (F : Fun K "_law_pool" "_law_pool" s_law_pool f fd)  :
    FnOk P w K mg base (L2.CX P w) 1 f fd ["_law_script", "_law_k"] (lift (S_law_pool K)) := by
  refine fn_ok F sc_law_pool (fun vs G M R Z h => sp_len2 h) (fun cdv A outer s H E hr => ?_)
  have nd : N_law_pool.Nodup := sc_law_pool.nd
  have hu : _ + 64 < cLine := hr.units
  have tk : Takes (cxOf (L2.CX P w) P w K mg base N_law_pool "_law_pool" (defScope s_law_pool) f cdv A outer s H E) (fun c d _ H => E c d H) := takes_of rfl rfl rfl rfl
  have po : PassesOwn (model P w) _ _ _ := passes_of (X := cxOf (L2.CX P w) P w K mg base N_law_pool "_law_pool" (defScope s_law_pool) f cdv A outer s H E) rfl
  exact ⟨rd_law_pool K, jss_cons (js_set (i := 2) (je_callB kc_len B.len (ja_cons (je_var 0) (ja_nil))) nd) (jss_cons (js_if (jt_cmp (kop_lt) (je_var 1) (je_callB kc_len B.len (ja_cons (je_var 0) (ja_nil))) (nomark _)) (jss_cons (js_set (i := 2) (je_ix (je_var 0) (je_var 1)) nd) (jss_nil)) (jss_nil)) (jss_cons (js_set (i := 3) (je_op kop_mod (je_op kop_mul (je_op kop_add (je_op kop_add (je_op kop_mod (je_var 2) (je_int)) (je_op kop_mul (je_int) (je_var 1))) (je_int)) (je_int)) (je_int)) nd) (jss_cons (js_ret (je_lst (ja_cons (je_op kop_mul (je_var 2) (je_callTy kc_int B.int (ja_cons (je_cmp (kop_ge) (je_var 2) (je_op kop_pow (je_int) (je_int)) (nomark _)) (ja_nil)))) (ja_cons (je_var 3) (ja_nil))))) (jss_nil)))), fun vs G M R Z h => pf_law_pool h⟩
theorem df_law_pool {P : Program} {w : World} {K : PySem.W.Frag} {mg : Str → Option Value} {base : Heap} {f : Addr} {fd : FuncData} (B : Bs mg) (C : Cs K mg) (F : Fun K "_law_pool" "_law_pool" s_law_pool f fd) (b : Binds K fd ["_law_script", "_law_k"] []) (gm : mg "_law_pool" = some (.ref f))  :
    Def P w K mg base 1 "_law_pool" ["_law_script", "_law_k"] (S_law_pool K) := ⟨f, fd, fo_law_pool B C F , gm, F.kp, b⟩
abbrev s_law_take : Stmt := topS 7
abbrev N_law_take : List Str := ["_law_pool_here", "_law_many", "_law_digit"]
theorem sc_law_take : FnScope N_law_take ["_law_pool_here", "_law_many"] (defScope s_law_take) := ⟨rfl, rfl, rfl, by decide +kernel, rfl, by decide +kernel, by decide +kernel⟩
theorem fo_law_take {P : Program} {w : World} {K : PySem.W.Frag} {mg : Str → Option Value} {base : Heap} {f : Addr} {fd : FuncData} (B : Bs mg) (C : Cs K mg) (F : Fun K "_law_take" "_law_take" s_law_take f fd)  :
    FnOk P w K mg base (L2.CX P w) 1 f fd ["_law_pool_here", "_law_many"] (lift (S_law_take K)) := by
  refine fn_ok F sc_law_take (fun vs G M R Z h => sp_len2 h) (fun cdv A outer s H E hr => ?_)
  have nd : N_law_take.Nodup := sc_law_take.nd
  have hu : _ + 64 < cLine := hr.units
  have tk : Takes (cxOf (L2.CX P w) P w K mg base N_law_take "_law_take" (defScope s_law_take) f cdv A outer s H E) (fun c d _ H => E c d H) := takes_of rfl rfl rfl rfl
  have po : PassesOwn (model P w) _ _ _ := passes_of (X := cxOf (L2.CX P w) P w K mg base N_law_take "_law_take" (defScope s_law_take) f cdv A outer s H E) rfl
  exact ⟨rd_law_take K, jss_cons (js_if (jt_cmp (kop_gt) (je_ix (je_var 0) (je_int)) (je_int) (nomark _)) (jss_cons (js_set (i := 2) (je_op kop_mod (je_ix (je_var 0) (je_int)) (je_var 1)) nd) (jss_cons (js_asg (je_op kop_fdiv (je_ix (je_var 0) (je_int)) (je_var 1)) (jg_ix (je_var 0) (je_int))) (jss_cons (js_ret (je_var 2)) (jss_nil)))) (jss_nil)) (jss_cons (js_asg (je_op kop_mod (je_op kop_add (je_op kop_mul (je_ix (je_var 0) (je_int)) (je_int)) (je_int)) (je_int)) (jg_ix (je_var 0) (je_int))) (jss_cons (js_ret (je_op kop_mod (je_op kop_fdiv (je_op kop_mod (je_op kop_mul (je_ix (je_var 0) (je_int)) (je_ix (je_var 0) (je_int))) (je_int)) (je_int)) (je_var 1))) (jss_nil))), fun vs G M R Z h => pf_law_take h⟩
theorem df_law_take {P : Program} {w : World} {K : PySem.W.Frag} {mg : Str → Option Value} {base : Heap} {f : Addr} {fd : FuncData} (B : Bs mg) (C : Cs K mg) (F : Fun K "_law_take" "_law_take" s_law_take f fd) (b : Binds K fd ["_law_pool_here", "_law_many"] []) (gm : mg "_law_take" = some (.ref f))  :
    Def P w K mg base 1 "_law_take" ["_law_pool_here", "_law_many"] (S_law_take K) := ⟨f, fd, fo_law_take B C F , gm, F.kp, b⟩
abbrev s_law_touch : Stmt := topS 8
abbrev N_law_touch : List Str := ["_law_pool_here", "_law_most"]
theorem sc_law_touch : FnScope N_law_touch ["_law_pool_here"] (defScope s_law_touch) := ⟨rfl, rfl, rfl, by decide +kernel, rfl, by decide +kernel, by decide +kernel⟩
theorem fo_law_touch {P : Program} {w : World} {K : PySem.W.Frag} {mg : Str → Option Value} {base : Heap} {f : Addr} {fd : FuncData} (B : Bs mg) (C : Cs K mg) (F : Fun K "_law_touch" "_law_touch" s_law_touch f fd) (D_law_take : Def P w K mg base 1 "_law_take" ["_law_pool_here", "_law_many"] (S_law_take K)) :
    FnOk P w K mg base (L2.CX P w) 2 f fd ["_law_pool_here"] (lift (S_law_touch K)) := by
  refine fn_ok F sc_law_touch (fun vs G M R Z h => sp_len1 h) (fun cdv A outer s H E hr => ?_)
  have nd : N_law_touch.Nodup := sc_law_touch.nd
  have hu : _ + 64 < cLine := hr.units
  have tk : Takes (cxOf (L2.CX P w) P w K mg base N_law_touch "_law_touch" (defScope s_law_touch) f cdv A outer s H E) (fun c d _ H => E c d H) := takes_of rfl rfl rfl rfl
  have po : PassesOwn (model P w) _ _ _ := passes_of (X := cxOf (L2.CX P w) P w K mg base N_law_touch "_law_touch" (defScope s_law_touch) f cdv A outer s H E) rfl
  exact ⟨rd_law_touch K, jss_cons (js_set (i := 1) (je_ix (je_lst (ja_cons (je_int) (ja_cons (je_int) (ja_cons (je_int) (ja_nil))))) (je_callD D_law_take hr tk (ja_cons (je_var 0) (ja_cons (je_int) (ja_nil))))) nd) (jss_cons (js_ret (je_tup (ja_cons (je_ix (je_lst (ja_cons (je_str) (ja_cons (je_str) (ja_nil)))) (je_callD D_law_take hr tk (ja_cons (je_var 0) (ja_cons (je_int) (ja_nil))))) (ja_cons (je_callD D_law_take hr tk (ja_cons (je_var 0) (ja_cons (je_var 1) (ja_nil)))) (ja_cons (je_callD D_law_take hr tk (ja_cons (je_var 0) (ja_cons (je_var 1) (ja_nil)))) (ja_nil)))))) (jss_nil)), fun vs G M R Z h => pf_law_touch h⟩
theorem df_law_touch {P : Program} {w : World} {K : PySem.W.Frag} {mg : Str → Option Value} {base : Heap} {f : Addr} {fd : FuncData} (B : Bs mg) (C : Cs K mg) (F : Fun K "_law_touch" "_law_touch" s_law_touch f fd) (b : Binds K fd ["_law_pool_here"] []) (gm : mg "_law_touch" = some (.ref f)) (D_law_take : Def P w K mg base 1 "_law_take" ["_law_pool_here", "_law_many"] (S_law_take K)) :
    Def P w K mg base 2 "_law_touch" ["_law_pool_here"] (S_law_touch K) := ⟨f, fd, fo_law_touch B C F D_law_take, gm, F.kp, b⟩
abbrev s_show_touches : Stmt := topS 2
abbrev N_show_touches : List Str := ["touches", "deed", "shelf", "room"]
theorem sc_show_touches : FnScope N_show_touches ["touches"] (defScope s_show_touches) := ⟨rfl, rfl, rfl, by decide +kernel, rfl, by decide +kernel, by decide +kernel⟩
theorem fo_show_touches {P : Program} {w : World} {K : PySem.W.Frag} {mg : Str → Option Value} {base : Heap} {f : Addr} {fd : FuncData} (B : Bs mg) (C : Cs K mg) (F : Fun K "show_touches" "show_touches" s_show_touches f fd)  :
    FnOk P w K mg base (L2.CX P w) 1 f fd ["touches"] (lift (S_show_touches K)) := by
  refine fn_ok F sc_show_touches (fun vs G M R Z h => sp_len1 h) (fun cdv A outer s H E hr => ?_)
  have nd : N_show_touches.Nodup := sc_show_touches.nd
  have hu : _ + 64 < cLine := hr.units
  have tk : Takes (cxOf (L2.CX P w) P w K mg base N_show_touches "show_touches" (defScope s_show_touches) f cdv A outer s H E) (fun c d _ H => E c d H) := takes_of rfl rfl rfl rfl
  have po : PassesOwn (model P w) _ _ _ := passes_of (X := cxOf (L2.CX P w) P w K mg base N_show_touches "show_touches" (defScope s_show_touches) f cdv A outer s H E) rfl
  exact ⟨rd_show_touches K, jss_cons (js_if (jt_cmp (kop_eq hu) (je_var 0) (je_lst (ja_nil)) (nomark _)) (jss_cons (js_ret (je_const C.k_NONE)) (jss_nil)) (jss_nil)) (jss_cons (js_ret (je_join (je_str) (je_comp (own := [("deed", 1), ("shelf", 2), ("room", 3)]) rfl nd (ji_list (je_var 0)) (blkOk_by (own := [("deed", 1), ("shelf", 2), ("room", 3)]) (N := N_show_touches) (sc := defScope s_show_touches) (by decide +kernel)) (fun _ _ _ _ _ => by exact jg_tup rfl (jgs_cons (jg_name (i := 1) nd) (jgs_cons (jg_name (i := 2) nd) (jgs_cons (jg_name (i := 3) nd) (jgs_nil))))) (fun _ _ _ _ _ => by exact jts_nil) (fun _ _ _ _ _ => by exact je_joined (.cons (je_fmt (je_var 1)) (.cons (je_str) (.cons (je_fmt (je_var 2)) (.cons (je_str) (.cons (je_fmt (je_var 3)) (.nil)))))))))) (jss_nil)), fun vs G M R Z h => pf_show_touches h⟩
theorem df_show_touches {P : Program} {w : World} {K : PySem.W.Frag} {mg : Str → Option Value} {base : Heap} {f : Addr} {fd : FuncData} (B : Bs mg) (C : Cs K mg) (F : Fun K "show_touches" "show_touches" s_show_touches f fd) (b : Binds K fd ["touches"] []) (gm : mg "show_touches" = some (.ref f))  :
    Def P w K mg base 1 "show_touches" ["touches"] (S_show_touches K) := ⟨f, fd, fo_show_touches B C F , gm, F.kp, b⟩
abbrev s_law_cells : Stmt := topS 9
abbrev N_law_cells : List Str := ["_law_pool_here", "_law_k"]
theorem sc_law_cells : FnScope N_law_cells ["_law_pool_here"] (defScope s_law_cells) := ⟨rfl, rfl, rfl, by decide +kernel, rfl, by decide +kernel, by decide +kernel⟩
theorem fo_law_cells {P : Program} {w : World} {K : PySem.W.Frag} {mg : Str → Option Value} {base : Heap} {f : Addr} {fd : FuncData} (B : Bs mg) (C : Cs K mg) (F : Fun K "_law_cells" "_law_cells" s_law_cells f fd) (D_law_take : Def P w K mg base 1 "_law_take" ["_law_pool_here", "_law_many"] (S_law_take K)) :
    FnOk P w K mg base (L2.CX P w) 2 f fd ["_law_pool_here"] (lift (S_law_cells K)) := by
  refine fn_ok F sc_law_cells (fun vs G M R Z h => sp_len1 h) (fun cdv A outer s H E hr => ?_)
  have nd : N_law_cells.Nodup := sc_law_cells.nd
  have hu : _ + 64 < cLine := hr.units
  have tk : Takes (cxOf (L2.CX P w) P w K mg base N_law_cells "_law_cells" (defScope s_law_cells) f cdv A outer s H E) (fun c d _ H => E c d H) := takes_of rfl rfl rfl rfl
  have po : PassesOwn (model P w) _ _ _ := passes_of (X := cxOf (L2.CX P w) P w K mg base N_law_cells "_law_cells" (defScope s_law_cells) f cdv A outer s H E) rfl
  exact ⟨rd_law_cells K, jss_cons (js_ret (je_sortedSet B.sorted B.set (je_comp (own := [("_law_k", 1)]) rfl nd (ji_range1 B.range (ja_cons (je_callD D_law_take hr tk (ja_cons (je_var 0) (ja_cons (je_int) (ja_nil)))) (ja_nil))) (blkOk_by (own := [("_law_k", 1)]) (N := N_law_cells) (sc := defScope s_law_cells) (by decide +kernel)) (fun _ _ _ _ _ => by exact jg_name (i := 1) nd) (fun _ _ _ _ _ => by exact jts_nil) (fun _ _ _ _ _ => by exact je_callD D_law_take hr takes0 (ja_cons (je_var 0) (ja_cons (je_int) (ja_nil))))))) (jss_nil), fun vs G M R Z h => pf_law_cells h⟩
theorem df_law_cells {P : Program} {w : World} {K : PySem.W.Frag} {mg : Str → Option Value} {base : Heap} {f : Addr} {fd : FuncData} (B : Bs mg) (C : Cs K mg) (F : Fun K "_law_cells" "_law_cells" s_law_cells f fd) (b : Binds K fd ["_law_pool_here"] []) (gm : mg "_law_cells" = some (.ref f)) (D_law_take : Def P w K mg base 1 "_law_take" ["_law_pool_here", "_law_many"] (S_law_take K)) :
    Def P w K mg base 2 "_law_cells" ["_law_pool_here"] (S_law_cells K) := ⟨f, fd, fo_law_cells B C F D_law_take, gm, F.kp, b⟩
abbrev s_show_cells : Stmt := topS 3
abbrev N_show_cells : List Str := ["cells", "cell"]
theorem sc_show_cells : FnScope N_show_cells ["cells"] (defScope s_show_cells) := ⟨rfl, rfl, rfl, by decide +kernel, rfl, by decide +kernel, by decide +kernel⟩
theorem fo_show_cells {P : Program} {w : World} {K : PySem.W.Frag} {mg : Str → Option Value} {base : Heap} {f : Addr} {fd : FuncData} (B : Bs mg) (C : Cs K mg) (F : Fun K "show_cells" "show_cells" s_show_cells f fd)  :
    FnOk P w K mg base (L2.CX P w) 1 f fd ["cells"] (lift (S_show_cells K)) := by
  refine fn_ok F sc_show_cells (fun vs G M R Z h => sp_len1 h) (fun cdv A outer s H E hr => ?_)
  have nd : N_show_cells.Nodup := sc_show_cells.nd
  have hu : _ + 64 < cLine := hr.units
  have tk : Takes (cxOf (L2.CX P w) P w K mg base N_show_cells "show_cells" (defScope s_show_cells) f cdv A outer s H E) (fun c d _ H => E c d H) := takes_of rfl rfl rfl rfl
  have po : PassesOwn (model P w) _ _ _ := passes_of (X := cxOf (L2.CX P w) P w K mg base N_show_cells "show_cells" (defScope s_show_cells) f cdv A outer s H E) rfl
  exact ⟨rd_show_cells K, jss_cons (js_if (jt_cmp (kop_eq hu) (je_var 0) (je_lst (ja_nil)) (nomark _)) (jss_cons (js_ret (je_const C.k_NONE)) (jss_nil)) (jss_nil)) (jss_cons (js_ret (je_join (je_str) (je_comp (own := [("cell", 1)]) rfl nd (ji_list (je_var 0)) (blkOk_by (own := [("cell", 1)]) (N := N_show_cells) (sc := defScope s_show_cells) (by decide +kernel)) (fun _ _ _ _ _ => by exact jg_name (i := 1) nd) (fun _ _ _ _ _ => by exact jts_nil) (fun _ _ _ _ _ => by exact je_callTy kc_str B.str (ja_cons (je_var 1) (ja_nil)))))) (jss_nil)), fun vs G M R Z h => pf_show_cells h⟩
theorem df_show_cells {P : Program} {w : World} {K : PySem.W.Frag} {mg : Str → Option Value} {base : Heap} {f : Addr} {fd : FuncData} (B : Bs mg) (C : Cs K mg) (F : Fun K "show_cells" "show_cells" s_show_cells f fd) (b : Binds K fd ["cells"] []) (gm : mg "show_cells" = some (.ref f))  :
    Def P w K mg base 1 "show_cells" ["cells"] (S_show_cells K) := ⟨f, fd, fo_show_cells B C F , gm, F.kp, b⟩
abbrev s_show_pocket : Stmt := topS 4
abbrev N_show_pocket : List Str := ["pocket", "cells"]
theorem sc_show_pocket : FnScope N_show_pocket ["pocket"] (defScope s_show_pocket) := ⟨rfl, rfl, rfl, by decide +kernel, rfl, by decide +kernel, by decide +kernel⟩
theorem fo_show_pocket {P : Program} {w : World} {K : PySem.W.Frag} {mg : Str → Option Value} {base : Heap} {f : Addr} {fd : FuncData} (B : Bs mg) (C : Cs K mg) (F : Fun K "show_pocket" "show_pocket" s_show_pocket f fd) (D_show_cells : Def P w K mg base 1 "show_cells" ["cells"] (S_show_cells K)) :
    FnOk P w K mg base (L2.CX P w) 2 f fd ["pocket"] (lift (S_show_pocket K)) := by
  refine fn_ok F sc_show_pocket (fun vs G M R Z h => sp_len1 h) (fun cdv A outer s H E hr => ?_)
  have nd : N_show_pocket.Nodup := sc_show_pocket.nd
  have hu : _ + 64 < cLine := hr.units
  have tk : Takes (cxOf (L2.CX P w) P w K mg base N_show_pocket "show_pocket" (defScope s_show_pocket) f cdv A outer s H E) (fun c d _ H => E c d H) := takes_of rfl rfl rfl rfl
  have po : PassesOwn (model P w) _ _ _ := passes_of (X := cxOf (L2.CX P w) P w K mg base N_show_pocket "show_pocket" (defScope s_show_pocket) f cdv A outer s H E) rfl
  exact ⟨rd_show_pocket K, jss_cons (js_if ((jw_and (jt_cmp (kop_ne hu) (je_var 0) (je_lst (ja_nil)) (nomark _)) (jw_and1 (jt_val (je_callB kc_isi B.isinstance (ja_cons (je_ix (je_var 0) (je_int)) (ja_cons (je_ty B.list) (ja_nil))))))).jt) (jss_cons (js_ret (je_join (je_str) (je_comp (own := [("cells", 1)]) rfl nd (ji_list (je_var 0)) (blkOk_by (own := [("cells", 1)]) (N := N_show_pocket) (sc := defScope s_show_pocket) (by decide +kernel)) (fun _ _ _ _ _ => by exact jg_name (i := 1) nd) (fun _ _ _ _ _ => by exact jts_nil) (fun _ _ _ _ _ => by exact je_callD D_show_cells hr takes0 (ja_cons (je_var 1) (ja_nil)))))) (jss_nil)) (jss_nil)) (jss_cons (js_ret (je_callD D_show_cells hr tk (ja_cons (je_var 0) (ja_nil)))) (jss_nil)), fun vs G M R Z h => pf_show_pocket h⟩
theorem df_show_pocket {P : Program} {w : World} {K : PySem.W.Frag} {mg : Str → Option Value} {base : Heap} {f : Addr} {fd : FuncData} (B : Bs mg) (C : Cs K mg) (F : Fun K "show_pocket" "show_pocket" s_show_pocket f fd) (b : Binds K fd ["pocket"] []) (gm : mg "show_pocket" = some (.ref f)) (D_show_cells : Def P w K mg base 1 "show_cells" ["cells"] (S_show_cells K)) :
    Def P w K mg base 2 "show_pocket" ["pocket"] (S_show_pocket K) := ⟨f, fd, fo_show_pocket B C F D_show_cells, gm, F.kp, b⟩
abbrev s_law_words : Stmt := topS 10
abbrev N_law_words : List Str := ["_law_cells_here", "_law_cell"]
theorem sc_law_words : FnScope N_law_words ["_law_cells_here"] (defScope s_law_words) := ⟨rfl, rfl, rfl, by decide +kernel, rfl, by decide +kernel, by decide +kernel⟩
theorem fo_law_words {P : Program} {w : World} {K : PySem.W.Frag} {mg : Str → Option Value} {base : Heap} {f : Addr} {fd : FuncData} (B : Bs mg) (C : Cs K mg) (F : Fun K "_law_words" "_law_words" s_law_words f fd)  :
    FnOk P w K mg base (L2.CX P w) 1 f fd ["_law_cells_here"] (lift (S_law_words K)) := by
  refine fn_ok F sc_law_words (fun vs G M R Z h => sp_len1 h) (fun cdv A outer s H E hr => ?_)
  have nd : N_law_words.Nodup := sc_law_words.nd
  have hu : _ + 64 < cLine := hr.units
  have tk : Takes (cxOf (L2.CX P w) P w K mg base N_law_words "_law_words" (defScope s_law_words) f cdv A outer s H E) (fun c d _ H => E c d H) := takes_of rfl rfl rfl rfl
  have po : PassesOwn (model P w) _ _ _ := passes_of (X := cxOf (L2.CX P w) P w K mg base N_law_words "_law_words" (defScope s_law_words) f cdv A outer s H E) rfl
  exact ⟨rd_law_words K, jss_cons (js_ret (je_orT (je_join (je_str) (je_comp (own := [("_law_cell", 1)]) rfl nd (ji_list (je_var 0)) (blkOk_by (own := [("_law_cell", 1)]) (N := N_law_words) (sc := defScope s_law_words) (by decide +kernel)) (fun _ _ _ _ _ => by exact jg_name (i := 1) nd) (fun _ _ _ _ _ => by exact jts_nil) (fun _ _ _ _ _ => by exact je_callTy kc_str B.str (ja_cons (je_var 1) (ja_nil))))) (je_one (je_str)))) (jss_nil), fun vs G M R Z h => pf_law_words h⟩
theorem df_law_words {P : Program} {w : World} {K : PySem.W.Frag} {mg : Str → Option Value} {base : Heap} {f : Addr} {fd : FuncData} (B : Bs mg) (C : Cs K mg) (F : Fun K "_law_words" "_law_words" s_law_words f fd) (b : Binds K fd ["_law_cells_here"] []) (gm : mg "_law_words" = some (.ref f))  :
    Def P w K mg base 1 "_law_words" ["_law_cells_here"] (S_law_words K) := ⟨f, fd, fo_law_words B C F , gm, F.kp, b⟩
abbrev s_law_right : Stmt := topS 11
abbrev N_law_right : List Str := ["_law_pool_here", "_law_touches", "_law_k", "_law_handed", "_law_words_here", "_law_deed", "_law_shelf", "_law_room", "_law_due", "_law_cells_here", "_law_several", "_law_kept", "_law_one"]
theorem sc_law_right : FnScope N_law_right ["_law_pool_here"] (defScope s_law_right) := ⟨rfl, rfl, rfl, by decide +kernel, rfl, by decide +kernel, by decide +kernel⟩
theorem fo_law_right {P : Program} {w : World} {K : PySem.W.Frag} {mg : Str → Option Value} {base : Heap} {f : Addr} {fd : FuncData} (B : Bs mg) (C : Cs K mg) (F : Fun K "_law_right" "_law_right" s_law_right f fd) (D_law_take : Def P w K mg base 1 "_law_take" ["_law_pool_here", "_law_many"] (S_law_take K)) (D_law_touch : Def P w K mg base 2 "_law_touch" ["_law_pool_here"] (S_law_touch K)) (D_show_touches : Def P w K mg base 1 "show_touches" ["touches"] (S_show_touches K)) (D_law_cells : Def P w K mg base 2 "_law_cells" ["_law_pool_here"] (S_law_cells K)) (D_show_pocket : Def P w K mg base 2 "show_pocket" ["pocket"] (S_show_pocket K)) (D_law_words : Def P w K mg base 1 "_law_words" ["_law_cells_here"] (S_law_words K)) :
    FnOk P w K mg base (L2.CX P w) 3 f fd ["_law_pool_here"] (lift (S_law_right K)) := by
  refine fn_ok F sc_law_right (fun vs G M R Z h => sp_len1 h) (fun cdv A outer s H E hr => ?_)
  have nd : N_law_right.Nodup := sc_law_right.nd
  have hu : _ + 64 < cLine := hr.units
  have tk : Takes (cxOf (L2.CX P w) P w K mg base N_law_right "_law_right" (defScope s_law_right) f cdv A outer s H E) (fun c d _ H => E c d H) := takes_of rfl rfl rfl rfl
  have po : PassesOwn (model P w) _ _ _ := passes_of (X := cxOf (L2.CX P w) P w K mg base N_law_right "_law_right" (defScope s_law_right) f cdv A outer s H E) rfl
  exact ⟨rd_law_right K, jss_cons (js_setComp (own := [("_law_k", 2)]) (i := 1) rfl nd (sw_true rfl rfl rfl (by decide +kernel)) (ji_range1 B.range (ja_cons (je_callD D_law_take hr tk (ja_cons (je_var 0) (ja_cons (je_int) (ja_nil)))) (ja_nil))) (blkOk_by (own := [("_law_k", 2)]) (N := N_law_right) (sc := defScope s_law_right) (by decide +kernel)) (fun _ _ _ _ _ => by exact jg_name (i := 2) nd) (fun _ _ _ _ _ => by exact jts_nil) (fun _ _ _ _ _ => by exact je_callD D_law_touch hr takes0 (ja_cons (je_var 0) (ja_nil)))) (jss_cons (js_set (i := 3) (je_callTy kc_list B.list (ja_cons (je_var 1) (ja_nil))) nd) (jss_cons (js_setComp (own := [("_law_deed", 5), ("_law_shelf", 6), ("_law_room", 7)]) (i := 4) rfl nd (sw_true rfl rfl rfl (by decide +kernel)) (ji_list (je_var 1)) (blkOk_by (own := [("_law_deed", 5), ("_law_shelf", 6), ("_law_room", 7)]) (N := N_law_right) (sc := defScope s_law_right) (by decide +kernel)) (fun _ _ _ _ _ => by exact jg_tup rfl (jgs_cons (jg_name (i := 5) nd) (jgs_cons (jg_name (i := 6) nd) (jgs_cons (jg_name (i := 7) nd) (jgs_nil))))) (fun _ _ _ _ _ => by exact jts_nil) (fun _ _ _ _ _ => by exact je_op kop_add (je_op kop_add (je_op kop_add (je_op kop_add (je_var 5) (je_str)) (je_callTy kc_str B.str (ja_cons (je_var 6) (ja_nil)))) (je_str)) (je_callTy kc_str B.str (ja_cons (je_var 7) (ja_nil))))) (jss_cons (js_set (i := 8) (je_orT (je_join (je_str) (je_var 4)) (je_one (je_str))) nd) (jss_cons (js_if ((jw_or (jt_cmp (kop_ne hu) (je_callD D_show_touches hr tk (ja_cons (je_var 3) (ja_nil))) (je_var 8) (nomark _)) (jw_or1 (jt_cmp (kop_ne hu) (je_var 3) (je_var 1) (nomark _)))).jt) (jss_cons (js_ret (je_bl)) (jss_nil)) (jss_nil)) (jss_cons (js_set (i := 9) (je_callD D_law_cells hr tk (ja_cons (je_var 0) (ja_nil))) nd) (jss_cons (js_setComp (own := [("_law_k", 2)]) (i := 10) rfl nd (sw_true rfl rfl rfl (by decide +kernel)) (ji_range1 B.range (ja_cons (je_op kop_add (je_int) (je_callD D_law_take hr tk (ja_cons (je_var 0) (ja_cons (je_int) (ja_nil))))) (ja_nil))) (blkOk_by (own := [("_law_k", 2)]) (N := N_law_right) (sc := defScope s_law_right) (by decide +kernel)) (fun _ _ _ _ _ => by exact jg_name (i := 2) nd) (fun _ _ _ _ _ => by exact jts_nil) (fun _ _ _ _ _ => by exact je_callD D_law_cells hr takes0 (ja_cons (je_var 0) (ja_nil)))) (jss_cons (js_setComp (own := [("_law_one", 12)]) (i := 11) rfl nd (sw_true rfl rfl rfl (by decide +kernel)) (ji_list (je_var 10)) (blkOk_by (own := [("_law_one", 12)]) (N := N_law_right) (sc := defScope s_law_right) (by decide +kernel)) (fun _ _ _ _ _ => by exact jg_name (i := 12) nd) (fun _ _ _ _ _ => by exact jts_nil) (fun _ _ _ _ _ => by exact je_callTy kc_list B.list (ja_cons (je_var 12) (ja_nil)))) (jss_cons (js_if (jt_cmp (kop_ne hu) (je_callD D_show_pocket hr tk (ja_cons (je_callTy kc_list B.list (ja_cons (je_var 9) (ja_nil))) (ja_nil))) (je_callD D_law_words hr tk (ja_cons (je_var 9) (ja_nil))) (nomark _)) (jss_cons (js_ret (je_bl)) (jss_nil)) (jss_nil)) (jss_cons (js_ret (je_and (je_cmp (kop_eq hu) (je_callD D_show_pocket hr tk (ja_cons (je_var 10) (ja_nil))) (je_join (je_str) (je_comp (own := [("_law_one", 12)]) rfl nd (ji_list (je_var 11)) (blkOk_by (own := [("_law_one", 12)]) (N := N_law_right) (sc := defScope s_law_right) (by decide +kernel)) (fun _ _ _ _ _ => by exact jg_name (i := 12) nd) (fun _ _ _ _ _ => by exact jts_nil) (fun _ _ _ _ _ => by exact je_callD D_law_words hr takes0 (ja_cons (je_var 12) (ja_nil))))) (nomark _)) (je_one (je_cmp (kop_eq hu) (je_var 10) (je_var 11) (nomark _))))) (jss_nil)))))))))), fun vs G M R Z h => pf_law_right h⟩
theorem df_law_right {P : Program} {w : World} {K : PySem.W.Frag} {mg : Str → Option Value} {base : Heap} {f : Addr} {fd : FuncData} (B : Bs mg) (C : Cs K mg) (F : Fun K "_law_right" "_law_right" s_law_right f fd) (b : Binds K fd ["_law_pool_here"] []) (gm : mg "_law_right" = some (.ref f)) (D_law_take : Def P w K mg base 1 "_law_take" ["_law_pool_here", "_law_many"] (S_law_take K)) (D_law_touch : Def P w K mg base 2 "_law_touch" ["_law_pool_here"] (S_law_touch K)) (D_show_touches : Def P w K mg base 1 "show_touches" ["touches"] (S_show_touches K)) (D_law_cells : Def P w K mg base 2 "_law_cells" ["_law_pool_here"] (S_law_cells K)) (D_show_pocket : Def P w K mg base 2 "show_pocket" ["pocket"] (S_show_pocket K)) (D_law_words : Def P w K mg base 1 "_law_words" ["_law_cells_here"] (S_law_words K)) :
    Def P w K mg base 3 "_law_right" ["_law_pool_here"] (S_law_right K) := ⟨f, fd, fo_law_right B C F D_law_take D_law_touch D_show_touches D_law_cells D_show_pocket D_law_words, gm, F.kp, b⟩
abbrev s_law : Stmt := topS 12
abbrev N_law : List Str := ["_law_script", "_law_k"]
theorem sc_law : FnScope N_law ["_law_script"] (defScope s_law) := ⟨rfl, rfl, rfl, by decide +kernel, rfl, by decide +kernel, by decide +kernel⟩
theorem fo_law {P : Program} {w : World} {K : PySem.W.Frag} {mg : Str → Option Value} {base : Heap} {f : Addr} {fd : FuncData} (B : Bs mg) (C : Cs K mg) (F : Fun K "law" "law" s_law f fd) (D_law_pool : Def P w K mg base 1 "_law_pool" ["_law_script", "_law_k"] (S_law_pool K)) (D_law_right : Def P w K mg base 3 "_law_right" ["_law_pool_here"] (S_law_right K)) :
    FnOk P w K mg base (L2.CX P w) 4 f fd ["_law_script"] (lift (S_law K)) := by
  refine fn_ok F sc_law (fun vs G M R Z h => sp_len1 h) (fun cdv A outer s H E hr => ?_)
  have nd : N_law.Nodup := sc_law.nd
  have hu : _ + 64 < cLine := hr.units
  have tk : Takes (cxOf (L2.CX P w) P w K mg base N_law "law" (defScope s_law) f cdv A outer s H E) (fun c d _ H => E c d H) := takes_of rfl rfl rfl rfl
  have po : PassesOwn (model P w) _ _ _ := passes_of (X := cxOf (L2.CX P w) P w K mg base N_law "law" (defScope s_law) f cdv A outer s H E) rfl
  exact ⟨rd_law K, jss_cons (js_for po rfl (ji_range1 B.range (ja_cons (je_op kop_add (je_callB kc_min2 B.min (ja_cons (je_callB kc_len B.len (ja_cons (je_var 0) (ja_nil))) (ja_cons (je_int) (ja_nil)))) (je_int)) (ja_nil))) (jg_name (i := 1) nd) (jss_cons (js_if (jt_not (jt_val (je_callD D_law_right hr tk (ja_cons (je_callD D_law_pool hr tk (ja_cons (je_var 0) (ja_cons (je_var 1) (ja_nil)))) (ja_nil))))) (jss_cons (js_ret (je_bl)) (jss_nil)) (jss_nil)) (jss_nil))) (jss_cons (js_ret (je_bl)) (jss_nil)), fun vs G M R Z h => pf_law h⟩
theorem df_law {P : Program} {w : World} {K : PySem.W.Frag} {mg : Str → Option Value} {base : Heap} {f : Addr} {fd : FuncData} (B : Bs mg) (C : Cs K mg) (F : Fun K "law" "law" s_law f fd) (b : Binds K fd ["_law_script"] []) (gm : mg "law" = some (.ref f)) (D_law_pool : Def P w K mg base 1 "_law_pool" ["_law_script", "_law_k"] (S_law_pool K)) (D_law_right : Def P w K mg base 3 "_law_right" ["_law_pool_here"] (S_law_right K)) :
    Def P w K mg base 4 "law" ["_law_script"] (S_law K) := ⟨f, fd, fo_law B C F D_law_pool D_law_right, gm, F.kp, b⟩
theorem all_mk {l : PySem.W.OpenLaw} {w : World} {K : PySem.W.Frag} {h : Heap} {mg : Str → Option Value} {fa f0 f1 f2 f3 f4 f5 f6 f7 f8 f9 : Addr} (X : K.In h) (G : h.Ns mainGlobals mg) (hfa : mg "law" = some (.ref fa))
    {od0 an0 od1 an1 od2 an2 od3 an3 od4 an4 od5 an5 od6 an6 od7 an7 od8 an8 od9 an9 : Option Addr} {sl0 sl1 sl2 sl3 sl4 sl5 sl6 sl7 sl8 sl9 : Array (Option Value)} {oc0 kV0 dc0 pm0 cd0 ct0 oc1 kV1 dc1 pm1 cd1 ct1 oc2 kV2 dc2 pm2 cd2 ct2 oc3 kV3 dc3 pm3 cd3 ct3 oc4 kV4 dc4 pm4 cd4 ct4 oc5 kV5 dc5 pm5 cd5 ct5 oc6 kV6 dc6 pm6 cd6 ct6 oc7 kV7 dc7 pm7 cd7 ct7 oc8 kV8 dc8 pm8 cd8 ct8 oc9 kV9 dc9 pm9 cd9 ct9 : Value}
    (a0 : PySem.W.nsIn K mainGlobals "_law_pool" = some (some (.ref f0))) (l0 : K.lookup f0 = some ⟨oc0, od0, .func (PySem.W.fnOf "_law_pool" "_law_pool" (defArgs s_law_pool) (defBody s_law_pool) (defScope s_law_pool) .none kV0 dc0 pm0 an0 cd0 ct0), sl0⟩) (c0 : PySem.W.codeIn K cd0 "_law_pool" = true) (k0 : PySem.W.keepIn K (.ref f0) = true)
    (a1 : PySem.W.nsIn K mainGlobals "_law_take" = some (some (.ref f1))) (l1 : K.lookup f1 = some ⟨oc1, od1, .func (PySem.W.fnOf "_law_take" "_law_take" (defArgs s_law_take) (defBody s_law_take) (defScope s_law_take) .none kV1 dc1 pm1 an1 cd1 ct1), sl1⟩) (c1 : PySem.W.codeIn K cd1 "_law_take" = true) (k1 : PySem.W.keepIn K (.ref f1) = true)
    (a2 : PySem.W.nsIn K mainGlobals "_law_touch" = some (some (.ref f2))) (l2 : K.lookup f2 = some ⟨oc2, od2, .func (PySem.W.fnOf "_law_touch" "_law_touch" (defArgs s_law_touch) (defBody s_law_touch) (defScope s_law_touch) .none kV2 dc2 pm2 an2 cd2 ct2), sl2⟩) (c2 : PySem.W.codeIn K cd2 "_law_touch" = true) (k2 : PySem.W.keepIn K (.ref f2) = true)
    (a3 : PySem.W.nsIn K mainGlobals "show_touches" = some (some (.ref f3))) (l3 : K.lookup f3 = some ⟨oc3, od3, .func (PySem.W.fnOf "show_touches" "show_touches" (defArgs s_show_touches) (defBody s_show_touches) (defScope s_show_touches) .none kV3 dc3 pm3 an3 cd3 ct3), sl3⟩) (c3 : PySem.W.codeIn K cd3 "show_touches" = true) (k3 : PySem.W.keepIn K (.ref f3) = true)
    (a4 : PySem.W.nsIn K mainGlobals "_law_cells" = some (some (.ref f4))) (l4 : K.lookup f4 = some ⟨oc4, od4, .func (PySem.W.fnOf "_law_cells" "_law_cells" (defArgs s_law_cells) (defBody s_law_cells) (defScope s_law_cells) .none kV4 dc4 pm4 an4 cd4 ct4), sl4⟩) (c4 : PySem.W.codeIn K cd4 "_law_cells" = true) (k4 : PySem.W.keepIn K (.ref f4) = true)
    (a5 : PySem.W.nsIn K mainGlobals "show_cells" = some (some (.ref f5))) (l5 : K.lookup f5 = some ⟨oc5, od5, .func (PySem.W.fnOf "show_cells" "show_cells" (defArgs s_show_cells) (defBody s_show_cells) (defScope s_show_cells) .none kV5 dc5 pm5 an5 cd5 ct5), sl5⟩) (c5 : PySem.W.codeIn K cd5 "show_cells" = true) (k5 : PySem.W.keepIn K (.ref f5) = true)
    (a6 : PySem.W.nsIn K mainGlobals "show_pocket" = some (some (.ref f6))) (l6 : K.lookup f6 = some ⟨oc6, od6, .func (PySem.W.fnOf "show_pocket" "show_pocket" (defArgs s_show_pocket) (defBody s_show_pocket) (defScope s_show_pocket) .none kV6 dc6 pm6 an6 cd6 ct6), sl6⟩) (c6 : PySem.W.codeIn K cd6 "show_pocket" = true) (k6 : PySem.W.keepIn K (.ref f6) = true)
    (a7 : PySem.W.nsIn K mainGlobals "_law_words" = some (some (.ref f7))) (l7 : K.lookup f7 = some ⟨oc7, od7, .func (PySem.W.fnOf "_law_words" "_law_words" (defArgs s_law_words) (defBody s_law_words) (defScope s_law_words) .none kV7 dc7 pm7 an7 cd7 ct7), sl7⟩) (c7 : PySem.W.codeIn K cd7 "_law_words" = true) (k7 : PySem.W.keepIn K (.ref f7) = true)
    (a8 : PySem.W.nsIn K mainGlobals "_law_right" = some (some (.ref f8))) (l8 : K.lookup f8 = some ⟨oc8, od8, .func (PySem.W.fnOf "_law_right" "_law_right" (defArgs s_law_right) (defBody s_law_right) (defScope s_law_right) .none kV8 dc8 pm8 an8 cd8 ct8), sl8⟩) (c8 : PySem.W.codeIn K cd8 "_law_right" = true) (k8 : PySem.W.keepIn K (.ref f8) = true)
    (a9 : PySem.W.nsIn K mainGlobals "law" = some (some (.ref f9))) (l9 : K.lookup f9 = some ⟨oc9, od9, .func (PySem.W.fnOf "law" "law" (defArgs s_law) (defBody s_law) (defScope s_law) .none kV9 dc9 pm9 an9 cd9 ct9), sl9⟩) (c9 : PySem.W.codeIn K cd9 "law" = true) (k9 : PySem.W.keepIn K (.ref f9) = true)
    (z_int : PySem.W.nsIn K mainGlobals "int" = some none)
    (z_isinstance : PySem.W.nsIn K mainGlobals "isinstance" = some none)
    (z_len : PySem.W.nsIn K mainGlobals "len" = some none)
    (z_list : PySem.W.nsIn K mainGlobals "list" = some none)
    (z_min : PySem.W.nsIn K mainGlobals "min" = some none)
    (z_range : PySem.W.nsIn K mainGlobals "range" = some none)
    (z_set : PySem.W.nsIn K mainGlobals "set" = some none)
    (z_sorted : PySem.W.nsIn K mainGlobals "sorted" = some none)
    (z_str : PySem.W.nsIn K mainGlobals "str" = some none)
    {tk_NONE : Tok}
    (ka_NONE : PySem.W.nsIn K mainGlobals "NONE" = some (some (.str "-" tk_NONE)))
    : ∃ fd : FuncData, (∀ (s : Shared) (v : Value), BindsTo s fd ⟨[v], []⟩ [("_law_script", v)]) ∧ ∀ base : Heap, K.In base → base.Ns mainGlobals mg → FnOk l.prog w K mg base (L2.CX l.prog w) 4 fa fd ["_law_script"] (lift (S_law K)) := by
  have e := hfa.symm.trans (PySem.W.mg_of X G a9)
  cases e
  have B : Bs mg := ⟨PySem.W.mg_none_of X G z_int, PySem.W.mg_none_of X G z_isinstance, PySem.W.mg_none_of X G z_len, PySem.W.mg_none_of X G z_list, PySem.W.mg_none_of X G z_min, PySem.W.mg_none_of X G z_range, PySem.W.mg_none_of X G z_set, PySem.W.mg_none_of X G z_sorted, PySem.W.mg_none_of X G z_str⟩
  have C : Cs K mg := ⟨⟨_, PySem.W.mg_of X G ka_NONE, _, rfl⟩⟩
  have F0 := fun_mk (st := s_law_pool) l0 c0 k0
  have b0 := F0.binds (ps := ["_law_script", "_law_k"]) fun _ _ _ _ _ _ us hl => match us, hl with | [_, _], _ => rfl
  have F1 := fun_mk (st := s_law_take) l1 c1 k1
  have b1 := F1.binds (ps := ["_law_pool_here", "_law_many"]) fun _ _ _ _ _ _ us hl => match us, hl with | [_, _], _ => rfl
  have F2 := fun_mk (st := s_law_touch) l2 c2 k2
  have b2 := F2.binds (ps := ["_law_pool_here"]) fun _ _ _ _ _ _ us hl => match us, hl with | [_], _ => rfl
  have F3 := fun_mk (st := s_show_touches) l3 c3 k3
  have b3 := F3.binds (ps := ["touches"]) fun _ _ _ _ _ _ us hl => match us, hl with | [_], _ => rfl
  have F4 := fun_mk (st := s_law_cells) l4 c4 k4
  have b4 := F4.binds (ps := ["_law_pool_here"]) fun _ _ _ _ _ _ us hl => match us, hl with | [_], _ => rfl
  have F5 := fun_mk (st := s_show_cells) l5 c5 k5
  have b5 := F5.binds (ps := ["cells"]) fun _ _ _ _ _ _ us hl => match us, hl with | [_], _ => rfl
  have F6 := fun_mk (st := s_show_pocket) l6 c6 k6
  have b6 := F6.binds (ps := ["pocket"]) fun _ _ _ _ _ _ us hl => match us, hl with | [_], _ => rfl
  have F7 := fun_mk (st := s_law_words) l7 c7 k7
  have b7 := F7.binds (ps := ["_law_cells_here"]) fun _ _ _ _ _ _ us hl => match us, hl with | [_], _ => rfl
  have F8 := fun_mk (st := s_law_right) l8 c8 k8
  have b8 := F8.binds (ps := ["_law_pool_here"]) fun _ _ _ _ _ _ us hl => match us, hl with | [_], _ => rfl
  have F9 := fun_mk (st := s_law) l9 c9 k9
  have b9 := F9.binds (ps := ["_law_script"]) fun _ _ _ _ _ _ us hl => match us, hl with | [_], _ => rfl
  refine ⟨PySem.W.fnOf "law" "law" (defArgs s_law) (defBody s_law) (defScope s_law) .none kV9 dc9 pm9 an9 cd9 ct9, fun s v => .of_eq rfl, fun base _ _ => ?_⟩
  have D_law_pool := df_law_pool (P := l.prog) (w := w) (base := base) B C F0 b0 (PySem.W.mg_of X G a0) 
  have D_law_take := df_law_take (P := l.prog) (w := w) (base := base) B C F1 b1 (PySem.W.mg_of X G a1) 
  have D_law_touch := df_law_touch (P := l.prog) (w := w) (base := base) B C F2 b2 (PySem.W.mg_of X G a2) D_law_take
  have D_show_touches := df_show_touches (P := l.prog) (w := w) (base := base) B C F3 b3 (PySem.W.mg_of X G a3) 
  have D_law_cells := df_law_cells (P := l.prog) (w := w) (base := base) B C F4 b4 (PySem.W.mg_of X G a4) D_law_take
  have D_show_cells := df_show_cells (P := l.prog) (w := w) (base := base) B C F5 b5 (PySem.W.mg_of X G a5) 
  have D_show_pocket := df_show_pocket (P := l.prog) (w := w) (base := base) B C F6 b6 (PySem.W.mg_of X G a6) D_show_cells
  have D_law_words := df_law_words (P := l.prog) (w := w) (base := base) B C F7 b7 (PySem.W.mg_of X G a7) 
  have D_law_right := df_law_right (P := l.prog) (w := w) (base := base) B C F8 b8 (PySem.W.mg_of X G a8) D_law_take D_law_touch D_show_touches D_law_cells D_show_pocket D_law_words
  exact fo_law (P := l.prog) (w := w) (base := base) B C F9 D_law_pool D_law_right
end BT
def PySem.W.Fast.tw1125619731732434834 := 0
def PySem.W.Fast.tw9176492799249846017 := 0
def PySem.W.Fast.tw7650395215043192301 := 0
def PySem.W.Fast.tw8925144430668238352 := 0
def PySem.W.Fast.tw5462122921579757628 := 0
def PySem.W.Fast.tw11949491197449180368 := 0
def PySem.W.Fast.tw7110664718688388133 := 0
def PySem.W.Fast.tw10886187448769650626 := 0
def PySem.W.Fast.tw2881675194386619918 := 0
def PySem.W.Fast.tw7872079602031808516 := 0
def PySem.W.Fast.tw4586322912018198705 := 0
def PySem.W.Fast.tw801807680839535910 := 0
def PySem.W.Fast.tw6698154424415192631 := 0
def PySem.W.Fast.tw13704129511643517157 := 0
def PySem.W.Fast.tw11453531755577624582 := 0
def PySem.W.Fast.tw2949072968254350628 := 0
def PySem.W.Fast.tw18121774927997180589 := 0
def PySem.W.Fast.tw10723098699076709241 := 0
def PySem.W.Fast.tw12643632420782808251 := 0
def PySem.W.Fast.tw17880345532160185847 := 0
def PySem.W.Fast.tw17527914757932831324 := 0
def PySem.W.Fast.tw7674061723522939262 := 0
def PySem.W.Fast.tw8194586733722183285 := 0
def PySem.W.Fast.tw9048597072949289728 := 0
def PySem.W.Fast.tw6527468078956063240 := 0
def PySem.W.Fast.tw7426677526104755787 := 0
def PySem.W.Fast.tw4059264512493237196 := 0
def PySem.W.Fast.tw5978889553539575207 := 0
def PySem.W.Fast.tw16115635074510962042 := 0
def PySem.W.Fast.tw10978538735651575177 := 0
def PySem.W.Fast.tw5504474118711020417 := 0
def PySem.W.Fast.tw7716837637880249849 := 0
def PySem.W.Fast.tw11706939431550355824 := 0
def PySem.W.Fast.tw14696411268051693901 := 0
def PySem.W.Fast.tw5722153028976507224 := 0
def PySem.W.Fast.tw18247633019755590406 := 0
def PySem.W.Fast.tw5973861654111166097 := 0
def PySem.W.Fast.tw3826751887510145372 := 0
def PySem.W.Fast.tw15906335493158404208 := 0
def PySem.W.Fast.tw4874373104982386129 := 0
def PySem.W.Fast.tw15248503754277625604 := 0
def PySem.W.Fast.tw7589953530422330573 := 0
def PySem.W.Fast.tw8204324190099708352 := 0
def PySem.W.Fast.tw5009248857519752690 := 0
def PySem.W.Fast.tw1144665942519508807 := 0
def PySem.W.Fast.tw7495320288973481510 := 0
def PySem.W.Fast.tw11595349637874300350 := 0
def PySem.W.Fast.tw6087698746152462670 := 0
def PySem.W.Fast.tw14503664531597366836 := 0
def PySem.W.Fast.tw7241509899675618536 := 0
def PySem.W.Fast.tw12529904717837861981 := 0
def PySem.W.Fast.tw1183389547784530840 := 0
def PySem.W.Fast.tw13904070793711598878 := 0
def PySem.W.Fast.tw5586109218984221591 := 0
def PySem.W.Fast.tw17223693752068163345 := 0
def PySem.W.Fast.tw2207290177323403935 := 0
def PySem.W.Fast.tw2312532066619602881 := 0
def PySem.W.Fast.tw318872285253281670 := 0
def PySem.W.Fast.tw13118763485014924262 := 0
def PySem.W.Fast.tw15554541794126648581 := 0
def PySem.W.Fast.tw18052891404328359552 := 0
def PySem.W.Fast.tw14157510967959021614 := 0
def PySem.W.Fast.tw14743573349746494200 := 0
def PySem.W.Fast.tw10407974058946281859 := 0
def PySem.W.Fast.tw15412651467460320430 := 0
def PySem.W.Fast.tw5700271763182426543 := 0
def PySem.W.Fast.tw16118958814948812979 := 0
def PySem.W.Fast.tw9481117509017577436 := 0
def PySem.W.Fast.tw4364263909702965194 := 0
def PySem.W.Fast.tw10265118238017649044 := 0
def PySem.W.Fast.tw13386000423869847440 := 0
def PySem.W.Fast.tw11976900660000414718 := 0
def PySem.W.Fast.tw7755542693569312707 := 0
def PySem.W.Fast.tw5748774245851859331 := 0
def PySem.W.Fast.tw15339717488296225162 := 0
def PySem.W.Fast.tw16924985018535185099 := 0
def PySem.W.Fast.tw6687816717477121922 := 0
def PySem.W.Fast.tw9811267836922141034 := 0
def PySem.W.Fast.tw4731121423517950853 := 0
def PySem.W.Fast.tw13749102405689960848 := 0
def PySem.W.Fast.tw3901385316273767445 := 0
def PySem.W.Fast.tw18023987720363913289 := 0
def PySem.W.Fast.tw5099779482251825971 := 0
def PySem.W.Fast.tw11089078402592426652 := 0
def PySem.W.Fast.tw12514494270973826438 := 0
def PySem.W.Fast.tw5827973982929336453 := 0
def PySem.W.Fast.tw9872084781451003164 := 0
def PySem.W.Fast.tw14893748244275264541 := 0
def PySem.W.Fast.tw1847289936134493832 := 0
def PySem.W.Fast.tw15510689628028426783 := 0
def PySem.W.Fast.tw2613035751622092856 := 0
def PySem.W.Fast.tw12026466652033706476 := 0
def PySem.W.Fast.tw12028150586684218998 := 0
def PySem.W.Fast.tw14222185075482951807 := 0
def PySem.W.Fast.tw14291870022746024125 := 0
def PySem.W.Fast.tw6722820384310531460 := 0
def PySem.W.Fast.tw17981130643886857240 := 0
def PySem.W.Fast.tw13266396631436489907 := 0
def PySem.W.Fast.tw13102732615054649174 := 0
def PySem.W.Fast.tw2409018425910223048 := 0
def PySem.W.Fast.tw4798994646523466270 := 0
def PySem.W.Fast.tw8326867223489233721 := 0
def PySem.W.Fast.tw17171240397205887931 := 0
def PySem.W.Fast.tw2983826319062820688 := 0
def PySem.W.Fast.tw8323606407802611718 := 0
def PySem.W.Fast.tw8470517542407420960 := 0
def PySem.W.Fast.tw13802622312534184678 := 0
def PySem.W.Fast.tw15062030797129699963 := 0
def PySem.W.Fast.tw2044850017944409948 := 0
def PySem.W.Fast.tw1725956883684493333 := 0
def PySem.W.Fast.tw7479491774048271618 := 0
def PySem.W.Fast.tw11154342735686709458 := 0
def PySem.W.Fast.tw9783730312447959210 := 0
def PySem.W.Fast.tw5144389640010052867 := 0
def PySem.W.Fast.tw9799360221664187909 := 0
def PySem.W.Fast.tw7588359853397865821 := 0
def PySem.W.Fast.tw5199443052421082206 := 0
def PySem.W.Fast.tw7937704787006949730 := 0
def PySem.W.Fast.tw5893466829374139288 := 0
def PySem.W.Fast.tw11573619221865422138 := 0
def PySem.W.Fast.tw10718124137628999348 := 0
def PySem.W.Fast.tw790869843722700893 := 0
def PySem.W.Fast.tw11441247924530028385 := 0
def PySem.W.Fast.tw17825210185673968488 := 0
def PySem.W.Fast.tw15217633019603385539 := 0
def PySem.W.Fast.tw9132455647455206034 := 0
def PySem.W.Fast.tw4536122072364779286 := 0
def PySem.W.Fast.tw3185075874882549827 := 0
def PySem.W.Fast.tw9747639709759098686 := 0
def PySem.W.Fast.tw2129694050995256079 := 0
def PySem.W.Fast.tw5256061691934343156 := 0
def PySem.W.Fast.tw17319272173604832261 := 0
def PySem.W.Fast.tw4599471386918488060 := 0
def PySem.W.Fast.tw14825331947777936045 := 0
def PySem.W.Fast.tw813169507505664009 := 0
def PySem.W.Fast.tw12700432395534509501 := 0
def PySem.W.Fast.tw6610045338983036557 := 0
def PySem.W.Fast.tw211475937657980516 := 0
def PySem.W.Fast.tw10039045783498059306 := 0
def PySem.W.Fast.tw17876376719869605727 := 0
def PySem.W.Fast.tw13837511674747173304 := 0
def PySem.W.Fast.tw16026304711392325336 := 0
def PySem.W.Fast.tw7835643893547359862 := 0
def PySem.W.Fast.tw2752708212219182718 := 0
def PySem.W.Fast.tw12594956215544204135 := 0
def PySem.W.Fast.tw2271085026993264089 := 0
def PySem.W.Fast.tw2964297030234001008 := 0
def PySem.W.Fast.tw14513123300371663231 := 0
def PySem.W.Fast.tw15552709493996414531 := 0
def PySem.W.Fast.tw3779315493452947674 := 0
def PySem.W.Fast.tw1534106063292291972 := 0
def PySem.W.Fast.tw15370247591360514299 := 0
def PySem.W.Fast.tw3564486573600560545 := 0
def PySem.W.Fast.tw5415378300131355258 := 0
def PySem.W.Fast.tw7893826262688607735 := 0
def PySem.W.Fast.tw3315510947603169812 := 0
def PySem.W.Fast.tw11328676901117013681 := 0
def PySem.W.Fast.tw4411939052692593506 := 0
def PySem.W.Fast.tw12734905902730251256 := 0
def PySem.W.Fast.tw15950588880026672940 := 0
def PySem.W.Fast.tw12843018434788671861 := 0
def PySem.W.Fast.tw17423453498793838813 := 0
def PySem.W.Fast.tw412308061888035397 := 0
def PySem.W.Fast.tw13558301298902388907 := 0
def PySem.W.Fast.tw5820165615981063911 := 0
def PySem.W.Fast.tw17087864764849621426 := 0
def PySem.W.Fast.tw11208579348218961676 := 0
def PySem.W.Fast.tw16816962911359566774 := 0
def PySem.W.Fast.tw4813908079505679406 := 0
def PySem.W.Fast.tw339082658116931403 := 0
def PySem.W.Fast.tw12514052153717814380 := 0
def PySem.W.Fast.tw4755235725383287859 := 0
def PySem.W.Fast.tw5106487141087701603 := 0
def PySem.W.Fast.tw12796709987457484677 := 0
def PySem.W.Fast.tw13047345451586061706 := 0
def PySem.W.Fast.tw165875638955893154 := 0
def PySem.W.Fast.tw2339822587078806651 := 0
def PySem.W.Fast.tw1579936929571883336 := 0
def PySem.W.Fast.tw12153160354768444319 := 0
def PySem.W.Fast.tw451064517013981985 := 0
def PySem.W.Fast.tw2764083506901256898 := 0
def PySem.W.Fast.tw10425494652565708654 := 0
def PySem.W.Fast.tw10231950318454846233 := 0
def PySem.W.Fast.tw9115118618600054647 := 0
def PySem.W.Fast.tw16802755613476077971 := 0
def PySem.W.Fast.tw11784653019752564488 := 0
def PySem.W.Fast.tw10753059624144210107 := 0
def PySem.W.Fast.tw11062707125428531736 := 0
def PySem.W.Fast.tw10242941301391669854 := 0
def PySem.W.Fast.tw2176319452298562455 := 0
def PySem.W.Fast.tw2496109143419838344 := 0
def PySem.W.Fast.tw15390225526753562729 := 0
def PySem.W.Fast.tw5486994230729866722 := 0
def PySem.W.Fast.tw8453227619675027370 := 0
def PySem.W.Fast.tw1680310773794229846 := 0
def PySem.W.Fast.tw8289466345094517435 := 0
def PySem.W.Fast.tw2331401241691813044 := 0
def PySem.W.Fast.tw5615879361214233520 := 0
def PySem.W.Fast.tw622479764210445406 := 0
def PySem.W.Fast.tw11789605876806717818 := 0
def PySem.W.Fast.tw8812202470547041478 := 0
def PySem.W.Fast.tw2152717888368565078 := 0
def PySem.W.Fast.tw1991879283142999314 := 0
def PySem.W.Fast.tw14750669565684864085 := 0
def PySem.W.Fast.tw5867260067812517713 := 0
def PySem.W.Fast.tw11019449570809824416 := 0
def PySem.W.Fast.tw14427959248083666739 := 0
def PySem.W.Fast.tw9900730590804834994 := 0
def PySem.W.Fast.tw8106075695405197806 := 0
def PySem.W.Fast.tw15203656726304802135 := 0
def PySem.W.Fast.tw3673439226043798688 := 0
def PySem.W.Fast.tw9432147949033471131 := 0
def PySem.W.Fast.tw5267147398012009594 := 0
def PySem.W.Fast.tw12574020809888823924 := 0
def PySem.W.Fast.tw3678632079037206687 := 0
def PySem.W.Fast.tw2213097380463899422 := 0
def PySem.W.Fast.tw6366027299836691442 := 0
def PySem.W.Fast.tw10294457515291757011 := 0
def PySem.W.Fast.tw10301471676122782681 := 0
def PySem.W.Fast.tw2231667332241838710 := 0
def PySem.W.Fast.tw15079140853920884420 := 0
def PySem.W.Fast.tw12857362009759725372 := 0
def PySem.W.Fast.tw2652430731747311140 := 0
def PySem.W.Fast.tw13180626784454353604 := 0
def PySem.W.Fast.tw3969052659102398087 := 0
def PySem.W.Fast.tw13568315735682349701 := 0
def PySem.W.Fast.tw11978518875522087083 := 0
def PySem.W.Fast.tw17354572583215002156 := 0
def PySem.W.Fast.tw13022348930712196502 := 0
def PySem.W.Fast.tw17458081611886493373 := 0
def PySem.W.Fast.tw477287015820494303 := 0
def PySem.W.Fast.tw2706707718257764279 := 0
def PySem.W.Fast.tw2143390823778798422 := 0
def PySem.W.Fast.tw16348783469175980333 := 0
def PySem.W.Fast.tw3381222613140259429 := 0
def PySem.W.Fast.tw669528237148478741 := 0
def PySem.W.Fast.tw16970306985592993506 := 0
def PySem.W.Fast.tw9374861981868016351 := 0
def PySem.W.Fast.tw3346540678284098487 := 0
def PySem.W.Fast.tw9596656459445222149 := 0
def PySem.W.Fast.tw14439898208159386777 := 0
def PySem.W.Fast.tw16955047872434522995 := 0
def PySem.W.Fast.tw4514157959937220612 := 0
def PySem.W.Fast.tw3076223316593985251 := 0
def PySem.W.Fast.tw6803769475388553080 := 0
def PySem.W.Fast.tw14778687083480304632 := 0
def PySem.W.Fast.tw9944125567596146084 := 0
def PySem.W.Fast.tw14122934701584743395 := 0
def PySem.W.Fast.tw1611222863079702349 := 0
def PySem.W.Fast.tw17246666337952583145 := 0
def PySem.W.Fast.tw16927805097084085671 := 0
def PySem.W.Fast.tw8930745653042411387 := 0
def PySem.W.Fast.tw5774409164837279932 := 0
def PySem.W.Fast.tw17751057826846525062 := 0
def PySem.W.Fast.tw13926186035560013670 := 0
def PySem.W.Fast.tw284989301861610640 := 0
def PySem.W.Fast.tw9635325823249116206 := 0
def PySem.W.Fast.tw17891628425371221930 := 0
def PySem.W.Fast.tw3048155670993011425 := 0
def PySem.W.Fast.tw12639088971304269390 := 0
def PySem.W.Fast.tw4417111439056507271 := 0
def PySem.W.Fast.tw8633560304231039359 := 0
def PySem.W.Fast.tw8000032838927655227 := 0
def PySem.W.Fast.tw18444993311008893134 := 0
def PySem.W.Fast.tw17449122790540535399 := 0
def PySem.W.Fast.tw7366066112862494887 := 0
def PySem.W.Fast.tw3794849047710774059 := 0
def PySem.W.Fast.tw15361628731571452847 := 0
def PySem.W.Fast.tw17041118024770660921 := 0
def PySem.W.Fast.tw14034982710303590423 := 0
def PySem.W.Fast.tw18173652772887292693 := 0
def PySem.W.Fast.tw2019500601706050618 := 0
def PySem.W.Fast.tw10318172172862401240 := 0
def PySem.W.Fast.tw12920252796939128556 := 0
def PySem.W.Fast.tw15984426054772575047 := 0
def PySem.W.Fast.tw13377428869676281315 := 0
def PySem.W.Fast.tw4393855808031993115 := 0
def PySem.W.Fast.tw17769730254007222474 := 0
def PySem.W.Fast.tw7812852324037889081 := 0
def PySem.W.Fast.tw4941634517246812167 := 0
def PySem.W.Fast.tw11152224442298551839 := 0
def PySem.W.Fast.tw17444672235254365478 := 0
def PySem.W.Fast.tw14534378946546334941 := 0
def PySem.W.Fast.tw17705213708422147661 := 0
def PySem.W.Fast.tw14280755231108131638 := 0
def PySem.W.Fast.tw8717500278331609679 := 0
def PySem.W.Fast.tw4073136804254876429 := 0
def PySem.W.Fast.tw2847077339167863926 := 0
def PySem.W.Fast.tw2302103233043964801 := 0
def PySem.W.Fast.tw4631272122713242901 := 0
def PySem.W.Fast.tw12525091638521527058 := 0
def PySem.W.Fast.tw1012778126877992332 := 0
def PySem.W.Fast.tw1733457945404741438 := 0
def PySem.W.Fast.tw6664139219057685222 := 0
def PySem.W.Fast.tw12936846809924190419 := 0
def PySem.W.Fast.tw7332934755748615569 := 0
def PySem.W.Fast.tw13087664602731735139 := 0
def PySem.W.Fast.tw16693676987413531224 := 0
def PySem.W.Fast.tw10758538045008577288 := 0
def PySem.W.Fast.tw6022061038589161182 := 0
def PySem.W.Fast.tw6498018166287731272 := 0
def PySem.W.Fast.tw12387863757831158705 := 0
def PySem.W.Fast.tw11496719946896980589 := 0
def PySem.W.Fast.tw12747007351616603099 := 0
def PySem.W.Fast.tw13521675465193634064 := 0
def PySem.W.Fast.tw14897822334922160040 := 0
def PySem.W.Fast.tw9886210404925195241 := 0
def PySem.W.Fast.tw489339213255239670 := 0
def PySem.W.Fast.tw4066395652708879994 := 0
def PySem.W.Fast.tw11599183431178610860 := 0
def PySem.W.Fast.tw16056607125171928472 := 0
def PySem.W.Fast.tw4484722548662677751 := 0
def PySem.W.Fast.tw9669564406959007087 := 0
def PySem.W.Fast.tw16187338165230021402 := 0
def PySem.W.Fast.tw7325235252375088255 := 0
def PySem.W.Fast.tw3014881470464570813 := 0
def PySem.W.Fast.tw12539130425182905832 := 0
def PySem.W.Fast.tw15843106563434935172 := 0
def PySem.W.Fast.tw16532500481312219941 := 0
def PySem.W.Fast.tw3823866550552336317 := 0
def PySem.W.Fast.tw546529191321863568 := 0
def PySem.W.Fast.tw13160487202645010273 := 0
def PySem.W.Fast.tw9173167838569079718 := 0
def PySem.W.Fast.tw5044589197528134620 := 0
def PySem.W.Fast.tw6624263867764148261 := 0
def PySem.W.Fast.tw11966265009570588371 := 0
def PySem.W.Fast.tw11526477784860402616 := 0
def PySem.W.Fast.tw18386123167020860140 := 0
def PySem.W.Fast.tw13893647065668416651 := 0
def PySem.W.Fast.tw4572942667184392669 := 0
def PySem.W.Fast.tw17721594715613971454 := 0
def PySem.W.Fast.tw14647348112487417630 := 0
def PySem.W.Fast.tw15930471044559400104 := 0
def PySem.W.Fast.tw2833593875651110883 := 0
def PySem.W.Fast.tw18156745412654474870 := 0
def PySem.W.Fast.tw6567389200668143186 := 0
def PySem.W.Fast.tw1384040019420557080 := 0
def PySem.W.Fast.tw14393169794413858358 := 0
def PySem.W.Fast.tw16770779690450152973 := 0
def PySem.W.Fast.tw11876064718366670863 := 0
def PySem.W.Fast.tw988173848492585775 := 0
def PySem.W.Fast.tw2856157582246437152 := 0
def PySem.W.Fast.tw13860512646700761773 := 0
def PySem.W.Fast.tw14452483071061211417 := 0
def PySem.W.Fast.tw10245811847625517912 := 0
def PySem.W.Fast.tw17680604413923992558 := 0
def PySem.W.Fast.tw3706787388249173454 := 0
def PySem.W.Fast.tw2147353783967643836 := 0
def PySem.W.Fast.tw17186301083261931326 := 0
def PySem.W.Fast.tw18341571961054696411 := 0
def PySem.W.Fast.tw7221276348909406444 := 0
def PySem.W.Fast.tw15380803681994699041 := 0
def PySem.W.Fast.tw8502647021024136845 := 0
def PySem.W.Fast.tw11585243065146133097 := 0
def PySem.W.Fast.tw4618680268680523939 := 0
def PySem.W.Fast.tw16907780658403340088 := 0
def PySem.W.Fast.tw4598083908832096135 := 0
def PySem.W.Fast.tw12576583943780216015 := 0
def PySem.W.Fast.tw11283814896424244914 := 0
def PySem.W.Fast.tw16839849957359534988 := 0
def PySem.W.Fast.tw9756486401030852788 := 0
def PySem.W.Fast.tw13198679115436626931 := 0
def PySem.W.Fast.tw7907568915370094257 := 0
def PySem.W.Fast.tw8146203902620544704 := 0
def PySem.W.Fast.tw5585957535377118827 := 0
def PySem.W.Fast.tw7715060265924644331 := 0
def PySem.W.Fast.tw14528860553689571740 := 0
def PySem.W.Fast.tw14112108661817362875 := 0
def PySem.W.Fast.tw14187316569985667457 := 0
def PySem.W.Fast.tw10258108431054305352 := 0
def PySem.W.Fast.tw4949489900380986519 := 0
def PySem.W.Fast.tw18259401400388640940 := 0
def PySem.W.Fast.tw18249751990526165716 := 0
def PySem.W.Fast.tw6399806638762478516 := 0
def PySem.W.Fast.tw17535985603638692928 := 0
def PySem.W.Fast.tw15023053426223793007 := 0
def PySem.W.Fast.tw7028663789134965369 := 0
def PySem.W.Fast.tw11068688955018574661 := 0
def PySem.W.Fast.tw10954219179037069896 := 0
def PySem.W.Fast.tw10065069714950943316 := 0
def PySem.W.Fast.tw11145989093314475488 := 0
def PySem.W.Fast.tw14634698807101114112 := 0
def PySem.W.Fast.tw284814937101214025 := 0
def PySem.W.Fast.tw10302472147993991205 := 0
def PySem.W.Fast.tw12394558270956573273 := 0
def PySem.W.Fast.tw16594592249841022891 := 0
def PySem.W.Fast.tw11863128598878000845 := 0
def PySem.W.Fast.tw776587468434606672 := 0
def PySem.W.Fast.tw7518758854616017655 := 0
def PySem.W.Fast.tw6944242746728842050 := 0
def PySem.W.Fast.tw6848479199447202423 := 0
def PySem.W.Fast.tw7805151336142707646 := 0
def PySem.W.Fast.tw6484086837044331321 := 0
def PySem.W.Fast.tw14871858938955611165 := 0
def PySem.W.Fast.tw12636209464778292147 := 0
def PySem.W.Fast.tw8140459955820625848 := 0
def PySem.W.Fast.tw9919685311923103085 := 0
def PySem.W.Fast.tw6078748039053196528 := 0
def PySem.W.Fast.tw1783647460303977963 := 0
def PySem.W.Fast.tw12866945383511224800 := 0
def PySem.W.Fast.tw17230542643270585217 := 0
def PySem.W.Fast.tw15194020531962675072 := 0
def PySem.W.Fast.tw8781373833460747227 := 0
def PySem.W.Fast.tw1840304853237831370 := 0
def PySem.W.Fast.tw10833333976610516197 := 0
def PySem.W.Fast.tw14814355258106400552 := 0
def PySem.W.Fast.tw3418888997411639839 := 0
def PySem.W.Fast.tw15191044361599294665 := 0
def PySem.W.Fast.tw3648707112226835557 := 0
def PySem.W.Fast.tw16812351049774326233 := 0
def PySem.W.Fast.tw6187732641292022713 := 0
def PySem.W.Fast.tw4401912141439951088 := 0
def PySem.W.Fast.tw8021431318461594706 := 0
def PySem.W.Fast.tw6494230563503049375 := 0
def PySem.W.Fast.tw16434862086065837392 := 0
def PySem.W.Fast.tw1987084445219792219 := 0
def PySem.W.Fast.tw14896773803558481146 := 0
def PySem.W.Fast.tw17316695390001840599 := 0
def PySem.W.Fast.tw14369863438275318793 := 0
def PySem.W.Fast.tw10822478512138534625 := 0
def PySem.W.Fast.tw13112533316007664471 := 0
def PySem.W.Fast.tw11712612500932331833 := 0
def PySem.W.Fast.tw9143728149252779832 := 0
def PySem.W.Fast.tw18039433229033700136 := 0
def PySem.W.Fast.tw8814331183266539637 := 0
def PySem.W.Fast.tw1826201048302858874 := 0
def PySem.W.Fast.tw1667829991705950723 := 0
def PySem.W.Fast.tw2928571871250158848 := 0
def PySem.W.Fast.tw2500089174708134893 := 0
def PySem.W.Fast.tw122993130965437247 := 0
def PySem.W.Fast.tw6774118397534283800 := 0
def PySem.W.Fast.tw2888748408452253562 := 0
def PySem.W.Fast.tw15442926938119541022 := 0
def PySem.W.Fast.tw1420829086897441158 := 0
def PySem.W.Fast.tw5671927640217503587 := 0
def PySem.W.Fast.tw13915147182068462259 := 0
def PySem.W.Fast.tw15944045229890032252 := 0
def PySem.W.Fast.tw1017658155826942746 := 0
def PySem.W.Fast.tw17179363569157502472 := 0
def PySem.W.Fast.tw10966059879102158018 := 0
def PySem.W.Fast.tw11732260367852371474 := 0
def PySem.W.Fast.tw4624371222522882763 := 0
def PySem.W.Fast.tw12534757166362823182 := 0
def PySem.W.Fast.tw17653149380838774433 := 0
def PySem.W.Fast.tw9564400487070077887 := 0
def PySem.W.Fast.tw12501021897212936070 := 0
def PySem.W.Fast.tw9563525622011440836 := 0
def PySem.W.Fast.tw2904923459981657029 := 0
def PySem.W.Fast.tw16931404652878487407 := 0
def PySem.W.Fast.tw17801520097463549096 := 0
def PySem.W.Fast.tw1068335131721633726 := 0
def PySem.W.Fast.tw16290510414984795077 := 0
def PySem.W.Fast.tw16332578584093711762 := 0
def PySem.W.Fast.tw6282608167713802009 := 0
def PySem.W.Fast.tw9999756198617749597 := 0
def PySem.W.Fast.tw2098077782970872707 := 0
def PySem.W.Fast.tw11973374099374586430 := 0
def PySem.W.Fast.tw7443871232546533769 := 0
def PySem.W.Fast.tw3029419253610848976 := 0
def PySem.W.Fast.tw7270780822173918368 := 0
def PySem.W.Fast.tw15815796779371850522 := 0
def PySem.W.Fast.tw16666051538401697520 := 0
def PySem.W.Fast.tw13819614596641033642 := 0
def PySem.W.Fast.tw47476534594251034 := 0
def PySem.W.Fast.tw1937250650683919749 := 0
def PySem.W.Fast.tw5573062916458312712 := 0
def PySem.W.Fast.tw10661245619200603072 := 0
def PySem.W.Fast.tw16702747094575556406 := 0
def PySem.W.Fast.tw6577639809003071007 := 0
def PySem.W.Fast.tw634127240461972851 := 0
def PySem.W.Fast.tw16247156701484740194 := 0
def PySem.W.Fast.tw17065082313530641043 := 0
def PySem.W.Fast.tw10371120528002954227 := 0
def PySem.W.Fast.tw15065971047361105561 := 0
def PySem.W.Fast.tw8669442145216026547 := 0
def PySem.W.Fast.tw16937446416787865853 := 0
def PySem.W.Fast.tw7073969974048319213 := 0
def PySem.W.Fast.tw10032280228969336860 := 0
def PySem.W.Fast.tw2007644046813417118 := 0
def PySem.W.Fast.tw7877396737671049281 := 0
def PySem.W.Fast.tw4917244169534199599 := 0
def PySem.W.Fast.tw9383219048913849162 := 0
def PySem.W.Fast.tw13736635783712368816 := 0
def PySem.W.Fast.tw10712358613557629302 := 0
def PySem.W.Fast.tw1254628155705816081 := 0
def PySem.W.Fast.tw15087496297407177250 := 0
def PySem.W.Fast.tw9775260153113845668 := 0
def PySem.W.Fast.tw14247565112133036421 := 0
def PySem.W.Fast.tw11180149874182120181 := 0
def PySem.W.Fast.tw4867832513125268985 := 0
def PySem.W.Fast.tw10210605869934792360 := 0
def PySem.W.Fast.tw17246425588478025489 := 0
def PySem.W.Fast.tw15986485958707892892 := 0
def PySem.W.Fast.tw1943610715614489436 := 0
def PySem.W.Fast.tw11229756335125092910 := 0
def PySem.W.Fast.tw10388399980764592541 := 0
def PySem.W.Fast.tw2048527390836318435 := 0
def PySem.W.Fast.tw12211527492683790291 := 0
def PySem.W.Fast.tw4899589375981461572 := 0
def PySem.W.Fast.tw14371519606121586442 := 0
def PySem.W.Fast.tw2564054270811980716 := 0
def PySem.W.Fast.tw14423025381070613123 := 0
def PySem.W.Fast.tw1444497484266827918 := 0
def PySem.W.Fast.tw13465852611122003791 := 0
def PySem.W.Fast.tw10849866342313492236 := 0
def PySem.W.Fast.tw14001299505248027672 := 0
def PySem.W.Fast.tw2095673569902994346 := 0
def PySem.W.Fast.tw3041996715844464245 := 0
def PySem.W.Fast.tw14541503805104782548 := 0
def PySem.W.Fast.tw1434490112368520762 := 0
def PySem.W.Fast.tw14366599044329871609 := 0
def PySem.W.Fast.tw7173733792726669536 := 0
def PySem.W.Fast.tw920025573449574892 := 0
def PySem.W.Fast.tw13760664832188160376 := 0
def PySem.W.Fast.tw2252815239343403313 := 0
def PySem.W.Fast.tw8826107122625125049 := 0
def PySem.W.Fast.tw8923335339356547530 := 0
def PySem.W.Fast.tw6308162000457055919 := 0
def PySem.W.Fast.tw3198868181978235329 := 0
def PySem.W.Fast.tw16078144283899230176 := 0
def PySem.W.Fast.tw8793854632599712494 := 0
def PySem.W.Fast.tw17124532839187705096 := 0
def PySem.W.Fast.tw18004859829938162564 := 0
def PySem.W.Fast.tw17373211310820076677 := 0
def PySem.W.Fast.tw428337575478835292 := 0
def PySem.W.Fast.tw2683243529888698397 := 0
def PySem.W.Fast.tw11642020939439769123 := 0
def PySem.W.Fast.tw12118609166298081266 := 0
def PySem.W.Fast.tw5753129695088518761 := 0
def PySem.W.Fast.tw15790318415760674448 := 0
def PySem.W.Fast.tw7763759711648071091 := 0
def PySem.W.Fast.tw2166750323982582474 := 0
def PySem.W.Fast.tw10297028378540484173 := 0
def PySem.W.Fast.tw3015758791403242778 := 0
def PySem.W.Fast.tw1767073581614607013 := 0
def PySem.W.Fast.tw3131104726608846525 := 0
def PySem.W.Fast.tw13908324778338680701 := 0
def PySem.W.Fast.tw11604355163117922447 := 0
def PySem.W.Fast.tw8882100498791864065 := 0
def PySem.W.Fast.tw7627121943380394554 := 0
def PySem.W.Fast.tw9025545222942867449 := 0
def PySem.W.Fast.tw8273177748996726906 := 0
def PySem.W.Fast.tw3280079025799412433 := 0
def PySem.W.Fast.tw2411109854053483335 := 0
def PySem.W.Fast.tw14268253605466415306 := 0
def PySem.W.Fast.tw8210496644563089768 := 0
def PySem.W.Fast.tw8495501347350455378 := 0
def PySem.W.Fast.tw10276746759885885392 := 0
def PySem.W.Fast.tw5239156165002939539 := 0
def PySem.W.Fast.tw3546605613866876632 := 0
def PySem.W.Fast.tw11428086505209555358 := 0
def PySem.W.Fast.tw3858295277352078281 := 0
def PySem.W.Fast.tw16293961860530238151 := 0
def PySem.W.Fast.tw16030635243196634728 := 0
def PySem.W.Fast.tw13943532699931233671 := 0
def PySem.W.Fast.tw7776136027700067890 := 0
def PySem.W.Fast.tw13834023268666183393 := 0
def PySem.W.Fast.tw1645073722560846987 := 0
def PySem.W.Fast.tw17497847439264791770 := 0
def PySem.W.Fast.tw172366662927481197 := 0
def PySem.W.Fast.tw14434298266382438155 := 0
def PySem.W.Fast.tw16176509722475794344 := 0
def PySem.W.Fast.tw1642925966233869608 := 0
def PySem.W.Fast.tw10648145479184647174 := 0
def PySem.W.Fast.tw2527811493761505677 := 0
def PySem.W.Fast.tw16332868876593287505 := 0
def PySem.W.Fast.tw17535114565803047665 := 0
def PySem.W.Fast.tw16265514541118578032 := 0
def PySem.W.Fast.tw2613015561787415641 := 0
def PySem.W.Fast.tw8269545110980679393 := 0
def PySem.W.Fast.tw635675362985794176 := 0
def PySem.W.Fast.tw786791505326574228 := 0
def PySem.W.Fast.tw11008522922800128023 := 0
def PySem.W.Fast.tw11311214807116155555 := 0
def PySem.W.Fast.tw14298976378782663490 := 0
def PySem.W.Fast.tw842140359645836536 := 0
def PySem.W.Fast.tw7584201519898548643 := 0
def PySem.W.Fast.tw9120757107686776612 := 0
def PySem.W.Fast.tw3775635796133928759 := 0
def PySem.W.Fast.tw11823299539096413903 := 0
def PySem.W.Fast.tw976695462754436521 := 0
def PySem.W.Fast.tw1423142467836852278 := 0
def PySem.W.Fast.tw15093516471455494032 := 0
def PySem.W.Fast.tw10534203463045932319 := 0
def PySem.W.Fast.tw4509588399534079363 := 0
def PySem.W.Fast.tw6793187986214229418 := 0
def PySem.W.Fast.tw17329251591684353900 := 0
def PySem.W.Fast.tw1343489276034837897 := 0
def PySem.W.Fast.tw272750156575560511 := 0
def PySem.W.Fast.tw6942594526202984283 := 0
def PySem.W.Fast.tw1347190706867477306 := 0
def PySem.W.Fast.tw7436679751725018450 := 0
def PySem.W.Fast.tw3520238697759764139 := 0
def PySem.W.Fast.tw528803590478420245 := 0
def PySem.W.Fast.tw1466636800826011698 := 0
def PySem.W.Fast.tw17440659889670676700 := 0
def PySem.W.Fast.tw7962136034477893975 := 0
def PySem.W.Fast.tw9571905740603981318 := 0
def PySem.W.Fast.tw14990795205369212727 := 0
def PySem.W.Fast.tw13390415105492769706 := 0
def PySem.W.Fast.tw3766344104661624203 := 0
def PySem.W.Fast.tw18109081580731825443 := 0
def PySem.W.Fast.tw5531773551983762102 := 0
def PySem.W.Fast.tw5739311140660648463 := 0
def PySem.W.Fast.tw7180646991831372856 := 0
def PySem.W.Fast.tw1791074079955889147 := 0
def PySem.W.Fast.tw51413150306577855 := 0
def PySem.W.Fast.tw12873563278572526614 := 0
def PySem.W.Fast.tw14080629595617623920 := 0
def PySem.W.Fast.tw11181521691110448672 := 0
def PySem.W.Fast.tw17497884017816632542 := 0
def PySem.W.Fast.tw6702401389118197483 := 0
def PySem.W.Fast.tw11777059434366284207 := 0
def PySem.W.Fast.tw14217383315385325076 := 0
def PySem.W.Fast.tw11377442824559923968 := 0
def PySem.W.Fast.tw14976223359410084530 := 0
def PySem.W.Fast.tw1462003570109478793 := 0
def PySem.W.Fast.tw3962950922359600133 := 0
def PySem.W.Fast.tw12640058860380046125 := 0
def PySem.W.Fast.tw643876859144667095 := 0
def PySem.W.Fast.tw16380391474800775030 := 0
def PySem.W.Fast.tw3714965225292395630 := 0
def PySem.W.Fast.tw1492754203304221008 := 0
def PySem.W.Fast.tw18044375144204730286 := 0
def PySem.W.Fast.tw2434531971485815114 := 0
def PySem.W.Fast.tw6457336153902414404 := 0
def PySem.W.Fast.tw16627019072462416949 := 0
def PySem.W.Fast.tw17658795703312766274 := 0
def PySem.W.Fast.tw17242943295427278392 := 0
def PySem.W.Fast.tw5505901745886650323 := 0
def PySem.W.Fast.tw9654250563337167648 := 0
def PySem.W.Fast.tw741153737389371285 := 0
def PySem.W.Fast.tw2525831539208155095 := 0
def PySem.W.Fast.tw6235243680152395793 := 0
def PySem.W.Fast.tw12325876814154304333 := 0
def PySem.W.Fast.tw1737358790801081228 := 0
def PySem.W.Fast.tw4246937487461875813 := 0
def PySem.W.Fast.tw4761149832989995195 := 0
def PySem.W.Fast.tw3927442996542394278 := 0
def PySem.W.Fast.tw11160141508010354823 := 0
def PySem.W.Fast.tw18385768296899133723 := 0
def PySem.W.Fast.tw6881443465243902372 := 0
def PySem.W.Fast.tw2351945953761287706 := 0
def PySem.W.Fast.tw83945458329954553 := 0
def PySem.W.Fast.tw2093190978516038137 := 0
def PySem.W.Fast.tw8643319656528387799 := 0
def PySem.W.Fast.tw16694724803114091502 := 0
def PySem.W.Fast.tw3364025415029076327 := 0
def PySem.W.Fast.tw12256847682997260923 := 0
def PySem.W.Fast.tw9581655498040369698 := 0
def PySem.W.Fast.tw1603713706387439832 := 0
def PySem.W.Fast.tw16467305440560429647 := 0
def PySem.W.Fast.tw5021201091604291559 := 0
def PySem.W.Fast.tw13198696901969922133 := 0
def PySem.W.Fast.tw153218904118931029 := 0
def PySem.W.Fast.tw2760453956483383127 := 0
def PySem.W.Fast.tw11402598969594053829 := 0
def PySem.W.Fast.tw1679807299755575764 := 0
def PySem.W.Fast.tw16652065601332700451 := 0
def PySem.W.Fast.tw11412791035075867600 := 0
def PySem.W.Fast.tw14121453468725748764 := 0
def PySem.W.Fast.tw4283815591217229808 := 0
def PySem.W.Fast.tw10585960985649709235 := 0
def PySem.W.Fast.tw13692549557070409836 := 0
def PySem.W.Fast.tw17990605702783225967 := 0
def PySem.W.Fast.tw13361577388453696708 := 0
def PySem.W.Fast.tw4154880609032750266 := 0
def PySem.W.Fast.tw11770321888636199107 := 0
def PySem.W.Fast.tw2409363008873587513 := 0
def PySem.W.Fast.tw13540346032130858634 := 0
def PySem.W.Fast.tw9910991174390413927 := 0
def PySem.W.Fast.tw12775942082063347667 := 0
def PySem.W.Fast.tw12578149752225143223 := 0
def PySem.W.Fast.tw6100824507905913948 := 0
def PySem.W.Fast.tw6706824343934380502 := 0
def PySem.W.Fast.tw8414648099523896723 := 0
def PySem.W.Fast.tw4077792401393420082 := 0
def PySem.W.Fast.tw8557102912045785960 := 0
def PySem.W.Fast.tw9341498963047628702 := 0
def PySem.W.Fast.tw13177585974812215543 := 0
def PySem.W.Fast.tw7239727126242401983 := 0
def PySem.W.Fast.tw11442727783586289617 := 0
def PySem.W.Fast.tw18444982366983107754 := 0
def PySem.W.Fast.tw3686252698752895843 := 0
def PySem.W.Fast.tw14523992521570501972 := 0
def PySem.W.Fast.tw1726091055020210775 := 0
def PySem.W.Fast.tw12336358288612104948 := 0
def PySem.W.Fast.tw5075244376628288235 := 0
def PySem.W.Fast.tw4239557553506619042 := 0
def PySem.W.Fast.tw6423297552484409764 := 0
def PySem.W.Fast.tw2847743748033461641 := 0
def PySem.W.Fast.tw17423529615749662812 := 0
def PySem.W.Fast.tw6189701377761650073 := 0
def PySem.W.Fast.tw17526838725061951037 := 0
def PySem.W.Fast.tw1649854645169866417 := 0
def PySem.W.Fast.tw6556906720019920808 := 0
def PySem.W.Fast.tw16369682694736508175 := 0
def PySem.W.Fast.tw18198181901944840349 := 0
def PySem.W.Fast.tw3229134469762869956 := 0
def PySem.W.Fast.tw6276234591394920001 := 0
def PySem.W.Fast.tw4849393356266354623 := 0
def PySem.W.Fast.tw11903959631977614388 := 0
def PySem.W.Fast.tw130719499292104846 := 0
def PySem.W.Fast.tw6323954358495605433 := 0
def PySem.W.Fast.tw9413419301541453804 := 0
def PySem.W.Fast.tw13676121184679885538 := 0
def PySem.W.Fast.tw998913320920392043 := 0
def PySem.W.Fast.tw2192343310571324463 := 0
def PySem.W.Fast.tw7117574453859429030 := 0
def PySem.W.Fast.tw5550841478257961823 := 0
def PySem.W.Fast.tw7821783579693433949 := 0
def PySem.W.Fast.tw6172535220332610208 := 0
def PySem.W.Fast.tw3336224908862136315 := 0
def PySem.W.Fast.tw16209261536970081558 := 0
def PySem.W.Fast.tw6274503129709818688 := 0
def PySem.W.Fast.tw11717253784401861051 := 0
def PySem.W.Fast.tw15720746745947273249 := 0
def PySem.W.Fast.tw10246697629975439857 := 0
def PySem.W.Fast.tw15465933904222348743 := 0
def PySem.W.Fast.tw10170125795618461620 := 0
def PySem.W.Fast.tw7764571384529690664 := 0
def PySem.W.Fast.tw13504965755262824757 := 0
def PySem.W.Fast.tw7758274052204818980 := 0
def PySem.W.Fast.tw12460259182194759940 := 0
def PySem.W.Fast.tw205588231168165264 := 0
def PySem.W.Fast.tw2645920723035888042 := 0
def PySem.W.Fast.tw12402888930324256016 := 0
def PySem.W.Fast.tw6976609009469683946 := 0
def PySem.W.Fast.tw16756129946127356544 := 0
def PySem.W.Fast.tw4510393740450281669 := 0
def PySem.W.Fast.tw8184835543092423456 := 0
def PySem.W.Fast.tw13155806082556554627 := 0
def PySem.W.Fast.tw7265865032027811064 := 0
def PySem.W.Fast.tw18085438661042000433 := 0
def PySem.W.Fast.tw6722679156305150758 := 0
def PySem.W.Fast.tw16363832849343799503 := 0
def PySem.W.Fast.tw6257815069592421688 := 0
def PySem.W.Fast.tw13435856594069116032 := 0
def PySem.W.Fast.tw2384723230997326493 := 0
def PySem.W.Fast.tw13610885237058667822 := 0
def PySem.W.Fast.tw5161955475265299703 := 0
def PySem.W.Fast.tw18029359195020711135 := 0
def PySem.W.Fast.tw2932447940691136304 := 0
def PySem.W.Fast.tw44160175631364793 := 0
def PySem.W.Fast.tw1075658901533068143 := 0
def PySem.W.Fast.tw5084196621737754134 := 0
def PySem.W.Fast.tw3704383535941905620 := 0
def PySem.W.Fast.tw8916766087636402848 := 0
def PySem.W.Fast.tw9622766133587688890 := 0
def PySem.W.Fast.tw15680923337024443673 := 0
def PySem.W.Fast.tw8214084581011617630 := 0
def PySem.W.Fast.tw748401724091632500 := 0
def PySem.W.Fast.tw6074898589948463419 := 0
def PySem.W.Fast.tw2851473749442417606 := 0
def PySem.W.Fast.tw16409035879386844004 := 0
def PySem.W.Fast.tw6963980711544515937 := 0
def PySem.W.Fast.tw7477262814130007375 := 0
def PySem.W.Fast.tw3309367736708279913 := 0
def PySem.W.Fast.tw15371858935994034356 := 0
def PySem.W.Fast.tw11343038288402944615 := 0
def PySem.W.Fast.tw14100231969427952291 := 0
def PySem.W.Fast.tw622408596618478427 := 0
def PySem.W.Fast.tw10051571239188449479 := 0
def PySem.W.Fast.tw9239403842223469034 := 0
def PySem.W.Fast.tw11643610143576574670 := 0
def PySem.W.Fast.tw631985264837634170 := 0
def PySem.W.Fast.tw3639291422819171802 := 0
def PySem.W.Fast.tw12438633890460429717 := 0
def PySem.W.Fast.tw5192579763724831588 := 0
def PySem.W.Fast.tw655976928059466227 := 0
def PySem.W.Fast.tw11135095824261339615 := 0
def PySem.W.Fast.tw2392706350853858867 := 0
def PySem.W.Fast.tw4856403113457782521 := 0
def PySem.W.Fast.tw14767320201796058443 := 0
def PySem.W.Fast.tw11253380288160724506 := 0
def PySem.W.Fast.tw12949066153897046114 := 0
def PySem.W.Fast.tw14233126215494674837 := 0
def PySem.W.Fast.tw5343540098668077616 := 0
def PySem.W.Fast.tw771998178147481510 := 0
def PySem.W.Fast.tw7270111120212672323 := 0
def PySem.W.Fast.tw6516505501916528346 := 0
def PySem.W.Fast.tw15193953540539949565 := 0
def PySem.W.Fast.tw9247930433316698960 := 0
def PySem.W.Fast.tw17224696338818187868 := 0
def PySem.W.Fast.tw13083223753994036910 := 0
def PySem.W.Fast.tw6221942975002625782 := 0
def PySem.W.Fast.tw2694898004841205034 := 0
def PySem.W.Fast.tw6867531223907076644 := 0
def PySem.W.Fast.tw9626897197268126504 := 0
def PySem.W.Fast.tw5442311455826595530 := 0
def PySem.W.Fast.tw15848229428170804929 := 0
def PySem.W.Fast.tw3763458871962953233 := 0
def PySem.W.Fast.tw11826840742390391547 := 0
def PySem.W.Fast.tw347543410301255125 := 0
def PySem.W.Fast.tw70905212639677836 := 0
def PySem.W.Fast.tw16819322759927458823 := 0
def PySem.W.Fast.tw17551341566643848230 := 0
def PySem.W.Fast.tw14118101698452918899 := 0
def PySem.W.Fast.tw9948307679460836292 := 0
def PySem.W.Fast.tw4716348430096522564 := 0
def PySem.W.Fast.tw8001177665453887016 := 0
def PySem.W.Fast.tw18314906052589817881 := 0
def PySem.W.Fast.tw9362809677029229944 := 0
def PySem.W.Fast.tw12268027011504958451 := 0
def PySem.W.Fast.tw2766709957366290791 := 0
def PySem.W.Fast.tw16001707985964133141 := 0
def PySem.W.Fast.tw15997376582974209084 := 0
def PySem.W.Fast.tw16108353091795206524 := 0
def PySem.W.Fast.tw8926833643620950950 := 0
def PySem.W.Fast.tw7259081830852791989 := 0
def PySem.W.Fast.tw4266521859317693167 := 0
def PySem.W.Fast.tw8418382025245951299 := 0
def PySem.W.Fast.tw9986914383137218753 := 0
def PySem.W.Fast.tw2706726815211947116 := 0
def PySem.W.Fast.tw18214616211632994764 := 0
def PySem.W.Fast.tw15642628566218103238 := 0
def PySem.W.Fast.tw4527249690842191789 := 0
def PySem.W.Fast.tw815066930586805164 := 0
def PySem.W.Fast.tw13167950445392720426 := 0
def PySem.W.Fast.tw553844216552422584 := 0
def PySem.W.Fast.tw17554220029728425873 := 0
def PySem.W.Fast.tw14033756170357824894 := 0
def PySem.W.Fast.tw7958368783655290176 := 0
def PySem.W.Fast.tw5733954918030342054 := 0
def PySem.W.Fast.tw14833224540151405480 := 0
def PySem.W.Fast.tw16425090453112149375 := 0
def PySem.W.Fast.tw5050021718189800461 := 0
def PySem.W.Fast.tw6788666469218254015 := 0
def PySem.W.Fast.tw11705329974528754828 := 0
def PySem.W.Fast.tw536572321713168898 := 0
def PySem.W.Fast.tw6505773332167142639 := 0
def PySem.W.Fast.tw5185343100433723277 := 0
def PySem.W.Fast.tw6112859620854517816 := 0
def PySem.W.Fast.tw3816358531576162320 := 0
def PySem.W.Fast.tw17654544884521837705 := 0
def PySem.W.Fast.tw14323848409014431663 := 0
def PySem.W.Fast.tw14858472253088969992 := 0
def PySem.W.Fast.tw18096394160140672440 := 0
def PySem.W.Fast.tw15837138042811960727 := 0
def PySem.W.Fast.tw7433878311158934581 := 0
def PySem.W.Fast.tw9369837113956949991 := 0
def PySem.W.Fast.tw15384668375583404879 := 0
def PySem.W.Fast.tw15393173597093210925 := 0
def PySem.W.Fast.tw14497339918577420660 := 0
def PySem.W.Fast.tw6184086850090129672 := 0
def PySem.W.Fast.tw11659231143599521967 := 0
def PySem.W.Fast.tw10182356515324780196 := 0
def PySem.W.Fast.tw3386031534727949196 := 0
def PySem.W.Fast.tw13942118647214220523 := 0
def PySem.W.Fast.tw7810981050942037893 := 0
def PySem.W.Fast.tw16170442378940817973 := 0
def PySem.W.Fast.tw2385260196388600517 := 0
def PySem.W.Fast.tw5773398776939162151 := 0
def PySem.W.Fast.tw18410045949483575568 := 0
def PySem.W.Fast.tw2543732188717818213 := 0
def PySem.W.Fast.tw18427978284380071547 := 0
def PySem.W.Fast.tw6022431084503241223 := 0
def PySem.W.Fast.tw5856763701124221740 := 0
def PySem.W.Fast.tw10526279396799563701 := 0
def PySem.W.Fast.tw4218180216409563635 := 0
def PySem.W.Fast.tw16718965117500657710 := 0
def PySem.W.Fast.tw9849897891403659020 := 0
def PySem.W.Fast.tw10587166691238740589 := 0
def PySem.W.Fast.tw4943669599188295492 := 0
def PySem.W.Fast.tw9688932795565438327 := 0
def PySem.W.Fast.tw2632507228400733300 := 0
def PySem.W.Fast.tw5297663962363166535 := 0
def PySem.W.Fast.tw6576234026332658112 := 0
def PySem.W.Fast.tw11853280469371370957 := 0
def PySem.W.Fast.tw11876517715159746574 := 0
def PySem.W.Fast.tw13500874080966775964 := 0
def PySem.W.Fast.tw12772891563044802020 := 0
def PySem.W.Fast.tw14189649872286497625 := 0
def PySem.W.Fast.tw15335579847933812885 := 0
def PySem.W.Fast.tw17273102075286637051 := 0
def PySem.W.Fast.tw12882994934678142927 := 0
def PySem.W.Fast.tw4685749936663879391 := 0
def PySem.W.Fast.tw14215289080853810718 := 0
def PySem.W.Fast.tw13986566634400155120 := 0
def PySem.W.Fast.tw1339926155015378605 := 0
def PySem.W.Fast.tw10359486908710926695 := 0
def PySem.W.Fast.tw9809954875845885303 := 0
def PySem.W.Fast.tw16057835575234883912 := 0
def PySem.W.Fast.tw8333898250348012901 := 0
def PySem.W.Fast.tw5027868161481350031 := 0
def PySem.W.Fast.tw9450155833496445483 := 0
def PySem.W.Fast.tw6419315860119290063 := 0
def PySem.W.Fast.tw9301489456412103585 := 0
def PySem.W.Fast.tw6033981099580967782 := 0
def PySem.W.Fast.tw6202891864120286889 := 0
def PySem.W.Fast.tw17259874331175620915 := 0
def PySem.W.Fast.tw1740271073697760122 := 0
def PySem.W.Fast.tw573732117472090065 := 0
def PySem.W.Fast.tw6562372277116648423 := 0
def PySem.W.Fast.tw3639945711187843421 := 0
def PySem.W.Fast.tw2589742596671494231 := 0
def PySem.W.Fast.tw15232592421834203233 := 0
def PySem.W.Fast.tw15454194176725971342 := 0
def PySem.W.Fast.tw391853578120557249 := 0
def PySem.W.Fast.tw2219519373121993326 := 0
def PySem.W.Fast.tw3397759760091665027 := 0
def PySem.W.Fast.tw13278469431057270910 := 0
def PySem.W.Fast.tw10991086029751771345 := 0
def PySem.W.Fast.tw13978474581945584106 := 0
def PySem.W.Fast.tw2986687996664957744 := 0
def PySem.W.Fast.tw6151821036155037198 := 0
def PySem.W.Fast.tw14942255767461455110 := 0
def PySem.W.Fast.tw5226683998413088654 := 0
def PySem.W.Fast.tw10273234144524814565 := 0
def PySem.W.Fast.tw8961352914560157719 := 0
def PySem.W.Fast.tw7973851793606553581 := 0
def PySem.W.Fast.tw17100065499839982180 := 0
def PySem.W.Fast.tw407771934319764303 := 0
def PySem.W.Fast.tw5169288306333221594 := 0
def PySem.W.Fast.tw16657400722208689858 := 0
def PySem.W.Fast.tw1717007281057710628 := 0
def PySem.W.Fast.tw8813964423794089115 := 0
def PySem.W.Fast.tw8724760802415264488 := 0
def PySem.W.Fast.tw14862486820130624387 := 0
def PySem.W.Fast.tw9325368021084813168 := 0
def PySem.W.Fast.tw12868068231602365730 := 0
def PySem.W.Fast.tw14340797170845401591 := 0
def PySem.W.Fast.tw5539502769038036263 := 0
def PySem.W.Fast.tw8752641075882335612 := 0
def PySem.W.Fast.tw7387775103793419097 := 0
def PySem.W.Fast.tw10528033990685705247 := 0
def PySem.W.Fast.tw1413988882977228059 := 0
def PySem.W.Fast.tw17067389994456194680 := 0
def PySem.W.Fast.tw13900531600678291923 := 0
def PySem.W.Fast.tw6886290832803505802 := 0
def PySem.W.Fast.tw12389545830256629277 := 0
def PySem.W.Fast.tw4722378990250486822 := 0
def PySem.W.Fast.tw1607963167235281937 := 0
def PySem.W.Fast.tw15612594275643551494 := 0
def PySem.W.Fast.tw6398863431761290174 := 0
def PySem.W.Fast.tw1940886603345553486 := 0
def PySem.W.Fast.tw13925406117603286269 := 0
def PySem.W.Fast.tw15298779836230999959 := 0
def PySem.W.Fast.tw16391038405005882593 := 0
def PySem.W.Fast.tw7456058719444165154 := 0
def PySem.W.Fast.tw1236084309385604228 := 0
def PySem.W.Fast.tw9540356002657241393 := 0
def PySem.W.Fast.tw9874587687948796204 := 0
def PySem.W.Fast.tw7716412541945815445 := 0
def PySem.W.Fast.tw2101279609319172022 := 0
def PySem.W.Fast.tw1234068673525720650 := 0
def PySem.W.Fast.tw14069419693241829271 := 0
def PySem.W.Fast.tw5399492324398994979 := 0
def PySem.W.Fast.tw302918903747487836 := 0
def PySem.W.Fast.tw13054142715251399577 := 0
def PySem.W.Fast.tw17972668956203298523 := 0
def PySem.W.Fast.tw12728103636809095858 := 0
def PySem.W.Fast.tw7645734910102065588 := 0
def PySem.W.Fast.tw15272857930543161561 := 0
def PySem.W.Fast.tw12487659944653809684 := 0
def PySem.W.Fast.tw12383543924712977241 := 0
def PySem.W.Fast.tw256021841154778954 := 0
def PySem.W.Fast.tw3404213699070214761 := 0
def PySem.W.Fast.tw11375289774279092562 := 0
def PySem.W.Fast.tw13493338658450315985 := 0
def PySem.W.Fast.tw17069405838736462527 := 0
def PySem.W.Fast.tw17600342556435171614 := 0
def PySem.W.Fast.tw1128850243835520175 := 0
def PySem.W.Fast.tw12509462354307438788 := 0
def PySem.W.Fast.tw6456813464634312019 := 0
def PySem.W.Fast.tw3255930294169959232 := 0
def PySem.W.Fast.tw17533041765000926077 := 0
def PySem.W.Fast.tw3628625847022325452 := 0
def PySem.W.Fast.tw6886399924312646686 := 0
def PySem.W.Fast.tw5316696071689998465 := 0
def PySem.W.Fast.tw13100626237133814789 := 0
def PySem.W.Fast.tw4737796864165140590 := 0
def PySem.W.Fast.tw14252057197221790585 := 0
def PySem.W.Fast.tw4793932927891267243 := 0
def PySem.W.Fast.tw2653851057547337489 := 0
def PySem.W.Fast.tw7161390374720251574 := 0
def PySem.W.Fast.tw17424003684734306730 := 0
def PySem.W.Fast.tw18231271333536552561 := 0
def PySem.W.Fast.tw6535066019596109730 := 0
def PySem.W.Fast.tw13495291047082137316 := 0
def PySem.W.Fast.tw11997697373171164246 := 0
def PySem.W.Fast.tw14738805954929554189 := 0
def PySem.W.Fast.tw14980345044631836091 := 0
def PySem.W.Fast.tw1090559093343523067 := 0
def PySem.W.Fast.tw14204988245187121773 := 0
def PySem.W.Fast.tw17219034858262166410 := 0
def PySem.W.Fast.tw12131111485427146763 := 0
def PySem.W.Fast.tw6492998459422467839 := 0
def PySem.W.Fast.tw12111932629223344720 := 0
def PySem.W.Fast.tw1674130602884574258 := 0
def PySem.W.Fast.tw12200090889297057696 := 0
def PySem.W.Fast.tw16069664915823622290 := 0
def PySem.W.Fast.tw13853854292692511009 := 0
def PySem.W.Fast.tw8067599124965653402 := 0
def PySem.W.Fast.tw9340250075507290421 := 0
def PySem.W.Fast.tw8726866243864545170 := 0
def PySem.W.Fast.tw12933863126138221118 := 0
def PySem.W.Fast.tw6301183247134080951 := 0
def PySem.W.Fast.tw17979604883557786390 := 0
def PySem.W.Fast.tw8864401113320716189 := 0
def PySem.W.Fast.tw3883995242954938909 := 0
def PySem.W.Fast.tw12091370478961375934 := 0
def PySem.W.Fast.tw9102485906719525017 := 0
def PySem.W.Fast.tw7574379547972163388 := 0
def PySem.W.Fast.tw2519545931749210582 := 0
def PySem.W.Fast.tw1999065457541695286 := 0
def PySem.W.Fast.tw17795520016811876821 := 0
def PySem.W.Fast.tw13160672534465028375 := 0
def PySem.W.Fast.tw10151584271100525326 := 0
def PySem.W.Fast.tw17759524565133803482 := 0
def PySem.W.Fast.tw6800109459771456475 := 0
def PySem.W.Fast.tw5362787824528560483 := 0
def PySem.W.Fast.tw18009332173743355916 := 0
def PySem.W.Fast.tw7274133788635545716 := 0
def PySem.W.Fast.tw9021889318290086547 := 0
def PySem.W.Fast.tw15224812801919526438 := 0
def PySem.W.Fast.tw3963319128822346885 := 0
def PySem.W.Fast.tw1810982546731483416 := 0
def PySem.W.Fast.tw6926033955150451519 := 0
def PySem.W.Fast.tw8257264616584907651 := 0
def PySem.W.Fast.tw14742365421459051123 := 0
def PySem.W.Fast.tw3834832588966978461 := 0
def PySem.W.Fast.tw7645920097609155725 := 0
def PySem.W.Fast.tw7214449544389822966 := 0
def PySem.W.Fast.tw17933433502501115057 := 0
def PySem.W.Fast.tw18067903497346279921 := 0
def PySem.W.Fast.tw4340961754894438237 := 0
def PySem.W.Fast.tw7943049001270079052 := 0
def PySem.W.Fast.tw5682217353838081072 := 0
def PySem.W.Fast.tw17143971911656712250 := 0
def PySem.W.Fast.tw17801329651775885975 := 0
def PySem.W.Fast.tw16051612411694757365 := 0
def PySem.W.Fast.tw10556853821274369623 := 0
def PySem.W.Fast.tw17631112794020145435 := 0
def PySem.W.Fast.tw2612619183244453914 := 0
def PySem.W.Fast.tw5955341583780659685 := 0
def PySem.W.Fast.tw5634008457520169276 := 0
def PySem.W.Fast.tw985987129629867408 := 0
def PySem.W.Fast.tw10555972825462745001 := 0
def PySem.W.Fast.tw9802683461718763513 := 0
def PySem.W.Fast.tw11979339322308125019 := 0
def PySem.W.Fast.tw7418766506750504912 := 0
def PySem.W.Fast.tw12136012017038237612 := 0
def PySem.W.Fast.tw16672334058088948739 := 0
def PySem.W.Fast.tw5249480112123150080 := 0
def PySem.W.Fast.tw2592253126277647869 := 0
def PySem.W.Fast.tw6887779549342392266 := 0
def PySem.W.Fast.tw14450943599072333148 := 0
def PySem.W.Fast.tw10643258393791087970 := 0
def PySem.W.Fast.tw5572841172262837633 := 0
def PySem.W.Fast.tw7737716598028115625 := 0
def PySem.W.Fast.tw17658165966650460092 := 0
def PySem.W.Fast.tw17384302326643089615 := 0
def PySem.W.Fast.tw17621566194450391840 := 0
def PySem.W.Fast.tw9762640594235990699 := 0
def PySem.W.Fast.tw3291190986792008966 := 0
def PySem.W.Fast.tw17805578875043313962 := 0
def PySem.W.Fast.tw5223615287871462795 := 0
def PySem.W.Fast.tw18209918470151107160 := 0
def PySem.W.Fast.tw6658283187044677073 := 0
def PySem.W.Fast.tw17086056535765941744 := 0
def PySem.W.Fast.tw1603962299359080171 := 0
def PySem.W.Fast.tw2695696453318826379 := 0
def PySem.W.Fast.tw14660996950264587105 := 0
def PySem.W.Fast.tw11084630971276323263 := 0
def PySem.W.Fast.tw17237505658561634361 := 0
def PySem.W.Fast.tw11250215539658296592 := 0
def PySem.W.Fast.tw13710688648268152790 := 0
def PySem.W.Fast.tw11229298586901578459 := 0
def PySem.W.Fast.tw6061065691708191591 := 0
def PySem.W.Fast.tw15083729569779425883 := 0
def PySem.W.Fast.tw12949309521183086981 := 0
def PySem.W.Fast.tw8551978557210053731 := 0
def PySem.W.Fast.tw4374960852005951227 := 0
def PySem.W.Fast.tw15487589532568149423 := 0
def PySem.W.Fast.tw11189408674894118429 := 0
def PySem.W.Fast.tw6162761625689026861 := 0
def PySem.W.Fast.tw4632764983809311447 := 0
def PySem.W.Fast.tw13431069689691920943 := 0
def PySem.W.Fast.tw8350694818135431721 := 0
def PySem.W.Fast.tw9715232065704079804 := 0
def PySem.W.Fast.tw10194718917037483321 := 0
def PySem.W.Fast.tw16949461236517096486 := 0
def PySem.W.Fast.tw1613696064382341360 := 0
def PySem.W.Fast.tw9413509013172831521 := 0
def PySem.W.Fast.tw18109324525388848856 := 0
def PySem.W.Fast.tw15717919479264880740 := 0
def PySem.W.Fast.tw2572846320187474834 := 0
def PySem.W.Fast.tw9189990000934520166 := 0
def PySem.W.Fast.tw16243063120553694502 := 0
def PySem.W.Fast.tw15391144676925530737 := 0
def PySem.W.Fast.tw4758416109378464713 := 0
def PySem.W.Fast.tw8804728140435811289 := 0
def PySem.W.Fast.tw9865544178910223894 := 0
def PySem.W.Fast.tw11718491395765557351 := 0
def PySem.W.Fast.tw734172669211861664 := 0
def PySem.W.Fast.tw2762282071524145926 := 0
def PySem.W.Fast.tw12781665689801209046 := 0
def PySem.W.Fast.tw14349933085521977703 := 0
def PySem.W.Fast.tw5127569803801117735 := 0
def PySem.W.Fast.tw14023313777566048554 := 0
def PySem.W.Fast.tw745006373045596800 := 0
def PySem.W.Fast.tw13527043292451992646 := 0
def PySem.W.Fast.tw2219131651729230162 := 0
def PySem.W.Fast.tw10926926090959977699 := 0
def PySem.W.Fast.tw15186221639452097511 := 0
def PySem.W.Fast.tw15369438423242026043 := 0
def PySem.W.Fast.tw4142689273500920096 := 0
def PySem.W.Fast.tw9065977899333072598 := 0
def PySem.W.Fast.tw15122359771975586824 := 0
def PySem.W.Fast.tw4032621526684012501 := 0
def PySem.W.Fast.tw15745221606795192034 := 0
def PySem.W.Fast.tw17440434714331234922 := 0
def PySem.W.Fast.tw11449784503550291630 := 0
def PySem.W.Fast.tw13514399482576610361 := 0
def PySem.W.Fast.tw8892126454018219390 := 0
def PySem.W.Fast.tw8070734580329170065 := 0
def PySem.W.Fast.tw5724418694445311716 := 0
def PySem.W.Fast.tw9118341326906471972 := 0
def PySem.W.Fast.tw3857276499035908995 := 0
def PySem.W.Fast.tw1368200121173760228 := 0
def PySem.W.Fast.tw11081796334545258848 := 0
def PySem.W.Fast.tw1587151195094832742 := 0
def PySem.W.Fast.tw7170467280847549990 := 0
def PySem.W.Fast.tw4580897314146616241 := 0
def PySem.W.Fast.tw2511950653106953121 := 0
def PySem.W.Fast.tw6596492522699790585 := 0
def PySem.W.Fast.tw13004799105543972345 := 0
def PySem.W.Fast.tw2985588987351981046 := 0
def PySem.W.Fast.tw13030377209526783364 := 0
def PySem.W.Fast.tw356388539641900462 := 0
def PySem.W.Fast.tw8728097311756532412 := 0
def PySem.W.Fast.tw7266927241512466873 := 0
def PySem.W.Fast.tw12091935440172504401 := 0
def PySem.W.Fast.tw2660697852821202262 := 0
def PySem.W.Fast.tw18395896789916169334 := 0
def PySem.W.Fast.tw5312745406094394908 := 0
def PySem.W.Fast.tw14938854860643264945 := 0
def PySem.W.Fast.tw8441981748728342915 := 0
def PySem.W.Fast.tw15903083281865780711 := 0
def PySem.W.Fast.tw6460554087409278365 := 0
def PySem.W.Fast.tw13501099269802845779 := 0
def PySem.W.Fast.tw17902734018362567314 := 0
def PySem.W.Fast.tw11708520523353467198 := 0
def PySem.W.Fast.tw16414408700062062188 := 0
def PySem.W.Fast.tw15761237156445794079 := 0
def PySem.W.Fast.tw4294527318736211938 := 0
def PySem.W.Fast.tw9024145747432025803 := 0
def PySem.W.Fast.tw9322893504618901861 := 0
def PySem.W.Fast.tw14065511160955204977 := 0
def PySem.W.Fast.tw7800970385664903824 := 0
def PySem.W.Fast.tw2794227083179472553 := 0
def PySem.W.Fast.tw16042379095666349161 := 0
def PySem.W.Fast.tw4949638682289689354 := 0
def PySem.W.Fast.tw4587535409523328721 := 0
def PySem.W.Fast.tw11249917971089511728 := 0
def PySem.W.Fast.tw14962678402128359483 := 0
def PySem.W.Fast.tw18083895870458755752 := 0
def PySem.W.Fast.tw13461773457706652747 := 0
def PySem.W.Fast.tw7119572234109303472 := 0
def PySem.W.Fast.tw13471128043634625791 := 0
def PySem.W.Fast.tw5177587367019505784 := 0
def PySem.W.Fast.tw1078651974662711706 := 0
def PySem.W.Fast.tw10055788124520515959 := 0
def PySem.W.Fast.tw639754083408440932 := 0
def PySem.W.Fast.tw5973917479761572267 := 0
def PySem.W.Fast.tw10811197881013635874 := 0
def PySem.W.Fast.tw10886803363348908797 := 0
def PySem.W.Fast.tw6870372198940676013 := 0
def PySem.W.Fast.tw17858256543293953082 := 0
def PySem.W.Fast.tw14702753012964943337 := 0
def PySem.W.Fast.tw8008179226218021639 := 0
def PySem.W.Fast.tw214141475452852365 := 0
def PySem.W.Fast.tw14136532337143467761 := 0
def PySem.W.Fast.tw17467867961939758953 := 0
def PySem.W.Fast.tw15906109265065450241 := 0
def PySem.W.Fast.tw8228914275231007235 := 0
def PySem.W.Fast.tw17047034547280509882 := 0
def PySem.W.Fast.tw12519056597827802709 := 0
def PySem.W.Fast.tw17796916216973623437 := 0
def PySem.W.Fast.tw4575663994642984992 := 0
def PySem.W.Fast.tw10904695038293561958 := 0
def PySem.W.Fast.tw6267238955969746985 := 0
def PySem.W.Fast.tw13036630790288615777 := 0
def PySem.W.Fast.tw217515737076717580 := 0
def PySem.W.Fast.tw4956963558270110228 := 0
def PySem.W.Fast.tw8105372343060266758 := 0
def PySem.W.Fast.tw2148364866898578385 := 0
def PySem.W.Fast.tw17614671364227707479 := 0
def PySem.W.Fast.tw6347155185869683002 := 0
def PySem.W.Fast.tw15399853236121294953 := 0
def PySem.W.Fast.tw10920420424077299821 := 0
def PySem.W.Fast.tw11508096925845484504 := 0
def PySem.W.Fast.tw4454531796762091272 := 0
def PySem.W.Fast.tw17209740653186650836 := 0
def PySem.W.Fast.tw10631521546681862146 := 0
def PySem.W.Fast.tw10301079884280418668 := 0
def PySem.W.Fast.tw299277600658745833 := 0
def PySem.W.Fast.tw12256416240793819118 := 0
def PySem.W.Fast.tw16191520671721741761 := 0
def PySem.W.Fast.tw18303190068821602240 := 0
def PySem.W.Fast.tw8525054405321790308 := 0
def PySem.W.Fast.tw2818514402727900165 := 0
def PySem.W.Fast.tw10697401273018884476 := 0
def PySem.W.Fast.tw1132668708064168753 := 0
def PySem.W.Fast.tw402195052058886147 := 0
def PySem.W.Fast.tw1978029846672608323 := 0
def PySem.W.Fast.tw12288146751643105888 := 0
def PySem.W.Fast.tw8096076624785846605 := 0
def PySem.W.Fast.tw14230469753867500154 := 0
def PySem.W.Fast.tw13240227603022490002 := 0
def PySem.W.Fast.tw11307670850123091590 := 0
def PySem.W.Fast.tw13909607539771397548 := 0
def PySem.W.Fast.tw10498520898321357738 := 0
def PySem.W.Fast.tw12437973260472459673 := 0
def PySem.W.Fast.tw338632349373226504 := 0
def PySem.W.Fast.tw5026309160303169031 := 0
def PySem.W.Fast.tw11181668276972020426 := 0
def PySem.W.Fast.tw17830915805290043255 := 0
def PySem.W.Fast.tw15487571225626437149 := 0
def PySem.W.Fast.tw10716766680664805751 := 0
def PySem.W.Fast.tw910497197221647542 := 0
def PySem.W.Fast.tw8392260325042681254 := 0
def PySem.W.Fast.tw6521016012468393921 := 0
def PySem.W.Fast.tw2078392637349856558 := 0
def PySem.W.Fast.tw1466138794342892560 := 0
def PySem.W.Fast.tw3607226052170890929 := 0
def PySem.W.Fast.tw7181398988167136472 := 0
def PySem.W.Fast.tw2886458688677600956 := 0
def PySem.W.Fast.tw2360149429822207798 := 0
def PySem.W.Fast.tw6715290076464583036 := 0
def PySem.W.Fast.tw3296032103962751299 := 0
def PySem.W.Fast.tw4542518406680701537 := 0
def PySem.W.Fast.tw18010132203326194416 := 0
def PySem.W.Fast.tw15612787302934795381 := 0
def PySem.W.Fast.tw986365368815565754 := 0
def PySem.W.Fast.tw12032218358173456971 := 0
def PySem.W.Fast.tw4058888024713266555 := 0
def PySem.W.Fast.tw18361327588947783345 := 0
def PySem.W.Fast.tw14369861316940735461 := 0
def PySem.W.Fast.tw13848451789657367369 := 0
def PySem.W.Fast.tw8576294587144460390 := 0
def PySem.W.Fast.tw10453809129018377104 := 0
def PySem.W.Fast.tw8040142846697988457 := 0
def PySem.W.Fast.tw2236771274094624383 := 0
def PySem.W.Fast.tw5737253697612189001 := 0
def PySem.W.Fast.tw18257071647989116192 := 0
def PySem.W.Fast.tw5155947257008486577 := 0
def PySem.W.Fast.tw5674308880922617893 := 0
def PySem.W.Fast.tw8174312094384824259 := 0
def PySem.W.Fast.tw10363013610353672403 := 0
def PySem.W.Fast.tw9317313641456580882 := 0
def PySem.W.Fast.tw11979400614204800976 := 0
def PySem.W.Fast.tw12469740902539423857 := 0
def PySem.W.Fast.tw15886159812477152911 := 0
def PySem.W.Fast.tw11935849814848727242 := 0
def PySem.W.Fast.tw11397337347935139042 := 0
def PySem.W.Fast.tw6615738252329042506 := 0
def PySem.W.Fast.tw6981517677826543172 := 0
def PySem.W.Fast.tw1192594570852476955 := 0
def PySem.W.Fast.tw6717811992734016414 := 0
def PySem.W.Fast.tw3834407581972218724 := 0
def PySem.W.Fast.tw4307351663877644927 := 0
def PySem.W.Fast.tw1728266779803796909 := 0
def PySem.W.Fast.tw7536394818598653788 := 0
def PySem.W.Fast.tw5905517912457449635 := 0
def PySem.W.Fast.tw17204725486254926188 := 0
def PySem.W.Fast.tw12135305874747901762 := 0
def PySem.W.Fast.tw5687085766697287033 := 0
def PySem.W.Fast.tw7070763050322145516 := 0
def PySem.W.Fast.tw5169462502165101064 := 0
def PySem.W.Fast.tw5560297143904970437 := 0
def PySem.W.Fast.tw7701230655880635222 := 0
def PySem.W.Fast.tw9427531703870834210 := 0
def PySem.W.Fast.tw375115047804708119 := 0
def PySem.W.Fast.tw4010827103769189159 := 0
def PySem.W.Fast.tw10572374681023399464 := 0
def PySem.W.Fast.tw17781277158726259730 := 0
def PySem.W.Fast.tw17283597597134692687 := 0
def PySem.W.Fast.tw2851330827878732212 := 0
def PySem.W.Fast.tw5263004270993376390 := 0
def PySem.W.Fast.tw8017506834807688110 := 0
def PySem.W.Fast.tw16003980246125023273 := 0
def PySem.W.Fast.tw2770523354344643882 := 0
def PySem.W.Fast.tw15704746556594025848 := 0
def PySem.W.Fast.tw8560252602057263454 := 0
def PySem.W.Fast.tw10846343842638489143 := 0
def PySem.W.Fast.tw5390623838112525832 := 0
def PySem.W.Fast.tw2541354077234801735 := 0
def PySem.W.Fast.tw17006874739214207051 := 0
def PySem.W.Fast.tw10405067388406635407 := 0
def PySem.W.Fast.tw8033219518574286308 := 0
def PySem.W.Fast.tw10253844535244336991 := 0
def PySem.W.Fast.tw10787236971223601054 := 0
def PySem.W.Fast.tw9257785045404910390 := 0
def PySem.W.Fast.tw5470639467602428837 := 0
def PySem.W.Fast.tw3282805638041219336 := 0
def PySem.W.Fast.tw6045498168941568644 := 0
def PySem.W.Fast.tw9346446579602284560 := 0
def PySem.W.Fast.tw10920497927081016990 := 0
def PySem.W.Fast.tw3822242671583143308 := 0
def PySem.W.Fast.tw13253418222412115820 := 0
def PySem.W.Fast.tw13774073247560550577 := 0
def PySem.W.Fast.tw17478134187460655845 := 0
def PySem.W.Fast.tw13470430894681342148 := 0
def PySem.W.Fast.tw7346592721226822026 := 0
def PySem.W.Fast.tw10899947584294369653 := 0
def PySem.W.Fast.tw15878249341720116380 := 0
def PySem.W.Fast.tw984446358803930998 := 0
def PySem.W.Fast.tw8620374463885727087 := 0
def PySem.W.Fast.tw11055171253409980952 := 0
def PySem.W.Fast.tw6218483688839698654 := 0
def PySem.W.Fast.tw4052109005490276426 := 0
def PySem.W.Fast.tw12376089677172612319 := 0
def PySem.W.Fast.tw2290700446672230246 := 0
def PySem.W.Fast.tw11142757666969654145 := 0
def PySem.W.Fast.tw10906461454070678880 := 0
def PySem.W.Fast.tw2094555300877020637 := 0
def PySem.W.Fast.tw10659319112867571497 := 0
def PySem.W.Fast.tw5032035796078092394 := 0
def PySem.W.Fast.tw5880951785053464717 := 0
def PySem.W.Fast.tw14947065121005362881 := 0
def PySem.W.Fast.tw6639489713793156157 := 0
def PySem.W.Fast.tw18264826936208003508 := 0
def PySem.W.Fast.tw6434243106030860310 := 0
def PySem.W.Fast.tw4836240801700077539 := 0
def PySem.W.Fast.tw6773850862885684119 := 0
def PySem.W.Fast.tw4417512259399644884 := 0
def PySem.W.Fast.tw3433957905238627269 := 0
def PySem.W.Fast.tw16997834322869381943 := 0
def PySem.W.Fast.tw9219769941859453712 := 0
def PySem.W.Fast.tw5987104906862540895 := 0
def PySem.W.Fast.tw8821964081686504595 := 0
def PySem.W.Fast.tw7459759445913898685 := 0
def PySem.W.Fast.tw15636390133173624180 := 0
def PySem.W.Fast.tw4000632697649453339 := 0
def PySem.W.Fast.tw4174200488314563559 := 0
def PySem.W.Fast.tw12592762501855041258 := 0
def PySem.W.Fast.tw2002679936189306449 := 0
def PySem.W.Fast.tw3787726914094347585 := 0
def PySem.W.Fast.tw6913469267035812392 := 0
def PySem.W.Fast.tw6386388574760144041 := 0
def PySem.W.Fast.tw14458099547808526827 := 0
def PySem.W.Fast.tw10147287943496722658 := 0
def PySem.W.Fast.tw8899418189111321476 := 0
def PySem.W.Fast.tw12395414999385650179 := 0
def PySem.W.Fast.tw15580453555440499148 := 0
def PySem.W.Fast.tw2533939290537617913 := 0
def PySem.W.Fast.tw4201092639399656032 := 0
def PySem.W.Fast.tw4746940422143058304 := 0
def PySem.W.Fast.tw11241006521516352186 := 0
def PySem.W.Fast.tw3984094151444488992 := 0
def PySem.W.Fast.tw17561126262138299124 := 0
def PySem.W.Fast.tw11367076488573819814 := 0
def PySem.W.Fast.tw13151843685836631588 := 0
def PySem.W.Fast.tw8376615874209995143 := 0
def PySem.W.Fast.tw15247368583528902405 := 0
def PySem.W.Fast.tw339672896534781489 := 0
def PySem.W.Fast.tw5266393751089681663 := 0
def PySem.W.Fast.tw3985682424340861784 := 0
def PySem.W.Fast.tw7545263208954224971 := 0
def PySem.W.Fast.tw9367320591808548646 := 0
def PySem.W.Fast.tw12179240233015453257 := 0
def PySem.W.Fast.tw8123511284831472158 := 0
def PySem.W.Fast.tw13617033917614697121 := 0
def PySem.W.Fast.tw12989309087762429037 := 0
def PySem.W.Fast.tw9915416171562393945 := 0
def PySem.W.Fast.tw16778635675812169808 := 0
def PySem.W.Fast.tw2693094121000097066 := 0
def PySem.W.Fast.tw6240935376652448004 := 0
def PySem.W.Fast.tw12421137715677808885 := 0
def PySem.W.Fast.tw5609546757204105639 := 0
def PySem.W.Fast.tw169713244954147741 := 0
def PySem.W.Fast.tw2316312395225376591 := 0
def PySem.W.Fast.tw505555575437525172 := 0
def PySem.W.Fast.tw5155852935781027354 := 0
def PySem.W.Fast.tw16435235141763748964 := 0
def PySem.W.Fast.tw10569566347257854788 := 0
def PySem.W.Fast.tw12578336115794588627 := 0
def PySem.W.Fast.tw8361242811904609360 := 0
def PySem.W.Fast.tw9037220953192687907 := 0
def PySem.W.Fast.tw12111673363977193298 := 0
def PySem.W.Fast.tw760157351677122593 := 0
def PySem.W.Fast.tw14430744044894927673 := 0
def PySem.W.Fast.tw7650313575301556957 := 0
def PySem.W.Fast.tw6293147070593865359 := 0
def PySem.W.Fast.tw17186654149899533923 := 0
def PySem.W.Fast.tw15192576254930810971 := 0
def PySem.W.Fast.tw9277635155526668768 := 0
def PySem.W.Fast.tw8266973173254757581 := 0
def PySem.W.Fast.tw16351302119828293437 := 0
def PySem.W.Fast.tw17260581102691171119 := 0
def PySem.W.Fast.tw9313880874552834847 := 0
def PySem.W.Fast.tw17074270931985185535 := 0
def PySem.W.Fast.tw18083812107510549034 := 0
def PySem.W.Fast.tw13287761054533390844 := 0
def PySem.W.Fast.tw5990069605379782335 := 0
def PySem.W.Fast.tw16900556005716056315 := 0
def PySem.W.Fast.tw12543556341528892580 := 0
def PySem.W.Fast.tw16476971129236838376 := 0
def PySem.W.Fast.tw16510684433306725045 := 0
def PySem.W.Fast.tw16384255565283826824 := 0
def PySem.W.Fast.tw8557742439311721122 := 0
def PySem.W.Fast.tw8358755497964740827 := 0
def PySem.W.Fast.tw5308425875014339774 := 0
def PySem.W.Fast.tw15132106720808945133 := 0
def PySem.W.Fast.tw16477022956612544988 := 0
def PySem.W.Fast.tw4058047909744049391 := 0
def PySem.W.Fast.tw18307241605522404748 := 0
def PySem.W.Fast.tw7646914812556117012 := 0
def PySem.W.Fast.tw9849916384365921353 := 0
def PySem.W.Fast.tw8706183796395762883 := 0
def PySem.W.Fast.tw9662796645398273674 := 0
def PySem.W.Fast.tw7551107926710717689 := 0
def PySem.W.Fast.tw9095000892433263085 := 0
def PySem.W.Fast.tw7896976548973205850 := 0
def PySem.W.Fast.tw9613926630602810503 := 0
def PySem.W.Fast.tw8915255628872757523 := 0
def PySem.W.Fast.tw18342270609654165691 := 0
def PySem.W.Fast.tw16521841716802698556 := 0
def PySem.W.Fast.tw6551170050583697418 := 0
def PySem.W.Fast.tw17750197911605941809 := 0
def PySem.W.Fast.tw2859812052801102216 := 0
def PySem.W.Fast.tw16630977901276840766 := 0
def PySem.W.Fast.tw15408777238609509085 := 0
def PySem.W.Fast.tw6440953404076434550 := 0
def PySem.W.Fast.tw7214870201750572350 := 0
def PySem.W.Fast.tw2489726862176841182 := 0
def PySem.W.Fast.tw332018509302330087 := 0
def PySem.W.Fast.tw3433954793608911371 := 0
def PySem.W.Fast.tw5608411109613874469 := 0
def PySem.W.Fast.tw4235290463893738722 := 0
def PySem.W.Fast.tw17759086780525858421 := 0
def PySem.W.Fast.tw10878749148727484663 := 0
def PySem.W.Fast.tw11477416805053127296 := 0
def PySem.W.Fast.tw13623019793519497460 := 0
def PySem.W.Fast.tw13012045740150180719 := 0
def PySem.W.Fast.tw636955456258415952 := 0
def PySem.W.Fast.tw13146384769532514263 := 0
def PySem.W.Fast.tw13396244766662563350 := 0
def PySem.W.Fast.tw14450019805987770184 := 0
def PySem.W.Fast.tw3026306785414516701 := 0
def PySem.W.Fast.tw1951080258925843199 := 0
def PySem.W.Fast.tw3293098173823432778 := 0
def PySem.W.Fast.tw2075595131902207198 := 0
def PySem.W.Fast.tw9677455208736401239 := 0
def PySem.W.Fast.tw5733671673599969260 := 0
def PySem.W.Fast.tw16958317139146933910 := 0
def PySem.W.Fast.tw2759273661996204968 := 0
def PySem.W.Fast.tw953043530537920664 := 0
def PySem.W.Fast.tw16622477720258943091 := 0
def PySem.W.Fast.tw9483711299531915050 := 0
def PySem.W.Fast.tw13747420940972867746 := 0
def PySem.W.Fast.tw12303779720461009019 := 0
def PySem.W.Fast.tw10717326794668177715 := 0
def PySem.W.Fast.tw11630730749775895350 := 0
def PySem.W.Fast.tw1579150048543333657 := 0
def PySem.W.Fast.tw1905418411697497299 := 0
def PySem.W.Fast.tw13642585518638114533 := 0
def PySem.W.Fast.tw11545509664019641073 := 0
def PySem.W.Fast.tw10343956313657937864 := 0
def PySem.W.Fast.tw11557678121411547076 := 0
def PySem.W.Fast.tw16880175523901861993 := 0
def PySem.W.Fast.tw358883322580435841 := 0
def PySem.W.Fast.tw128639949351527632 := 0
def PySem.W.Fast.tw17473023589479516918 := 0
def PySem.W.Fast.tw6027962929436270062 := 0
def PySem.W.Fast.tw6030198798369153339 := 0
def PySem.W.Fast.tw17326188584972355881 := 0
def PySem.W.Fast.tw191576443344045876 := 0
def PySem.W.Fast.tw18250332206536462116 := 0
def PySem.W.Fast.tw5937050716764954439 := 0
def PySem.W.Fast.tw5119039889916788319 := 0
def PySem.W.Fast.tw15111680962990117541 := 0
def PySem.W.Fast.tw1960575477923325888 := 0
def PySem.W.Fast.tw8519848312986503194 := 0
def PySem.W.Fast.tw8079558723251226048 := 0
def PySem.W.Fast.tw8509307472061768230 := 0
def PySem.W.Fast.tw14046891367141296174 := 0
def PySem.W.Fast.tw5364869399303163710 := 0
def PySem.W.Fast.tw7493468380123456967 := 0
def PySem.W.Fast.tw4781815410123181594 := 0
def PySem.W.Fast.tw14549948681839400188 := 0
def PySem.W.Fast.tw11745846200866752856 := 0
def PySem.W.Fast.tw9956007523635595256 := 0
def PySem.W.Fast.tw16782251534115623320 := 0
def PySem.W.Fast.tw3794237504751071742 := 0
def PySem.W.Fast.tw3978371229424369907 := 0
def PySem.W.Fast.tw11770746050311241124 := 0
def PySem.W.Fast.tw16858262266978583026 := 0
def PySem.W.Fast.tw9099859944852762480 := 0
def PySem.W.Fast.tw1014626098191613606 := 0
def PySem.W.Fast.tw4669167888333814903 := 0
def PySem.W.Fast.tw6388333041841487087 := 0
def PySem.W.Fast.tw3847392673835108093 := 0
def PySem.W.Fast.tw16769564227805002066 := 0
def PySem.W.Fast.tw5417767842513204901 := 0
def PySem.W.Fast.tw10915224338708336561 := 0
def PySem.W.Fast.tw10467244530360159583 := 0
def PySem.W.Fast.tw17453552979284840999 := 0
def PySem.W.Fast.tw4872727663892923275 := 0
def PySem.W.Fast.tw15149795500839105288 := 0
def PySem.W.Fast.tw13342892022340875840 := 0
def PySem.W.Fast.tw15156173007065890439 := 0
def PySem.W.Fast.tw6069470249762625523 := 0
def PySem.W.Fast.tw13423411779968205288 := 0
def PySem.W.Fast.tw13158176622968513319 := 0
def PySem.W.Fast.tw9216904398785326690 := 0
def PySem.W.Fast.tw16623565612511439786 := 0
def PySem.W.Fast.tw15343670038073804858 := 0
def PySem.W.Fast.tw3908690844257168301 := 0
def PySem.W.Fast.tw7527325206848252641 := 0
def PySem.W.Fast.tw12568800080820058389 := 0
def PySem.W.Fast.tw8285895871967018945 := 0
def PySem.W.Fast.tw7734471617735266873 := 0
def PySem.W.Fast.tw15593717428272939479 := 0
def PySem.W.Fast.tw12876668869955886985 := 0
def PySem.W.Fast.tw11727899485270813845 := 0
def PySem.W.Fast.tw15965160915389667815 := 0
def PySem.W.Fast.tw8689678131147927679 := 0
def PySem.W.Fast.tw3036201352993303993 := 0
def PySem.W.Fast.tw4233585183912189307 := 0
def PySem.W.Fast.tw15012451390087863424 := 0
def PySem.W.Fast.tw17422033292735885141 := 0
def PySem.W.Fast.tw11038544958925902385 := 0
def PySem.W.Fast.tw1043435570705057950 := 0
def PySem.W.Fast.tw11978940154329854423 := 0
def PySem.W.Fast.tw12059480351174482946 := 0
def PySem.W.Fast.tw2264375445097511625 := 0
def PySem.W.Fast.tw12263565350663459249 := 0
def PySem.W.Fast.tw12512396299805755963 := 0
def PySem.W.Fast.tw7564369439832297166 := 0
def PySem.W.Fast.tw18040307740120393081 := 0
def PySem.W.Fast.tw4926100350998462444 := 0
def PySem.W.Fast.tw49159151260797046 := 0
def PySem.W.Fast.tw15031141318485376378 := 0
def PySem.W.Fast.tw16650940394262668889 := 0
def PySem.W.Fast.tw13545322755357964317 := 0
def PySem.W.Fast.tw15697592157948668817 := 0
def PySem.W.Fast.tw9239600642023390149 := 0
def PySem.W.Fast.tw13606450179199752884 := 0
def PySem.W.Fast.tw15820285900035507176 := 0
def PySem.W.Fast.tw9642057708773659092 := 0
def PySem.W.Fast.tw6609404880327855330 := 0
def PySem.W.Fast.tw5603215921537372087 := 0
def PySem.W.Fast.tw7602698234921033348 := 0
def PySem.W.Fast.tw12045730142453034329 := 0
def PySem.W.Fast.tw17410925528075637235 := 0
def PySem.W.Fast.tw9310952398301305473 := 0
def PySem.W.Fast.tw9694954268973673047 := 0
def PySem.W.Fast.tw11233956797504243333 := 0
def PySem.W.Fast.tw17600435648210427309 := 0
def PySem.W.Fast.tw7305435847183664970 := 0
def PySem.W.Fast.tw15439478867032993582 := 0
def PySem.W.Fast.tw7233255455866010732 := 0
def PySem.W.Fast.tw17233222730760192577 := 0
def PySem.W.Fast.tw8638366152717701139 := 0
def PySem.W.Fast.tw7108574666114700015 := 0
def PySem.W.Fast.tw10304428494333602337 := 0
def PySem.W.Fast.tw3339392034933811635 := 0
def PySem.W.Fast.tw5652971075364714758 := 0
def PySem.W.Fast.tw8214591855771725837 := 0
def PySem.W.Fast.tw17651196541191357220 := 0
def PySem.W.Fast.tw2902222021423149538 := 0
def PySem.W.Fast.tw2206385909938604679 := 0
def PySem.W.Fast.tw9400013137993726399 := 0
def PySem.W.Fast.tw4009258366523316691 := 0
def PySem.W.Fast.tw11870667405434369472 := 0
def PySem.W.Fast.tw5935825319504973093 := 0
def PySem.W.Fast.tw10978604949361701814 := 0
def PySem.W.Fast.tw3439239703737439218 := 0
def PySem.W.Fast.tw2937598200037995177 := 0
def PySem.W.Fast.tw9100473445920932646 := 0
def PySem.W.Fast.tw1939161789187459341 := 0
def PySem.W.Fast.tw7412540122747879620 := 0
def PySem.W.Fast.tw4808287491504524904 := 0
def PySem.W.Fast.tw10061103493554293018 := 0
def PySem.W.Fast.tw646404968032600596 := 0
def PySem.W.Fast.tw6868545631320832136 := 0
def PySem.W.Fast.tw6722527436558243176 := 0
def PySem.W.Fast.tw4844782264930349455 := 0
def PySem.W.Fast.tw2940509291632597479 := 0
def PySem.W.Fast.tw16084830307627873823 := 0
def PySem.W.Fast.tw16163260653930640229 := 0
def PySem.W.Fast.tw13106675663558490379 := 0
def PySem.W.Fast.tw15604915629913119031 := 0
def PySem.W.Fast.tw2820738247120339512 := 0
def PySem.W.Fast.tw8694654500007132042 := 0
def PySem.W.Fast.tw14187834251702372170 := 0
def PySem.W.Fast.tw8210714181442343518 := 0
def PySem.W.Fast.tw3778122320455607516 := 0
def PySem.W.Fast.tw889500123671755881 := 0
def PySem.W.Fast.tw10669234255197376064 := 0
def PySem.W.Fast.tw4514380591352688439 := 0
def PySem.W.Fast.tw2762553239830836521 := 0
def PySem.W.Fast.tw11682864016497412786 := 0
def PySem.W.Fast.tw10699352653234492711 := 0
def PySem.W.Fast.tw5747922331332754730 := 0
def PySem.W.Fast.tw16420363247892497783 := 0
def PySem.W.Fast.tw10001325139883201291 := 0
def PySem.W.Fast.tw4109845189676529129 := 0
def PySem.W.Fast.tw2215290149217204033 := 0
def PySem.W.Fast.tw14435659086986541046 := 0
def PySem.W.Fast.tw3320808666865221848 := 0
def PySem.W.Fast.tw17706222865697690091 := 0
def PySem.W.Fast.tw14460136539303034904 := 0
def PySem.W.Fast.tw9590332339591525219 := 0
def PySem.W.Fast.tw2239052835877914128 := 0
def PySem.W.Fast.tw7227950691033347695 := 0
def PySem.W.Fast.tw10404372119701028270 := 0
def PySem.W.Fast.tw12061576196909646624 := 0
def PySem.W.Fast.tw3291960883156157718 := 0
def PySem.W.Fast.tw12043534651807720020 := 0
def PySem.W.Fast.tw15231054290519626174 := 0
def PySem.W.Fast.tw2562690496504433773 := 0
def PySem.W.Fast.tw17669323840762102618 := 0
def PySem.W.Fast.tw11596954098473035572 := 0
def PySem.W.Fast.tw8336243228849534029 := 0
def PySem.W.Fast.tw15954682289159300359 := 0
def PySem.W.Fast.tw4904539637544713323 := 0
def PySem.W.Fast.tw4250614578113943825 := 0
def PySem.W.Fast.tw9990875315297801741 := 0
def PySem.W.Fast.tw3458523164627418186 := 0
def PySem.W.Fast.tw7200057140704794460 := 0
def PySem.W.Fast.tw7319814871940747696 := 0
def PySem.W.Fast.tw10168311109839283846 := 0
def PySem.W.Fast.tw3016793782728447005 := 0
def PySem.W.Fast.tw17692998248110240597 := 0
def PySem.W.Fast.tw7508900382396109966 := 0
def PySem.W.Fast.tw1290910171741305581 := 0
def PySem.W.Fast.tw6423328847874523577 := 0
def PySem.W.Fast.tw12455015658010778526 := 0
def PySem.W.Fast.tw4381362086811591942 := 0
def PySem.W.Fast.tw16547846053154852148 := 0
def PySem.W.Fast.tw8068178463956619219 := 0
def PySem.W.Fast.tw240618039110458411 := 0
def PySem.W.Fast.tw8915531993523091601 := 0
def PySem.W.Fast.tw14783334079368371989 := 0
def PySem.W.Fast.tw4685022146124283099 := 0
def PySem.W.Fast.tw280640331167544785 := 0
def PySem.W.Fast.tw8231951128743596910 := 0
def PySem.W.Fast.tw7953263468655570958 := 0
def PySem.W.Fast.tw10090607500021343436 := 0
def PySem.W.Fast.tw4696203693303645764 := 0
def PySem.W.Fast.tw17717397987786081150 := 0
def PySem.W.Fast.tw11931802998028605605 := 0
def PySem.W.Fast.tw4634331935743494338 := 0
def PySem.W.Fast.tw11512628195171922829 := 0
def PySem.W.Fast.tw345199425783119817 := 0
def PySem.W.Fast.tw2781852185642582669 := 0
def PySem.W.Fast.tw7007490283072916427 := 0
def PySem.W.Fast.tw11479350616590170287 := 0
def PySem.W.Fast.tw15652450187917735600 := 0
def PySem.W.Fast.tw3864207697170979109 := 0
def PySem.W.Fast.tw17160116233008211319 := 0
def PySem.W.Fast.tw12613843303226742079 := 0
def PySem.W.Fast.tw16214800423647463690 := 0
def PySem.W.Fast.tw12005182921972375468 := 0
def PySem.W.Fast.tw12932430113785928010 := 0
def PySem.W.Fast.tw17259528613095930214 := 0
def PySem.W.Fast.tw7342436553573569799 := 0
def PySem.W.Fast.tw3860515307660218605 := 0
def PySem.W.Fast.tw8430915664295966091 := 0
def PySem.W.Fast.tw4390208021728955869 := 0
def PySem.W.Fast.tw892670036656568158 := 0
def PySem.W.Fast.tw14888841751714040178 := 0
def PySem.W.Fast.tw12066685538388827781 := 0
def PySem.W.Fast.tw9237620939958230415 := 0
def PySem.W.Fast.tw10203708102095356506 := 0
def PySem.W.Fast.tw73594369857742285 := 0
def PySem.W.Fast.tw13888703325927335938 := 0
def PySem.W.Fast.tw5305011764592276315 := 0
def PySem.W.Fast.tw15249961317189705135 := 0
def PySem.W.Fast.tw12674237525334943600 := 0
def PySem.W.Fast.tw736266754269542490 := 0
def PySem.W.Fast.tw10358596664773332222 := 0
def PySem.W.Fast.tw17648862229375927135 := 0
def PySem.W.Fast.tw10168430649583648124 := 0
def PySem.W.Fast.tw6669252935174413820 := 0
def PySem.W.Fast.tw17835771255859836282 := 0
def PySem.W.Fast.tw6220268693815671501 := 0
def PySem.W.Fast.tw13320276001423022233 := 0
def PySem.W.Fast.tw15566425189070747344 := 0
def PySem.W.Fast.tw4890700844329560368 := 0
def PySem.W.Fast.tw17294062719306510316 := 0
def PySem.W.Fast.tw9954812601360388799 := 0
def PySem.W.Fast.tw11783715054608902051 := 0
def PySem.W.Fast.tw17815567041569203768 := 0
def PySem.W.Fast.tw16288492424068055292 := 0
def PySem.W.Fast.tw12880364112301184916 := 0
def PySem.W.Fast.tw6116373117809116277 := 0
def PySem.W.Fast.tw3520171929950253236 := 0
def PySem.W.Fast.tw13527637855286649580 := 0
def PySem.W.Fast.tw856552813439803349 := 0
def PySem.W.Fast.tw2884273465716245150 := 0
def PySem.W.Fast.tw7874781225363463043 := 0
def PySem.W.Fast.tw5041828164343474007 := 0
def PySem.W.Fast.tw3243525029242144842 := 0
def PySem.W.Fast.tw18057353655823627067 := 0
def PySem.W.Fast.tw6556069451325382170 := 0
def PySem.W.Fast.tw17541643058822310886 := 0
def PySem.W.Fast.tw13775836477878739535 := 0
def PySem.W.Fast.tw15067876579747764127 := 0
def PySem.W.Fast.tw7835838851073869842 := 0
def PySem.W.Fast.tw6269339586137571878 := 0
def PySem.W.Fast.tw3178077879839542590 := 0
def PySem.W.Fast.tw16779012760883783785 := 0
def PySem.W.Fast.tw14806256398697077030 := 0
def PySem.W.Fast.tw1557504268666996836 := 0
def PySem.W.Fast.tw9939084216345989712 := 0
def PySem.W.Fast.tw9183903123854330566 := 0
def PySem.W.Fast.tw17891792057096875626 := 0
def PySem.W.Fast.tw17857747735726773610 := 0
def PySem.W.Fast.tw16645978267673374759 := 0
def PySem.W.Fast.tw15280441829095298808 := 0
def PySem.W.Fast.tw1505852720308234592 := 0
def PySem.W.Fast.tw15821907299272972996 := 0
def PySem.W.Fast.tw5408785730274904185 := 0
def PySem.W.Fast.tw5805948692381159644 := 0
def PySem.W.Fast.tw9844107351980833647 := 0
def PySem.W.Fast.tw1527772535683567624 := 0
def PySem.W.Fast.tw3170262147963216802 := 0
def PySem.W.Fast.tw11590038385078639141 := 0
def PySem.W.Fast.tw5797898549737019358 := 0
def PySem.W.Fast.tw17766603579846632317 := 0
def PySem.W.Fast.tw6877780140184902975 := 0
def PySem.W.Fast.tw10156785362752727429 := 0
def PySem.W.Fast.tw16340356254682432700 := 0
def PySem.W.Fast.tw13708304629246114418 := 0
def PySem.W.Fast.tw6681098026172913207 := 0
def PySem.W.Fast.tw2835791499699262530 := 0
def PySem.W.Fast.tw3636789828556951806 := 0
def PySem.W.Fast.tw9380538653125064412 := 0
def PySem.W.Fast.tw4457418584954205357 := 0
def PySem.W.Fast.tw2633838513234964208 := 0
def PySem.W.Fast.tw221097427343551608 := 0
def PySem.W.Fast.tw2755051657348566957 := 0
def PySem.W.Fast.tw14177317597605602210 := 0
def PySem.W.Fast.tw16392614473179441737 := 0
def PySem.W.Fast.tw4277693183585881424 := 0
def PySem.W.Fast.tw562662513149825192 := 0
def PySem.W.Fast.tw14858422704365484774 := 0
def PySem.W.Fast.tw8620232994755588125 := 0
def PySem.W.Fast.tw5789961222641958296 := 0
def PySem.W.Fast.tw10517292215947782931 := 0
def PySem.W.Fast.tw15488491410496550507 := 0
def PySem.W.Fast.tw10908626654893819665 := 0
def PySem.W.Fast.tw13041140996888481019 := 0
def PySem.W.Fast.tw3800514632706739650 := 0
def PySem.W.Fast.tw1111614715681691845 := 0
def PySem.W.Fast.tw587120422376296086 := 0
def PySem.W.Fast.tw17321714006713565866 := 0
def PySem.W.Fast.tw7522163417037806523 := 0
def PySem.W.Fast.tw3110310191912295417 := 0
def PySem.W.Fast.tw13220762037618983827 := 0
def PySem.W.Fast.tw11744792187050424483 := 0
def PySem.W.Fast.tw17802939901174324957 := 0
def PySem.W.Fast.tw14748214523112303951 := 0
def PySem.W.Fast.tw16116227598240920995 := 0
def PySem.W.Fast.tw15114152154031894964 := 0
def PySem.W.Fast.tw14326926274913838675 := 0
def PySem.W.Fast.tw10591846987963906028 := 0
def PySem.W.Fast.tw3701703282202420421 := 0
def PySem.W.Fast.tw17402358140654274849 := 0
def PySem.W.Fast.tw8678282016080245540 := 0
def PySem.W.Fast.tw7727826043452264384 := 0
def PySem.W.Fast.tw13883048693751507566 := 0
def PySem.W.Fast.tw4346672037908259243 := 0
def PySem.W.Fast.tw14852108093579604452 := 0
def PySem.W.Fast.tw4159596924158918678 := 0
def PySem.W.Fast.tw2539329265921235066 := 0
def PySem.W.Fast.tw11652675858597246865 := 0
def PySem.W.Fast.tw2640639212541173452 := 0
def PySem.W.Fast.tw4121571753509920926 := 0
def PySem.W.Fast.tw13443366522872545368 := 0
def PySem.W.Fast.tw13037928364480648392 := 0
def PySem.W.Fast.tw7643451835959177637 := 0
def PySem.W.Fast.tw1244881130466777781 := 0
def PySem.W.Fast.tw5990898286458027065 := 0
def PySem.W.Fast.tw11634649410751497384 := 0
def PySem.W.Fast.tw14909580786560719230 := 0
def PySem.W.Fast.tw6236091481556368359 := 0
def PySem.W.Fast.tw8412680824953614295 := 0
def PySem.W.Fast.tw5629821661541170433 := 0
def PySem.W.Fast.tw3452988063462079451 := 0
def PySem.W.Fast.tw8333970701306911337 := 0
def PySem.W.Fast.tw2836912955052222583 := 0
def PySem.W.Fast.tw2573033217699991117 := 0
def PySem.W.Fast.tw12859403510354442521 := 0
def PySem.W.Fast.tw139870727459305075 := 0
def PySem.W.Fast.tw8772968578562102100 := 0
def PySem.W.Fast.tw8927402894076026568 := 0
def PySem.W.Fast.tw3466801239705539141 := 0
def PySem.W.Fast.tw362288486838582485 := 0
def PySem.W.Fast.tw15983543229672792188 := 0
def PySem.W.Fast.tw5739072402341362947 := 0
def PySem.W.Fast.tw10065005189592133602 := 0
def PySem.W.Fast.tw12025896615034245191 := 0
def PySem.W.Fast.tw6717417763332386668 := 0
def PySem.W.Fast.tw4908754445240691848 := 0
def PySem.W.Fast.tw11140781082944398140 := 0
def PySem.W.Fast.tw15619691495232254124 := 0
def PySem.W.Fast.tw12257326744705905163 := 0
def PySem.W.Fast.tw5489905867454340709 := 0
def PySem.W.Fast.tw8028575256141717695 := 0
def PySem.W.Fast.tw11179267244376827322 := 0
def PySem.W.Fast.tw13277629817011324804 := 0
def PySem.W.Fast.tw17455035435294467745 := 0
def PySem.W.Fast.tw2415505439284059396 := 0
def PySem.W.Fast.tw15242409798405800082 := 0
def PySem.W.Fast.tw11339965511982309393 := 0
def PySem.W.Fast.tw4612356528148372931 := 0
def PySem.W.Fast.tw14059225308613899711 := 0
def PySem.W.Fast.tw11404033125491399683 := 0
def PySem.W.Fast.tw11909599987803774916 := 0
def PySem.W.Fast.tw10705442161329543741 := 0
def PySem.W.Fast.tw17778065307018302272 := 0
def PySem.W.Fast.tw11465712642381540386 := 0
def PySem.W.Fast.tw4045639230132295570 := 0
def PySem.W.Fast.tw4877188286984132066 := 0
def PySem.W.Fast.tw8707429238043803917 := 0
def PySem.W.Fast.tw11821008841197740635 := 0
def PySem.W.Fast.tw308270050752104730 := 0
def PySem.W.Fast.tw12350363527523370095 := 0
def PySem.W.Fast.tw216904969775451513 := 0
def PySem.W.Fast.tw1332653420936178824 := 0
def PySem.W.Fast.tw11308708064828584706 := 0
def PySem.W.Fast.tw11091231326911899700 := 0
def PySem.W.Fast.tw10148534155072725427 := 0
def PySem.W.Fast.tw2270192224210354865 := 0
def PySem.W.Fast.tw14106991402594922363 := 0
def PySem.W.Fast.tw5537444647839024059 := 0
def PySem.W.Fast.tw18260738912331697267 := 0
def PySem.W.Fast.tw17768461626379317769 := 0
def PySem.W.Fast.tw7383719213000098950 := 0
def PySem.W.Fast.tw18173987525637480312 := 0
def PySem.W.Fast.tw13879289719905233766 := 0
def PySem.W.Fast.tw17736990428537976724 := 0
def PySem.W.Fast.tw17325466776195192702 := 0
def PySem.W.Fast.tw14580917500155864337 := 0
def PySem.W.Fast.tw8794048766756922559 := 0
def PySem.W.Fast.tw5886900382581483910 := 0
def PySem.W.Fast.tw10105357329256094717 := 0
def PySem.W.Fast.tw3923082645102099177 := 0
def PySem.W.Fast.tw10878517168600012838 := 0
def PySem.W.Fast.tw6804882860698278983 := 0
def PySem.W.Fast.tw15923200969873885153 := 0
def PySem.W.Fast.tw12317621836587935487 := 0
def PySem.W.Fast.tw6059739805212321572 := 0
def PySem.W.Fast.tw16355504612440277125 := 0
def PySem.W.Fast.tw605764021021518323 := 0
def PySem.W.Fast.tw3659779980666057474 := 0
def PySem.W.Fast.tw3121446547932970933 := 0
def PySem.W.Fast.tw10875225676166128395 := 0
def PySem.W.Fast.tw10217150314731158488 := 0
def PySem.W.Fast.tw5483650417517646216 := 0
def PySem.W.Fast.tw17177671100418769078 := 0
def PySem.W.Fast.tw14942598306780890930 := 0
def PySem.W.Fast.tw1051848798668318748 := 0
def PySem.W.Fast.tw7351584614790074975 := 0
def PySem.W.Fast.tw8146576708947520642 := 0
def PySem.W.Fast.tw16657536221741930794 := 0
def PySem.W.Fast.tw8762338013942834607 := 0
def PySem.W.Fast.tw5864827784492074048 := 0
def PySem.W.Fast.tw2833323679312736870 := 0
def PySem.W.Fast.tw14037581199129209989 := 0
def PySem.W.Fast.tw5600532860133662440 := 0
def PySem.W.Fast.tw10218065503843820609 := 0
def PySem.W.Fast.tw8652721610810304184 := 0
def PySem.W.Fast.tw2448570858566893524 := 0
def PySem.W.Fast.tw2964956031436474666 := 0
def PySem.W.Fast.tw5666777633320847310 := 0
def PySem.W.Fast.tw11072588067944361848 := 0
def PySem.W.Fast.tw12729044396731391395 := 0
def PySem.W.Fast.tw4022198737703391491 := 0
def PySem.W.Fast.tw5559873270133717869 := 0
def PySem.W.Fast.tw3272111007996101384 := 0
def PySem.W.Fast.tw14342415005968323388 := 0
def PySem.W.Fast.tw14415030458043138505 := 0
def PySem.W.Fast.tw9468402055471564716 := 0
def PySem.W.Fast.tw16249199667749230318 := 0
def PySem.W.Fast.tw1713295758771014884 := 0
def PySem.W.Fast.tw2622612737439007248 := 0
def PySem.W.Fast.tw15478923969517766136 := 0
def PySem.W.Fast.tw330068128427819865 := 0
def PySem.W.Fast.tw6916970507558153926 := 0
def PySem.W.Fast.tw8911659033404430629 := 0
def PySem.W.Fast.tw18283681324796894636 := 0
def PySem.W.Fast.tw10709662636355096294 := 0
def PySem.W.Fast.tw17740671888662585080 := 0
def PySem.W.Fast.tw17232509923433102588 := 0
def PySem.W.Fast.tw599165967953347247 := 0
def PySem.W.Fast.tw13544934116831949362 := 0
def PySem.W.Fast.tw2148241496480300767 := 0
def PySem.W.Fast.tw3803266878340951391 := 0
def PySem.W.Fast.tw7590928403568535926 := 0
def PySem.W.Fast.tw7304944529639591562 := 0
def PySem.W.Fast.tw17721172966319232872 := 0
def PySem.W.Fast.tw5458950760281346101 := 0
def PySem.W.Fast.tw8364796127790578880 := 0
def PySem.W.Fast.tw12056888153355914514 := 0
def PySem.W.Fast.tw14408095780201446062 := 0
def PySem.W.Fast.tw18315835506909871061 := 0
def PySem.W.Fast.tw13791775874102681887 := 0
def PySem.W.Fast.tw11152584416811074526 := 0
def PySem.W.Fast.tw815404316808631392 := 0
def PySem.W.Fast.tw11338886518985966110 := 0
def PySem.W.Fast.tw5134945595609999181 := 0
def PySem.W.Fast.tw5216869659770068614 := 0
def PySem.W.Fast.tw5451171006322129925 := 0
def PySem.W.Fast.tw11424179339260846144 := 0
def PySem.W.Fast.tw3531362885561440917 := 0
def PySem.W.Fast.tw5385686417716434821 := 0
def PySem.W.Fast.tw13218636440159516545 := 0
def PySem.W.Fast.tw6038274671849513309 := 0
def PySem.W.Fast.tw6157992758595690405 := 0
def PySem.W.Fast.tw5230688201303187298 := 0
def PySem.W.Fast.tw11388953723037682565 := 0
def PySem.W.Fast.tw15763286634281832753 := 0
def PySem.W.Fast.tw18235767256772150721 := 0
def PySem.W.Fast.tw9393979766826351105 := 0
def PySem.W.Fast.tw11757681348537769733 := 0
def PySem.W.Fast.tw16179160805722650450 := 0
def PySem.W.Fast.tw5853105296468563337 := 0
def PySem.W.Fast.tw2473783652800190956 := 0
def PySem.W.Fast.tw10099246710639569686 := 0
def PySem.W.Fast.tw17650835535569848313 := 0
def PySem.W.Fast.tw9123927108676306442 := 0
def PySem.W.Fast.tw11161869807544408969 := 0
def PySem.W.Fast.tw7428555088338249131 := 0
def PySem.W.Fast.tw9064963061375213892 := 0
def PySem.W.Fast.tw2416991091095446362 := 0
def PySem.W.Fast.tw16131989472184506339 := 0
def PySem.W.Fast.tw3277154339501532106 := 0
def PySem.W.Fast.tw17428055368187576586 := 0
def PySem.W.Fast.tw7093349945587523515 := 0
def PySem.W.Fast.tw15200941760226466046 := 0
def PySem.W.Fast.tw16412371748451783995 := 0
def PySem.W.Fast.tw2124776616281026098 := 0
def PySem.W.Fast.tw10106223350782369952 := 0
def PySem.W.Fast.tw14939749515504866343 := 0
def PySem.W.Fast.tw12484240872730177255 := 0
def PySem.W.Fast.tw15547199777844016504 := 0
def PySem.W.Fast.tw11919060071636012554 := 0
def PySem.W.Fast.tw9914454150811089681 := 0
def PySem.W.Fast.tw7558421297740371059 := 0
def PySem.W.Fast.tw6977821797118365434 := 0
def PySem.W.Fast.tw3408693056369531954 := 0
def PySem.W.Fast.tw10170916260296700900 := 0
def PySem.W.Fast.tw15092803564291396485 := 0
def PySem.W.Fast.tw4584441104446625674 := 0
def PySem.W.Fast.tw4713479341674134998 := 0
def PySem.W.Fast.tw15112329031410728910 := 0
def PySem.W.Fast.tw11762845776507558698 := 0
def PySem.W.Fast.tw996722155820689208 := 0
def PySem.W.Fast.tw1976428978452670337 := 0
def PySem.W.Fast.tw475893144983480201 := 0
def PySem.W.Fast.tw12216292183930721908 := 0
def PySem.W.Fast.tw11144719966821725051 := 0
def PySem.W.Fast.tw18082609197035158109 := 0
def PySem.W.Fast.tw2031380639942063884 := 0
def PySem.W.Fast.tw16461558810972013468 := 0
def PySem.W.Fast.tw10857117873444055806 := 0
def PySem.W.Fast.tw4165427231277468097 := 0
def PySem.W.Fast.tw8221448789370591670 := 0
def PySem.W.Fast.tw12154701600151049956 := 0
def PySem.W.Fast.tw13313377316911170146 := 0
def PySem.W.Fast.tw2451175181253323690 := 0
def PySem.W.Fast.tw11824135983012951488 := 0
def PySem.W.Fast.tw17684923314358702185 := 0
def PySem.W.Fast.tw6043304049694358848 := 0
def PySem.W.Fast.tw10333011039419137749 := 0
def PySem.W.Fast.tw16410964370034710681 := 0
def PySem.W.Fast.tw12810020294500790793 := 0
def PySem.W.Fast.tw952487528478456780 := 0
def PySem.W.Fast.tw15318102266709949646 := 0
def PySem.W.Fast.tw15105052433023653156 := 0
def PySem.W.Fast.tw13209602419834296651 := 0
def PySem.W.Fast.tw1862812243964777213 := 0
def PySem.W.Fast.tw7267829778854449817 := 0
def PySem.W.Fast.tw12473043082662115227 := 0
def PySem.W.Fast.tw10436975977647550427 := 0
def PySem.W.Fast.tw10561575303432586735 := 0
def PySem.W.Fast.tw238111021536909963 := 0
def PySem.W.Fast.tw17105131861237349879 := 0
def PySem.W.Fast.tw9989980673044219029 := 0
def PySem.W.Fast.tw1801589585223544414 := 0
def PySem.W.Fast.tw11101051733542963302 := 0
def PySem.W.Fast.tw1215578739428505165 := 0
def PySem.W.Fast.tw9197488621506804493 := 0
def PySem.W.Fast.tw9691831824746244457 := 0
def PySem.W.Fast.tw8080649948170246257 := 0
def PySem.W.Fast.tw4659605050300333245 := 0
def PySem.W.Fast.tw16675081155673344930 := 0
def PySem.W.Fast.tw744520521389795853 := 0
def PySem.W.Fast.tw13782746794205955312 := 0
def PySem.W.Fast.tw712764418469209344 := 0
def PySem.W.Fast.tw16921205101661559634 := 0
def PySem.W.Fast.tw7714499785784689539 := 0
def PySem.W.Fast.tw12602408058444880466 := 0
def PySem.W.Fast.tw17364016564080979944 := 0
def PySem.W.Fast.tw17290587111505371165 := 0
def PySem.W.Fast.tw10969506533312731193 := 0
def PySem.W.Fast.tw5288593665492927501 := 0
def PySem.W.Fast.tw15365219661908205383 := 0
def PySem.W.Fast.tw3251944172201228566 := 0
def PySem.W.Fast.tw1608022435013032069 := 0
def PySem.W.Fast.tw13757611788057590907 := 0
def PySem.W.Fast.tw4395102295379316774 := 0
def PySem.W.Fast.tw13059279055808138510 := 0
def PySem.W.Fast.tw7756814963585962089 := 0
def PySem.W.Fast.tw8255466168148356439 := 0
def PySem.W.Fast.tw2263815698714410280 := 0
def PySem.W.Fast.tw10870521369237096530 := 0
def PySem.W.Fast.tw13774405488756613008 := 0
def PySem.W.Fast.tw8410553089442613577 := 0
def PySem.W.Fast.tw774899872708134723 := 0
def PySem.W.Fast.tw1513314516020285276 := 0
def PySem.W.Fast.tw3962811756324182720 := 0
def PySem.W.Fast.tw4432905923358421070 := 0
def PySem.W.Fast.tw10726577671834911314 := 0
def PySem.W.Fast.tw12291747113901193639 := 0
def PySem.W.Fast.tw16239790575463103437 := 0
def PySem.W.Fast.tw13955643842179170614 := 0
def PySem.W.Fast.tw6061912789438643793 := 0
def PySem.W.Fast.tw14235449949939846200 := 0
def PySem.W.Fast.tw1822675770349722559 := 0
def PySem.W.Fast.tw7242100861654647500 := 0
def PySem.W.Fast.tw748630088676222310 := 0
def PySem.W.Fast.tw1792654742182292482 := 0
def PySem.W.Fast.tw7849110619141831623 := 0
def PySem.W.Fast.tw14702453843720541405 := 0
def PySem.W.Fast.tw4245877834320513516 := 0
def PySem.W.Fast.tw1675720237085861373 := 0
def PySem.W.Fast.tw14977067875338728964 := 0
def PySem.W.Fast.tw17100761559380118956 := 0
def PySem.W.Fast.tw15061467281460033710 := 0
def PySem.W.Fast.tw14765512432017723388 := 0
def PySem.W.Fast.tw14259569557026028535 := 0
def PySem.W.Fast.tw10627111525907128196 := 0
def PySem.W.Fast.tw5237969540352972878 := 0
def PySem.W.Fast.tw12302677027420654973 := 0
def PySem.W.Fast.tw5013035244493127207 := 0
def PySem.W.Fast.tw10701590098023473313 := 0
def PySem.W.Fast.tw13502101468755150019 := 0
def PySem.W.Fast.tw13203546243378750268 := 0
def PySem.W.Fast.tw3477375673276449692 := 0
def PySem.W.Fast.tw6945306614635577703 := 0
def PySem.W.Fast.tw10500030782466776092 := 0
def PySem.W.Fast.tw12488971959757603754 := 0
def PySem.W.Fast.tw2139317505736718521 := 0
def PySem.W.Fast.tw14234104412126734787 := 0
def PySem.W.Fast.tw7796639444420130545 := 0
def PySem.W.Fast.tw6228830102555912207 := 0
def PySem.W.Fast.tw93538122341174371 := 0
def PySem.W.Fast.tw6348687197546918259 := 0
def PySem.W.Fast.tw6758984322555356102 := 0
def PySem.W.Fast.tw10940988393479378210 := 0
def PySem.W.Fast.tw12771544916258670149 := 0
def PySem.W.Fast.tw12066998079149226191 := 0
def PySem.W.Fast.tw4197166933830211971 := 0
def PySem.W.Fast.tw6857787639961002851 := 0
def PySem.W.Fast.tw3200430408400240644 := 0
def PySem.W.Fast.tw13400116346946660415 := 0
def PySem.W.Fast.tw17462332815239391761 := 0
def PySem.W.Fast.tw12879224540131582719 := 0
def PySem.W.Fast.tw11485780481146712413 := 0
def PySem.W.Fast.tw6169956948034031358 := 0
def PySem.W.Fast.tw10294818940117566596 := 0
def PySem.W.Fast.tw7580222217239906517 := 0
def PySem.W.Fast.tw2313187086503929885 := 0
def PySem.W.Fast.tw6297796601673847663 := 0
def PySem.W.Fast.tw6270002105266697519 := 0
def PySem.W.Fast.tw11617246089293472053 := 0
def PySem.W.Fast.tw10304846249171701952 := 0
def PySem.W.Fast.tw10411139855848307500 := 0
def PySem.W.Fast.tw4564507971328797792 := 0
def PySem.W.Fast.tw10563318952542211933 := 0
def PySem.W.Fast.tw13378677790557075191 := 0
def PySem.W.Fast.tw1764566978285232387 := 0
def PySem.W.Fast.tw9566858967758136965 := 0
def PySem.W.Fast.tw13311452260490756827 := 0
def PySem.W.Fast.tw11967918318354014948 := 0
def PySem.W.Fast.tw10948786666265473178 := 0
def PySem.W.Fast.tw10055889597462483353 := 0
def PySem.W.Fast.tw15848751601354790274 := 0
def PySem.W.Fast.tw4082322890532704524 := 0
def PySem.W.Fast.tw15078928640592989007 := 0
def PySem.W.Fast.tw15670997272950302565 := 0
def PySem.W.Fast.tw12339460537884877637 := 0
def PySem.W.Fast.tw10261627166665818560 := 0
def PySem.W.Fast.tw13807075389352616557 := 0
def PySem.W.Fast.tw498580144127495562 := 0
def PySem.W.Fast.tw14261334766996562337 := 0
def PySem.W.Fast.tw14382336254286998468 := 0
def PySem.W.Fast.tw16867698933584641158 := 0
def PySem.W.Fast.tw2781401393191264950 := 0
def PySem.W.Fast.tw9365055849027366613 := 0
def PySem.W.Fast.tw16176335803723905055 := 0
def PySem.W.Fast.tw17138499843479965193 := 0
def PySem.W.Fast.tw17244830893041077759 := 0
def PySem.W.Fast.tw7562620274932645227 := 0
def PySem.W.Fast.tw8059442107369215981 := 0
def PySem.W.Fast.tw921543699375474615 := 0
def PySem.W.Fast.tw8821837798282435891 := 0
def PySem.W.Fast.tw3834306403328264959 := 0
def PySem.W.Fast.tw4073509711997629206 := 0
def PySem.W.Fast.tw1956404006256261250 := 0
def PySem.W.Fast.tw18201373821754645614 := 0
def PySem.W.Fast.tw13252423483936293566 := 0
def PySem.W.Fast.tw12964252875103982351 := 0
def PySem.W.Fast.tw4897839785227032442 := 0
def PySem.W.Fast.tw4252718097535713998 := 0
def PySem.W.Fast.tw8071898271571119310 := 0
def PySem.W.Fast.tw11151188524817842065 := 0
def PySem.W.Fast.tw15803214792247122823 := 0
def PySem.W.Fast.tw17349724469181757830 := 0
def PySem.W.Fast.tw13050723808175636534 := 0
def PySem.W.Fast.tw335233440427183284 := 0
def PySem.W.Fast.tw13710418577011699330 := 0
def PySem.W.Fast.tw576449500990879229 := 0
def PySem.W.Fast.tw9301825855436023285 := 0
def PySem.W.Fast.tw12271475476481996830 := 0
def PySem.W.Fast.tw1180795419344202809 := 0
def PySem.W.Fast.tw15973631131203179567 := 0
def PySem.W.Fast.tw12291633315871111715 := 0
def PySem.W.Fast.tw8856274948988734651 := 0
def PySem.W.Fast.tw11734134875899671661 := 0
def PySem.W.Fast.tw10369544069114360941 := 0
def PySem.W.Fast.tw10314442539555838434 := 0
def PySem.W.Fast.tw3614703092985529208 := 0
def PySem.W.Fast.tw5946118332786258652 := 0
def PySem.W.Fast.tw16079600981840773961 := 0
def PySem.W.Fast.tw4700527586088587368 := 0
def PySem.W.Fast.tw10428736610860852117 := 0
def PySem.W.Fast.tw2414128250275192706 := 0
def PySem.W.Fast.tw14344980996463967397 := 0
def PySem.W.Fast.tw4536411328859665745 := 0
def PySem.W.Fast.tw9032494114495773950 := 0
def PySem.W.Fast.tw13492572922710650808 := 0
def PySem.W.Fast.tw2733340399481042679 := 0
def PySem.W.Fast.tw3746608281577043355 := 0
def PySem.W.Fast.tw4303554284482878183 := 0
def PySem.W.Fast.tw11346566235749279141 := 0
def PySem.W.Fast.tw6373292945194578645 := 0
def PySem.W.Fast.tw1218313309516930541 := 0
def PySem.W.Fast.tw12521289261991953117 := 0
def PySem.W.Fast.tw17570293134765664840 := 0
def PySem.W.Fast.tw4583650393417351013 := 0
def PySem.W.Fast.tw2527931622155537234 := 0
def PySem.W.Fast.tw3042712133134631431 := 0
def PySem.W.Fast.tw12623775765496257510 := 0
def PySem.W.Fast.tw11313041581185394376 := 0
def PySem.W.Fast.tw5338442919650536811 := 0
def PySem.W.Fast.tw318086752152499776 := 0
def PySem.W.Fast.tw18438405406071926321 := 0
def PySem.W.Fast.tw6921578863376062391 := 0
def PySem.W.Fast.tw2801230362077933324 := 0
def PySem.W.Fast.tw13233110320312650110 := 0
def PySem.W.Fast.tw7768087125045885218 := 0
def PySem.W.Fast.tw6531274862554429081 := 0
def PySem.W.Fast.tw3054080015799094526 := 0
def PySem.W.Fast.tw17153777510975798235 := 0
def PySem.W.Fast.tw12833780638969764358 := 0
def PySem.W.Fast.tw9739446944947155721 := 0
def PySem.W.Fast.tw8567694263002042616 := 0
def PySem.W.Fast.tw5674399062006313580 := 0
def PySem.W.Fast.tw3363150571624027428 := 0
def PySem.W.Fast.tw8992439506744985747 := 0
def PySem.W.Fast.tw15643152068826221234 := 0
def PySem.W.Fast.tw13508817772534729704 := 0
def PySem.W.Fast.tw14668301198774167635 := 0
def PySem.W.Fast.tw336150775947528035 := 0
def PySem.W.Fast.tw3411454447419233311 := 0
def PySem.W.Fast.tw13789725558416777019 := 0
def PySem.W.Fast.tw13829760318752751617 := 0
def PySem.W.Fast.tw14290414229551389462 := 0
def PySem.W.Fast.tw1093725251811448554 := 0
def PySem.W.Fast.tw8861431579047600915 := 0
def PySem.W.Fast.tw8318642503194995110 := 0
def PySem.W.Fast.tw3962902742985914799 := 0
def PySem.W.Fast.tw8326490440878844984 := 0
def PySem.W.Fast.tw17696398078293321743 := 0
def PySem.W.Fast.tw575817385327979055 := 0
def PySem.W.Fast.tw3014027376742686497 := 0
def PySem.W.Fast.tw9220512159399683546 := 0
def PySem.W.Fast.tw1465860331915613266 := 0
def PySem.W.Fast.tw6473288975236268927 := 0
def PySem.W.Fast.tw15474762795548964121 := 0
def PySem.W.Fast.tw16511890930251650516 := 0
def PySem.W.Fast.tw1052918966656138362 := 0
def PySem.W.Fast.tw14085616610196331784 := 0
def PySem.W.Fast.tw15742396779297883399 := 0
def PySem.W.Fast.tw9490613685704004502 := 0
def PySem.W.Fast.tw11699430652643203330 := 0
def PySem.W.Fast.tw4417732657283325993 := 0
def PySem.W.Fast.tw7763516555286389240 := 0
def PySem.W.Fast.tw1713664495863092801 := 0
def PySem.W.Fast.tw6666990875672979993 := 0
def PySem.W.Fast.tw10991835456169864729 := 0
def PySem.W.Fast.tw738697949934332244 := 0
def PySem.W.Fast.tw13171503174493490396 := 0
def PySem.W.Fast.tw6852909792263354000 := 0
def PySem.W.Fast.tw14237664058991914959 := 0
def PySem.W.Fast.tw1458964948469983488 := 0
def PySem.W.Fast.tw5757070273873674532 := 0
def PySem.W.Fast.tw15256383685020455802 := 0
def PySem.W.Fast.tw10887295230521258723 := 0
def PySem.W.Fast.tw2171103837337455885 := 0
def PySem.W.Fast.tw10136100207250434716 := 0
def PySem.W.Fast.tw3764190051186417099 := 0
def PySem.W.Fast.tw10305783803320852057 := 0
def PySem.W.Fast.tw437665600819388581 := 0
def PySem.W.Fast.tw5274791216053008911 := 0
def PySem.W.Fast.tw5360851409659913878 := 0
def PySem.W.Fast.tw17431829889286535182 := 0
def PySem.W.Fast.tw7240907668576371590 := 0
def PySem.W.Fast.tw9808666469907026552 := 0
def PySem.W.Fast.tw8403577017672270412 := 0
def PySem.W.Fast.tw13851450703779859228 := 0
def PySem.W.Fast.tw7145769047032119653 := 0
def PySem.W.Fast.tw5706466840677544385 := 0
def PySem.W.Fast.tw17319794722345459047 := 0
def PySem.W.Fast.tw5115808341688108123 := 0
def PySem.W.Fast.tw6003448770714431650 := 0
def PySem.W.Fast.tw12242129656232523567 := 0
def PySem.W.Fast.tw5194261970067325697 := 0
def PySem.W.Fast.tw10462945249758889929 := 0
def PySem.W.Fast.tw12669093363809861451 := 0
def PySem.W.Fast.tw15404279221613763943 := 0
def PySem.W.Fast.tw11288861439776342487 := 0
def PySem.W.Fast.tw7196931738547647882 := 0
def PySem.W.Fast.tw8869374998355112283 := 0
def PySem.W.Fast.tw9598046356258586276 := 0
def PySem.W.Fast.tw9271944723755619446 := 0
def PySem.W.Fast.tw664732515974247003 := 0
def PySem.W.Fast.tw14931594876968191977 := 0
def PySem.W.Fast.tw2374664016018569752 := 0
def PySem.W.Fast.tw10737625630281806586 := 0
def PySem.W.Fast.tw1751580741466799561 := 0
def PySem.W.Fast.tw12983921239876518771 := 0
def PySem.W.Fast.tw7195537892349696024 := 0
def PySem.W.Fast.tw13700401043048479944 := 0
def PySem.W.Fast.tw5855080425539044758 := 0
def PySem.W.Fast.tw367131853610859250 := 0
def PySem.W.Fast.tw10335444237941643380 := 0
def PySem.W.Fast.tw2195226569300257514 := 0
def PySem.W.Fast.tw17454530062857498074 := 0
def PySem.W.Fast.tw8423636480023636682 := 0
def PySem.W.Fast.tw12447907624481026366 := 0
def PySem.W.Fast.tw9032059956181924594 := 0
def PySem.W.Fast.tw13790545052176500508 := 0
def PySem.W.Fast.tw17382921712254675045 := 0
def PySem.W.Fast.tw12571396207284693554 := 0
def PySem.W.Fast.tw925772631741197100 := 0
def PySem.W.Fast.tw12327424669973006987 := 0
def PySem.W.Fast.tw11537223377475088280 := 0
def PySem.W.Fast.tw6200021534162005296 := 0
def PySem.W.Fast.tw9320801612743433856 := 0
def PySem.W.Fast.tw4489524797482282492 := 0
def PySem.W.Fast.tw3375382550213465307 := 0
def PySem.W.Fast.tw2080235440783971369 := 0
def PySem.W.Fast.tw4261587109286125275 := 0
def PySem.W.Fast.tw4706676031057764263 := 0
def PySem.W.Fast.tw15550655356790851985 := 0
def PySem.W.Fast.tw3719250128933522256 := 0
def PySem.W.Fast.tw8295798698911364694 := 0
def PySem.W.Fast.tw5646118037888818394 := 0
def PySem.W.Fast.tw7768488863726033313 := 0
def PySem.W.Fast.tw4810871273199600942 := 0
def PySem.W.Fast.tw13359449034893720856 := 0
def PySem.W.Fast.tw5834886335225431543 := 0
def PySem.W.Fast.tw2299064611984137023 := 0
def PySem.W.Fast.tw17529344176534173239 := 0
def PySem.W.Fast.tw10676648434311046216 := 0
def PySem.W.Fast.tw6227682098050371830 := 0
def PySem.W.Fast.tw4539849790040345641 := 0
def PySem.W.Fast.tw3920289262220770110 := 0
def PySem.W.Fast.tw10917272633753421952 := 0
def PySem.W.Fast.tw15675192124966125977 := 0
def PySem.W.Fast.tw948633108124096966 := 0
def PySem.W.Fast.tw7825389626429316136 := 0
def PySem.W.Fast.tw7516387488988767427 := 0
def PySem.W.Fast.tw105688460236992403 := 0
def PySem.W.Fast.tw8570740520881991317 := 0
def PySem.W.Fast.tw11925973080096408354 := 0
def PySem.W.Fast.tw815954453213983296 := 0
def PySem.W.Fast.tw9338456020561246915 := 0
def PySem.W.Fast.tw8800434060030663040 := 0
def PySem.W.Fast.tw1216734991014312877 := 0
def PySem.W.Fast.tw5985549172828993599 := 0
def PySem.W.Fast.tw8852277106838209899 := 0
def PySem.W.Fast.tw290857331254690675 := 0
def PySem.W.Fast.tw6730594546871831817 := 0
def PySem.W.Fast.tw3186551829790550292 := 0
def PySem.W.Fast.tw10301637052214206682 := 0
def PySem.W.Fast.tw10767099059083621538 := 0
def PySem.W.Fast.tw6882993589207772298 := 0
def PySem.W.Fast.tw14605020867143449005 := 0
def PySem.W.Fast.tw7125498703246627656 := 0
def PySem.W.Fast.tw6215808839473004441 := 0
def PySem.W.Fast.tw8596466981831950232 := 0
def PySem.W.Fast.tw14821942536345889315 := 0
def PySem.W.Fast.tw3370568457108210770 := 0
def PySem.W.Fast.tw90443050113923203 := 0
def PySem.W.Fast.tw15125752592669564537 := 0
def PySem.W.Fast.tw8791388393417341337 := 0
def PySem.W.Fast.tw12253424606888705636 := 0
def PySem.W.Fast.tw2372655579980423274 := 0
def PySem.W.Fast.tw9370784423779061558 := 0
def PySem.W.Fast.tw245609408836979560 := 0
def PySem.W.Fast.tw6235591427933413805 := 0
def PySem.W.Fast.tw3296878754496710416 := 0
def PySem.W.Fast.tw14919906189062890818 := 0
def PySem.W.Fast.tw13738886925625720721 := 0
def PySem.W.Fast.tw3135821627368485695 := 0
def PySem.W.Fast.tw5894948357843214630 := 0
def PySem.W.Fast.tw855098024876766996 := 0
def PySem.W.Fast.tw10448395623238597012 := 0
def PySem.W.Fast.tw13050313025278565425 := 0
def PySem.W.Fast.tw13439883592190124210 := 0
def PySem.W.Fast.tw15373082468590033212 := 0
def PySem.W.Fast.tw7159820584794480772 := 0
def PySem.W.Fast.tw4299672448609843874 := 0
def PySem.W.Fast.tw17033480255562604881 := 0
def PySem.W.Fast.tw793341109758897178 := 0
def PySem.W.Fast.tw4384717262943035480 := 0
def PySem.W.Fast.tw5721902097729942346 := 0
def PySem.W.Fast.tw4098091195175903255 := 0
def PySem.W.Fast.tw15502017017310502496 := 0
def PySem.W.Fast.tw11354913231578158318 := 0
def PySem.W.Fast.tw7994174845767870018 := 0
def PySem.W.Fast.tw4530694641047589226 := 0
def PySem.W.Fast.tw13178084760134178126 := 0
def PySem.W.Fast.tw12089519189706240595 := 0
def PySem.W.Fast.tw17212384311771063175 := 0
def PySem.W.Fast.tw6196158100049708053 := 0
def PySem.W.Fast.tw14339916494644255347 := 0
def PySem.W.Fast.tw14243655427018270517 := 0
def PySem.W.Fast.tw7965250462068499245 := 0
def PySem.W.Fast.tw556704679833121143 := 0
def PySem.W.Fast.tw10979898398972975547 := 0
def PySem.W.Fast.tw7705819598019202124 := 0
def PySem.W.Fast.tw13955691567183228205 := 0
def PySem.W.Fast.tw10682869477326991575 := 0
def PySem.W.Fast.tw6048296836970221170 := 0
def PySem.W.Fast.tw8371455637770985710 := 0
def PySem.W.Fast.tw14619435081519783112 := 0
def PySem.W.Fast.tw5956617465875860586 := 0
def PySem.W.Fast.tw4332741582255876331 := 0
def PySem.W.Fast.tw7670700572751321238 := 0
def PySem.W.Fast.tw13170497788323933587 := 0
def PySem.W.Fast.tw5305307588651851787 := 0
def PySem.W.Fast.tw1163233512761831046 := 0
def PySem.W.Fast.tw15648141494679397964 := 0
def PySem.W.Fast.tw11676707021298192021 := 0
def PySem.W.Fast.tw1022956348421256226 := 0
def PySem.W.Fast.tw4225034801827429695 := 0
def PySem.W.Fast.tw15730992159702935555 := 0
def PySem.W.Fast.tw14419667059459901797 := 0
def PySem.W.Fast.tw5108904735224157892 := 0
def PySem.W.Fast.tw4185821468326633405 := 0
def PySem.W.Fast.tw17415327565415278295 := 0
def PySem.W.Fast.tw1162453253120954277 := 0
def PySem.W.Fast.tw6396851068448671968 := 0
def PySem.W.Fast.tw4425380820166933081 := 0
def PySem.W.Fast.tw15509633594672059014 := 0
def PySem.W.Fast.tw2176160622273345570 := 0
def PySem.W.Fast.tw13855563708946157982 := 0
def PySem.W.Fast.tw3951246932177731354 := 0
def PySem.W.Fast.tw3784971152723381269 := 0
def PySem.W.Fast.tw14797069735481487716 := 0
def PySem.W.Fast.tw17120805132632081344 := 0
def PySem.W.Fast.tw9839592271030135490 := 0
def PySem.W.Fast.tw485559367874584488 := 0
def PySem.W.Fast.tw9586618835966781043 := 0
def PySem.W.Fast.tw17924825178080402824 := 0
def PySem.W.Fast.tw14572483699778385222 := 0
def PySem.W.Fast.tw9704449229613298919 := 0
def PySem.W.Fast.tw17256612642930801933 := 0
def PySem.W.Fast.tw10518955003706044925 := 0
def PySem.W.Fast.tw1814417173627439477 := 0
def PySem.W.Fast.tw11424088591641844562 := 0
def PySem.W.Fast.tw13451957639868114269 := 0
def PySem.W.Fast.tw11945130305910841132 := 0
def PySem.W.Fast.tw16860483247088281130 := 0
def PySem.W.Fast.tw18382482734147462704 := 0
def PySem.W.Fast.tw6424907801770524364 := 0
def PySem.W.Fast.tw5335645981448776884 := 0
def PySem.W.Fast.tw16603254820912848796 := 0
def PySem.W.Fast.tw7842184334154555485 := 0
def PySem.W.Fast.tw15636951302531917554 := 0
def PySem.W.Fast.tw11660295239927011563 := 0
def PySem.W.Fast.tw7076538453633657480 := 0
def PySem.W.Fast.tw2511515759915380003 := 0
def PySem.W.Fast.tw8613998726513721084 := 0
def PySem.W.Fast.tw9590788333666503895 := 0
def PySem.W.Fast.tw10256700916216858199 := 0
def PySem.W.Fast.tw814125133627700489 := 0
def PySem.W.Fast.tw15120556761323947251 := 0
def PySem.W.Fast.tw9936359914384282826 := 0
def PySem.W.Fast.tw15926585403253362922 := 0
def PySem.W.Fast.tw16489269301123738816 := 0
def PySem.W.Fast.tw13459080333153497826 := 0
def PySem.W.Fast.tw17784256294386285756 := 0
def PySem.W.Fast.tw1512295804585683280 := 0
def PySem.W.Fast.tw12849667132060101552 := 0
def PySem.W.Fast.tw15048183170861130272 := 0
def PySem.W.Fast.tw151075691745621682 := 0
def PySem.W.Fast.tw13080541528213726675 := 0
def PySem.W.Fast.tw16006570898368588290 := 0
def PySem.W.Fast.tw214562225551009676 := 0
def PySem.W.Fast.tw7560706894019414021 := 0
def PySem.W.Fast.tw4081850472884192637 := 0
def PySem.W.Fast.tw11253320282797117980 := 0
def PySem.W.Fast.tw9748210629564975908 := 0
def PySem.W.Fast.tw10353516036874898327 := 0
def PySem.W.Fast.tw13117050121671988416 := 0
def PySem.W.Fast.tw12921192497379434487 := 0
def PySem.W.Fast.tw16942454792975123202 := 0
def PySem.W.Fast.tw4744485727355408712 := 0
def PySem.W.Fast.tw14013546228495732828 := 0
def PySem.W.Fast.tw2790101605518538396 := 0
def PySem.W.Fast.tw4146184312017261011 := 0
def PySem.W.Fast.tw2679969807675946682 := 0
def PySem.W.Fast.tw13751965446109882551 := 0
def PySem.W.Fast.tw4143810433658332740 := 0
def PySem.W.Fast.tw3513385435421793525 := 0
def PySem.W.Fast.tw15319506228059643978 := 0
def PySem.W.Fast.tw12054551188501083687 := 0
def PySem.W.Fast.tw12575297685951762155 := 0
def PySem.W.Fast.tw9822781805918694170 := 0
def PySem.W.Fast.tw17373964477113866671 := 0
def PySem.W.Fast.tw6087043691432112838 := 0
def PySem.W.Fast.tw3701415624034517347 := 0
def PySem.W.Fast.tw9880574093426941044 := 0
def PySem.W.Fast.tw458343810340987695 := 0
def PySem.W.Fast.tw377786617894665008 := 0
def PySem.W.Fast.tw573402766740587581 := 0
def PySem.W.Fast.tw6517416139766413651 := 0
def PySem.W.Fast.tw14531314802644627802 := 0
def PySem.W.Fast.tw364729882656193378 := 0
def PySem.W.Fast.tw4781442564863469228 := 0
def PySem.W.Fast.tw1432462992558954329 := 0
def PySem.W.Fast.tw11160204095404446448 := 0
def PySem.W.Fast.tw3097753544926113230 := 0
def PySem.W.Fast.tw10673940007750503647 := 0
def PySem.W.Fast.tw5558871392793142131 := 0
def PySem.W.Fast.tw14357867538636926745 := 0
def PySem.W.Fast.tw11494314037447496124 := 0
def PySem.W.Fast.tw5400680501073684932 := 0
def PySem.W.Fast.tw7223218679774101311 := 0
def PySem.W.Fast.tw6694693096705946856 := 0
def PySem.W.Fast.tw10080257597027750267 := 0
def PySem.W.Fast.tw13729903190724993796 := 0
def PySem.W.Fast.tw9633519368077444779 := 0
def PySem.W.Fast.tw7841581177854039821 := 0
def PySem.W.Fast.tw13640528452870676690 := 0
def PySem.W.Fast.tw2432941873785567366 := 0
def PySem.W.Fast.tw2516607403632703747 := 0
def PySem.W.Fast.tw7907261550941792818 := 0
def PySem.W.Fast.tw534446053612824345 := 0
def PySem.W.Fast.tw384261523233619067 := 0
def PySem.W.Fast.tw7617496630712086265 := 0
def PySem.W.Fast.tw16310133519608239093 := 0
def PySem.W.Fast.tw2138984189298363427 := 0
def PySem.W.Fast.tw3993282533776794873 := 0
def PySem.W.Fast.tw9310446342325481155 := 0
def PySem.W.Fast.tw10585727108791125425 := 0
def PySem.W.Fast.tw1583482115895143424 := 0
def PySem.W.Fast.tw326347236382756467 := 0
def PySem.W.Fast.tw15957997358234022752 := 0
def PySem.W.Fast.tw15553069456064882780 := 0
def PySem.W.Fast.tw1591570515121960821 := 0
def PySem.W.Fast.tw2981117119768722731 := 0
def PySem.W.Fast.tw18349791540041601821 := 0
def PySem.W.Fast.tw10478396075736926902 := 0
def PySem.W.Fast.tw15278417330569006798 := 0
def PySem.W.Fast.tw5069932090263795896 := 0
def PySem.W.Fast.tw2590111640365906135 := 0
def PySem.W.Fast.tw2099035857496157617 := 0
def PySem.W.Fast.tw7254189476986141096 := 0
def PySem.W.Fast.tw7601298411897733201 := 0
def PySem.W.Fast.tw3358022615204962463 := 0
def PySem.W.Fast.tw3781317637106145829 := 0
def PySem.W.Fast.tw5594946452419550075 := 0
def PySem.W.Fast.tw5316839961866451731 := 0
def PySem.W.Fast.tw6597786643096327206 := 0
def PySem.W.Fast.tw13682634215424624282 := 0
def PySem.W.Fast.tw535031940536156261 := 0
def PySem.W.Fast.tw5511859741184385362 := 0
def PySem.W.Fast.tw15791211166792778460 := 0
def PySem.W.Fast.tw16166435730886226486 := 0
def PySem.W.Fast.tw9865734225166072408 := 0
def PySem.W.Fast.tw3649500378902023410 := 0
def PySem.W.Fast.tw10020644737697265496 := 0
def PySem.W.Fast.tw13470629158978225975 := 0
def PySem.W.Fast.tw2136193028041680955 := 0
def PySem.W.Fast.tw3524888488511958813 := 0
def PySem.W.Fast.tw158661784596559352 := 0
def PySem.W.Fast.tw5741907096951042007 := 0
def PySem.W.Fast.tw14066764536214891173 := 0
def PySem.W.Fast.tw3529464051437090787 := 0
def PySem.W.Fast.tw16523419502413720831 := 0
def PySem.W.Fast.tw6468188299299362884 := 0
def PySem.W.Fast.tw16243172186973445834 := 0
def PySem.W.Fast.tw14750692814088951882 := 0
def PySem.W.Fast.tw11793318099570579014 := 0
def PySem.W.Fast.tw13682507027009815348 := 0
def PySem.W.Fast.tw17209496322598956106 := 0
def PySem.W.Fast.tw4330538669259266461 := 0
def PySem.W.Fast.tw5756000822079455155 := 0
def PySem.W.Fast.tw12016410066522514320 := 0
def PySem.W.Fast.tw10358512950118726515 := 0
def PySem.W.Fast.tw1582827362785203901 := 0
def PySem.W.Fast.tw2039836153575779548 := 0
def PySem.W.Fast.tw13262883302153607264 := 0
def PySem.W.Fast.tw1463584587176879294 := 0
def PySem.W.Fast.tw12065288755575564783 := 0
def PySem.W.Fast.tw8531179617310895206 := 0
def PySem.W.Fast.tw5922263329799605671 := 0
def PySem.W.Fast.tw6635537315844700296 := 0
def PySem.W.Fast.tw11310192402011901868 := 0
def PySem.W.Fast.tw219246978570150134 := 0
def PySem.W.Fast.tw15155866284866328211 := 0
def PySem.W.Fast.tw15926522236109211273 := 0
def PySem.W.Fast.tw17876053782169345172 := 0
def PySem.W.Fast.tw10063262230613930998 := 0
def PySem.W.Fast.tw780491206764779245 := 0
def PySem.W.Fast.tw5245918028732201669 := 0
def PySem.W.Fast.tw15441179472673355757 := 0
def PySem.W.Fast.tw12705775860544517936 := 0
def PySem.W.Fast.tw17376408194924736369 := 0
def PySem.W.Fast.tw16031847109635942945 := 0
def PySem.W.Fast.tw13940887791826422825 := 0
def PySem.W.Fast.tw3111758373291931263 := 0
def PySem.W.Fast.tw14919897618051039991 := 0
def PySem.W.Fast.tw7795932741761216454 := 0
def PySem.W.Fast.tw13888422375336169979 := 0
def PySem.W.Fast.tw6128306588581194454 := 0
def PySem.W.Fast.tw17479668285747413929 := 0
def PySem.W.Fast.tw1890787123689458608 := 0
def PySem.W.Fast.tw14250857557684471598 := 0
def PySem.W.Fast.tw2554201980516249264 := 0
def PySem.W.Fast.tw8585899239153307391 := 0
def PySem.W.Fast.tw8162741400899117999 := 0
def PySem.W.Fast.tw5051968702970536260 := 0
def PySem.W.Fast.tw7622002781981332289 := 0
def PySem.W.Fast.tw5386930242258801436 := 0
def PySem.W.Fast.tw9192106088798021518 := 0
def PySem.W.Fast.tw7976966868863493443 := 0
def PySem.W.Fast.tw3819199987361778451 := 0
def PySem.W.Fast.tw756783639137238227 := 0
def PySem.W.Fast.tw2688987575092502415 := 0
def PySem.W.Fast.tw11325735775770174525 := 0
def PySem.W.Fast.tw2243561471520924447 := 0
def PySem.W.Fast.tw1268013439193289984 := 0
def PySem.W.Fast.tw3589533571931387558 := 0
def PySem.W.Fast.tw7654659994649748126 := 0
def PySem.W.Fast.tw16453966322291131910 := 0
def PySem.W.Fast.tw6547030539409166623 := 0
def PySem.W.Fast.tw16257284498638423540 := 0
def PySem.W.Fast.tw15622446217928989909 := 0
def PySem.W.Fast.tw10437614130020371419 := 0
def PySem.W.Fast.tw15785390514698824120 := 0
def PySem.W.Fast.tw8359048591715812625 := 0
def PySem.W.Fast.tw5031662560937858051 := 0
def PySem.W.Fast.tw16279619984298484486 := 0
def PySem.W.Fast.tw8530027587803442681 := 0
def PySem.W.Fast.tw5295355294435087118 := 0
def PySem.W.Fast.tw10411096692396091557 := 0
def PySem.W.Fast.tw4638149722559464583 := 0
def PySem.W.Fast.tw6264201359601502168 := 0
def PySem.W.Fast.tw17524980741434285674 := 0
def PySem.W.Fast.tw13011093708056008390 := 0
def PySem.W.Fast.tw4736635480251838295 := 0
def PySem.W.Fast.tw9146102196011007049 := 0
def PySem.W.Fast.tw5831251689413268240 := 0
def PySem.W.Fast.tw11303582268248330628 := 0
def PySem.W.Fast.tw9089259434431253392 := 0
def PySem.W.Fast.tw5486185948890680163 := 0
def PySem.W.Fast.tw17973483984816399057 := 0
def PySem.W.Fast.tw172440297566075430 := 0
def PySem.W.Fast.tw9213552330368626672 := 0
def PySem.W.Fast.tw15756459493281599536 := 0
def PySem.W.Fast.tw11281120710525822718 := 0
def PySem.W.Fast.tw14390974404012946083 := 0
def PySem.W.Fast.tw6587147373365790954 := 0
def PySem.W.Fast.tw2220759673991764445 := 0
def PySem.W.Fast.tw1051484024405953908 := 0
def PySem.W.Fast.tw10002107916341764589 := 0
def PySem.W.Fast.tw12968165574694176641 := 0
def PySem.W.Fast.tw9655508658997331146 := 0
def PySem.W.Fast.tw1882059572732888195 := 0
def PySem.W.Fast.tw2083584483547157731 := 0
def PySem.W.Fast.tw2186577334133210054 := 0
def PySem.W.Fast.tw14389472256470308143 := 0
def PySem.W.Fast.tw13693377969669386379 := 0
def PySem.W.Fast.tw16944300501884314959 := 0
def PySem.W.Fast.tw12885666371029156375 := 0
def PySem.W.Fast.tw8756309519811377354 := 0
def PySem.W.Fast.tw8380126918627406887 := 0
def PySem.W.Fast.tw17584947359462372927 := 0
def PySem.W.Fast.tw15712940888475570409 := 0
def PySem.W.Fast.tw10388399449489800405 := 0
def PySem.W.Fast.tw11020094851476070249 := 0
def PySem.W.Fast.tw3242142221058621624 := 0
def PySem.W.Fast.tw13511434659722349764 := 0
def PySem.W.Fast.tw912856326224413965 := 0
def PySem.W.Fast.tw12055463273845104762 := 0
def PySem.W.Fast.tw45666701150700002 := 0
def PySem.W.Fast.tw4380489228401514547 := 0
def PySem.W.Fast.tw499273456641254669 := 0
def PySem.W.Fast.tw12915361961677148395 := 0
def PySem.W.Fast.tw965891424945539581 := 0
def PySem.W.Fast.tw13987856175174712956 := 0
def PySem.W.Fast.tw7996164888602979241 := 0
def PySem.W.Fast.tw15593290696846332673 := 0
def PySem.W.Fast.tw7420121846282784410 := 0
def PySem.W.Fast.tw17551418762505526599 := 0
def PySem.W.Fast.tw4869529591071645902 := 0
def PySem.W.Fast.tw909975481398694278 := 0
def PySem.W.Fast.tw9409851636674946901 := 0
def PySem.W.Fast.tw12989643931425254620 := 0
def PySem.W.Fast.tw6799093071104556952 := 0
def PySem.W.Fast.tw17498657726013526057 := 0
def PySem.W.Fast.tw4506163892836810157 := 0
def PySem.W.Fast.tw4562026715996322890 := 0
def PySem.W.Fast.tw221458222482767615 := 0
def PySem.W.Fast.tw16864993167602657873 := 0
def PySem.W.Fast.tw3391110394160997937 := 0
def PySem.W.Fast.tw18087810948138849599 := 0
def PySem.W.Fast.tw8135603874926244542 := 0
def PySem.W.Fast.tw12479365622906516418 := 0
def PySem.W.Fast.tw7566308689205927192 := 0
def PySem.W.Fast.tw2226065740908719888 := 0
def PySem.W.Fast.tw14373774504240777605 := 0
def PySem.W.Fast.tw13571648950518010400 := 0
def PySem.W.Fast.tw16963508876419085505 := 0
def PySem.W.Fast.tw2683850125134435419 := 0
def PySem.W.Fast.tw4503118623018731544 := 0
def PySem.W.Fast.tw11355410110846175544 := 0
def PySem.W.Fast.tw13903554520110135250 := 0
def PySem.W.Fast.tw8361171440663660410 := 0
def PySem.W.Fast.tw1641641074238154409 := 0
def PySem.W.Fast.tw961203620125735677 := 0
def PySem.W.Fast.tw11294310718326657020 := 0
def PySem.W.Fast.tw4781207165580264524 := 0
def PySem.W.Fast.tw11193759984139422207 := 0
def PySem.W.Fast.tw14329995417149645632 := 0
def PySem.W.Fast.tw3612632383628612638 := 0
def PySem.W.Fast.tw5676144341235630576 := 0
def PySem.W.Fast.tw8623508167919630730 := 0
def PySem.W.Fast.tw9967965007578431653 := 0
def PySem.W.Fast.tw12164863330324320623 := 0
def PySem.W.Fast.tw6535092206914540775 := 0
def PySem.W.Fast.tw6636808434856735067 := 0
def PySem.W.Fast.tw11969464786965247214 := 0
def PySem.W.Fast.tw17078667383583153371 := 0
def PySem.W.Fast.tw14521036035543104688 := 0
def PySem.W.Fast.tw8497152673712284942 := 0
def PySem.W.Fast.tw12543462211356046856 := 0
def PySem.W.Fast.tw5230557332313330563 := 0
def PySem.W.Fast.tw16249908603494619985 := 0
def PySem.W.Fast.tw4186708072065700454 := 0
def PySem.W.Fast.tw3771266646347385481 := 0
def PySem.W.Fast.tw1206970219149303252 := 0
def PySem.W.Fast.tw2044235215415025245 := 0
def PySem.W.Fast.tw9970045543195707264 := 0
def PySem.W.Fast.tw14210326030379416397 := 0
def PySem.W.Fast.tw10242959194507703864 := 0
def PySem.W.Fast.tw13121607555276539024 := 0
def PySem.W.Fast.tw12869810052007268085 := 0
def PySem.W.Fast.tw5663147361945915232 := 0
def PySem.W.Fast.tw7259472557637187983 := 0
def PySem.W.Fast.tw7382387493715498837 := 0
def PySem.W.Fast.tw18027211967271320817 := 0
def PySem.W.Fast.tw2206272534905188133 := 0
def PySem.W.Fast.tw12423508127816765082 := 0
def PySem.W.Fast.tw17698914523003749798 := 0
def PySem.W.Fast.tw17150873596845285791 := 0
def PySem.W.Fast.tw17674022488040260686 := 0
def PySem.W.Fast.tw488905841278966619 := 0
def PySem.W.Fast.tw4781168897877576233 := 0
def PySem.W.Fast.tw3725550326704268344 := 0
def PySem.W.Fast.tw15373817609083411169 := 0
def PySem.W.Fast.tw2798239294474359231 := 0
def PySem.W.Fast.tw7329250853998819384 := 0
def PySem.W.Fast.tw17925911859442971422 := 0
def PySem.W.Fast.tw1158827243045906609 := 0
def PySem.W.Fast.tw8613260434177976744 := 0
def PySem.W.Fast.tw4933770421866717888 := 0
def PySem.W.Fast.tw7626650782210794647 := 0
def PySem.W.Fast.tw17302339645473894566 := 0
def PySem.W.Fast.tw18155823702452476616 := 0
def PySem.W.Fast.tw13148500139455661114 := 0
def PySem.W.Fast.tw17247745563601667509 := 0
def PySem.W.Fast.tw4397528624186460937 := 0
def PySem.W.Fast.tw8401239711171779838 := 0
def PySem.W.Fast.tw8265456124019316028 := 0
def PySem.W.Fast.tw6507078954853287065 := 0
def PySem.W.Fast.tw4240114248701435983 := 0
def PySem.W.Fast.tw11727445851933256514 := 0
def PySem.W.Fast.tw7927734047439930419 := 0
def PySem.W.Fast.tw1289381728821348337 := 0
def PySem.W.Fast.tw12007322603458779809 := 0
def PySem.W.Fast.tw6161215534764916271 := 0
def PySem.W.Fast.tw6802894311699677945 := 0
def PySem.W.Fast.tw8673024995770013769 := 0
def PySem.W.Fast.tw5323080967327668897 := 0
def PySem.W.Fast.tw4085533402796842425 := 0
def PySem.W.Fast.tw8148151667435298957 := 0
def PySem.W.Fast.tw13789432453078321729 := 0
def PySem.W.Fast.tw13519375236643332492 := 0
def PySem.W.Fast.tw14964026141113664555 := 0
def PySem.W.Fast.tw10984167676188184070 := 0
def PySem.W.Fast.tw12030248931794290951 := 0
def PySem.W.Fast.tw3689559651263878264 := 0
def PySem.W.Fast.tw5208017838908619778 := 0
def PySem.W.Fast.tw18421470375561074143 := 0
def PySem.W.Fast.tw1737385617911821019 := 0
def PySem.W.Fast.tw5844543104592234282 := 0
def PySem.W.Fast.tw18370695457037737156 := 0
def PySem.W.Fast.tw3709000749486211580 := 0
def PySem.W.Fast.tw12237224779975088059 := 0
def PySem.W.Fast.tw3962191753555071011 := 0
def PySem.W.Fast.tw740859294449111555 := 0
def PySem.W.Fast.tw5986580250177530783 := 0
def PySem.W.Fast.tw15865908754890727215 := 0
def PySem.W.Fast.tw6592721826841145560 := 0
def PySem.W.Fast.tw12413745145149391683 := 0
def PySem.W.Fast.tw224857122521220081 := 0
def PySem.W.Fast.tw9676633123006301357 := 0
def PySem.W.Fast.tw2056883153309130565 := 0
def PySem.W.Fast.tw7431459225908335101 := 0
def PySem.W.Fast.tw17827983743495984627 := 0
def PySem.W.Fast.tw18030472444832921554 := 0
def PySem.W.Fast.tw4456887682251647597 := 0
def PySem.W.Fast.tw2528703748393232034 := 0
def PySem.W.Fast.tw3613734095131964115 := 0
def PySem.W.Fast.tw16391892865016373433 := 0
def PySem.W.Fast.tw13122511508177799914 := 0
def PySem.W.Fast.tw16209890713799820585 := 0
def PySem.W.Fast.tw12597974706610612440 := 0
def PySem.W.Fast.tw7603193566074265778 := 0
def PySem.W.Fast.tw15151633721720475070 := 0
def PySem.W.Fast.tw4368206003469779482 := 0
def PySem.W.Fast.tw3949127837530841245 := 0
def PySem.W.Fast.tw18194963495564928060 := 0
def PySem.W.Fast.tw12057212452583524313 := 0
def PySem.W.Fast.tw13216834262970220107 := 0
def PySem.W.Fast.tw7616618581848541136 := 0
def PySem.W.Fast.tw8923717663157091012 := 0
def PySem.W.Fast.tw10757482533900311846 := 0
def PySem.W.Fast.tw15442520164254487170 := 0
def PySem.W.Fast.tw3093656350834802674 := 0
def PySem.W.Fast.tw9092686181894863874 := 0
def PySem.W.Fast.tw3845313905486350635 := 0
def PySem.W.Fast.tw5210571136127919108 := 0
def PySem.W.Fast.tw9770218588882505819 := 0
def PySem.W.Fast.tw14895948613964697697 := 0
def PySem.W.Fast.tw3832056380726302774 := 0
def PySem.W.Fast.tw15407257932845432485 := 0
def PySem.W.Fast.tw7968601035158166426 := 0
def PySem.W.Fast.tw2717644024385288970 := 0
def PySem.W.Fast.tw10609400533396933893 := 0
def PySem.W.Fast.tw17460579273526800340 := 0
def PySem.W.Fast.tw10336204118997760240 := 0
def PySem.W.Fast.tw12586083349695144945 := 0
def PySem.W.Fast.tw12719032474202275303 := 0
def PySem.W.Fast.tw1210018829193525054 := 0
def PySem.W.Fast.tw17466981950603519037 := 0
def PySem.W.Fast.tw1807634294865798715 := 0
def PySem.W.Fast.tw352304233805492525 := 0
def PySem.W.Fast.tw14702265607594910328 := 0
def PySem.W.Fast.tw3042505003891888023 := 0
def PySem.W.Fast.tw9402681332457354272 := 0
def PySem.W.Fast.tw4608835034790631753 := 0
def PySem.W.Fast.tw1212539727805595461 := 0
def PySem.W.Fast.tw18030302199273829618 := 0
def PySem.W.Fast.tw13278968369326247525 := 0
def PySem.W.Fast.tw6119111470937059020 := 0
def PySem.W.Fast.tw6790414968700861675 := 0
def PySem.W.Fast.tw16400492160446676213 := 0
def PySem.W.Fast.tw14251214063479588091 := 0
def PySem.W.Fast.tw13297444940616623812 := 0
def PySem.W.Fast.tw4024687998825780295 := 0
def PySem.W.Fast.tw16084512686593670551 := 0
def PySem.W.Fast.tw16398714052186144589 := 0
def PySem.W.Fast.tw14194863911157373492 := 0
def PySem.W.Fast.tw442611101473224424 := 0
def PySem.W.Fast.tw6280159057223474973 := 0
def PySem.W.Fast.tw13805273325911206594 := 0
def PySem.W.Fast.tw12676366858328726233 := 0
def PySem.W.Fast.tw3777813918536151998 := 0
def PySem.W.Fast.tw6740136449333381042 := 0
def PySem.W.Fast.tw1083163642216968435 := 0
def PySem.W.Fast.tw12092255801995090671 := 0
def PySem.W.Fast.tw12799722874635188843 := 0
def PySem.W.Fast.tw2554769539988733266 := 0
def PySem.W.Fast.tw2689333671215867553 := 0
def PySem.W.Fast.tw9701338349253868075 := 0
def PySem.W.Fast.tw2055434820511079534 := 0
def PySem.W.Fast.tw13791356149697362630 := 0
def PySem.W.Fast.tw615988299202468041 := 0
def PySem.W.Fast.tw16486602669771961631 := 0
def PySem.W.Fast.tw5051647750296127467 := 0
def PySem.W.Fast.tw11220689009258257638 := 0
def PySem.W.Fast.tw18432006713502091640 := 0
def PySem.W.Fast.tw5273119706518913480 := 0
def PySem.W.Fast.tw15995019485631624350 := 0
def PySem.W.Fast.tw477316657916176655 := 0
def PySem.W.Fast.tw356574157496792879 := 0
def PySem.W.Fast.tw5307794241633561204 := 0
def PySem.W.Fast.tw5865579412900444178 := 0
def PySem.W.Fast.tw5726674199859040331 := 0
def PySem.W.Fast.tw18145061998577931067 := 0
def PySem.W.Fast.tw13227842700037619521 := 0
def PySem.W.Fast.tw4272688489467512577 := 0
def PySem.W.Fast.tw11512690332385886024 := 0
def PySem.W.Fast.tw2248720562706560425 := 0
def PySem.W.Fast.tw12064166636926274008 := 0
def PySem.W.Fast.tw8003128729576538501 := 0
def PySem.W.Fast.tw5262044534017482756 := 0
def PySem.W.Fast.tw872011574872144093 := 0
def PySem.W.Fast.tw16456946317635073411 := 0
def PySem.W.Fast.tw10776867086925503332 := 0
def PySem.W.Fast.tw2537341828056616157 := 0
def PySem.W.Fast.tw17852873192558245717 := 0
def PySem.W.Fast.tw4299106630341294314 := 0
def PySem.W.Fast.tw6886398785515388830 := 0
def PySem.W.Fast.tw2843022235807773358 := 0
def PySem.W.Fast.tw15298313951849349478 := 0
def PySem.W.Fast.tw14156352879061950779 := 0
def PySem.W.Fast.tw12375531540337877216 := 0
def PySem.W.Fast.tw2505204549070965614 := 0
def PySem.W.Fast.tw12870296884648491018 := 0
def PySem.W.Fast.tw14044100977726694450 := 0
def PySem.W.Fast.tw3654847506571762307 := 0
def PySem.W.Fast.tw7087603574666884512 := 0
def PySem.W.Fast.tw8894692434654762465 := 0
def PySem.W.Fast.tw2078310668115476836 := 0
def PySem.W.Fast.tw2162485471400046619 := 0
def PySem.W.Fast.tw9348027955719446407 := 0
def PySem.W.Fast.tw7502953947617542212 := 0
def PySem.W.Fast.tw477423321595352918 := 0
def PySem.W.Fast.tw8195941554079992331 := 0
def PySem.W.Fast.tw15481397113181348269 := 0
def PySem.W.Fast.tw681264706522185024 := 0
def PySem.W.Fast.tw17806353560362592504 := 0
def PySem.W.Fast.tw2996314888277099526 := 0
def PySem.W.Fast.tw11146981226388890268 := 0
def PySem.W.Fast.tw2264718185706395409 := 0
def PySem.W.Fast.tw487248119659934814 := 0
def PySem.W.Fast.tw5591800148246741890 := 0
def PySem.W.Fast.tw740263893853935093 := 0
def PySem.W.Fast.tw16263433637930176991 := 0
def PySem.W.Fast.tw16410270580136250506 := 0
def PySem.W.Fast.tw1076762423913651915 := 0
def PySem.W.Fast.tw9329052488423174600 := 0
def PySem.W.Fast.tw14295859318790443206 := 0
def PySem.W.Fast.tw6407083047523213355 := 0
def PySem.W.Fast.tw9965591617128760903 := 0
def PySem.W.Fast.tw5124157906713615167 := 0
def PySem.W.Fast.tw9679056547936765605 := 0
def PySem.W.Fast.tw17837137846000540326 := 0
def PySem.W.Fast.tw7038102991211639281 := 0
def PySem.W.Fast.tw13918882142484228704 := 0
def PySem.W.Fast.tw12147630338682988803 := 0
def PySem.W.Fast.tw16199771186002897660 := 0
def PySem.W.Fast.tw9834487674519185080 := 0
def PySem.W.Fast.tw7205421261964432995 := 0
def PySem.W.Fast.tw6896572224606260410 := 0
def PySem.W.Fast.tw8801590178131805799 := 0
def PySem.W.Fast.tw15789984508839897338 := 0
def PySem.W.Fast.tw1469600574997099711 := 0
def PySem.W.Fast.tw2006205387293575711 := 0
def PySem.W.Fast.tw17852125163149757315 := 0
def PySem.W.Fast.tw13714439143568425596 := 0
def PySem.W.Fast.tw9796196938138175889 := 0
def PySem.W.Fast.tw17609166653218194450 := 0
def PySem.W.Fast.tw12970840265182955582 := 0
def PySem.W.Fast.tw5925587472391275298 := 0
def PySem.W.Fast.tw8204343430346682994 := 0
def PySem.W.Fast.tw13455211310930540519 := 0
def PySem.W.Fast.tw9478065201143595561 := 0
def PySem.W.Fast.tw12278555804622990065 := 0
def PySem.W.Fast.tw18202361423505527134 := 0
def PySem.W.Fast.tw172490358096428713 := 0
def PySem.W.Fast.tw11451238263680302149 := 0
def PySem.W.Fast.tw10658172290198113707 := 0
def PySem.W.Fast.tw225146824349092715 := 0
def PySem.W.Fast.tw13016473244064230827 := 0
def PySem.W.Fast.tw14885992607823455024 := 0
def PySem.W.Fast.tw4555975894798280431 := 0
def PySem.W.Fast.tw8196179916550222005 := 0
def PySem.W.Fast.tw7411857793570164586 := 0
def PySem.W.Fast.tw17405035552200400995 := 0
def PySem.W.Fast.tw7089648216657402917 := 0
def PySem.W.Fast.tw14993608066408248776 := 0
def PySem.W.Fast.tw8494782718971566677 := 0
def PySem.W.Fast.tw17039913917392701917 := 0
def PySem.W.Fast.tw6879155523454798113 := 0
def PySem.W.Fast.tw18184354410523752926 := 0
def PySem.W.Fast.tw12387135051404378525 := 0
def PySem.W.Fast.tw18312987210792495299 := 0
def PySem.W.Fast.tw2340356109020574901 := 0
def PySem.W.Fast.tw7026346972911390657 := 0
def PySem.W.Fast.tw13391926384789535710 := 0
def PySem.W.Fast.tw11449859786011427982 := 0
def PySem.W.Fast.tw8344619103392479643 := 0
def PySem.W.Fast.tw3638836224738955199 := 0
def PySem.W.Fast.tw13771885296161066844 := 0
def PySem.W.Fast.tw12070462077194362977 := 0
def PySem.W.Fast.tw7986286313957950245 := 0
def PySem.W.Fast.tw14523256379978324121 := 0
def PySem.W.Fast.tw1047821126116812574 := 0
def PySem.W.Fast.tw14023483238420480252 := 0
def PySem.W.Fast.tw14159203092327606782 := 0
def PySem.W.Fast.tw11578595237894010038 := 0
def PySem.W.Fast.tw9715465277661375481 := 0
def PySem.W.Fast.tw15957741591602461830 := 0
def PySem.W.Fast.tw6473549559666586081 := 0
def PySem.W.Fast.tw4931317598762671138 := 0
def PySem.W.Fast.tw13800637875910101808 := 0
def PySem.W.Fast.tw487489383722738002 := 0
def PySem.W.Fast.tw5606023458832096163 := 0
def PySem.W.Fast.tw12435074080922334388 := 0
def PySem.W.Fast.tw5327419036971104437 := 0
def PySem.W.Fast.tw125088587482628631 := 0
def PySem.W.Fast.tw51628643664122155 := 0
def PySem.W.Fast.tw17624361438069850791 := 0
def PySem.W.Fast.tw10943980952717833877 := 0
def PySem.W.Fast.tw4365728934620180403 := 0
def PySem.W.Fast.tw250657880580971669 := 0
def PySem.W.Fast.tw7774290975581337185 := 0
def PySem.W.Fast.tw12496933633190390516 := 0
def PySem.W.Fast.tw16541853192300743985 := 0
def PySem.W.Fast.tw18348392799322578576 := 0
def PySem.W.Fast.tw9677930535263465962 := 0
def PySem.W.Fast.tw6911728850672469731 := 0
def PySem.W.Fast.tw17140642350068004361 := 0
def PySem.W.Fast.tw86392982914305444 := 0
def PySem.W.Fast.tw2290957106235099145 := 0
def PySem.W.Fast.tw10694184394364040056 := 0
def PySem.W.Fast.tw4169371045087352300 := 0
def PySem.W.Fast.tw13187183778592625990 := 0
def PySem.W.Fast.tw6145564765745233108 := 0
def PySem.W.Fast.tw2791789165124997547 := 0
def PySem.W.Fast.tw8136815323462854385 := 0
def PySem.W.Fast.tw11168052394484702177 := 0
def PySem.W.Fast.tw2096965575416317059 := 0
def PySem.W.Fast.tw2737325303262605651 := 0
def PySem.W.Fast.tw1050489404387772643 := 0
def PySem.W.Fast.tw11080561877862662899 := 0
def PySem.W.Fast.tw10269271277276259270 := 0
def PySem.W.Fast.tw8605622757749569176 := 0
def PySem.W.Fast.tw8863516836643737924 := 0
def PySem.W.Fast.tw4378563659682258055 := 0
def PySem.W.Fast.tw7207361350360160762 := 0
def PySem.W.Fast.tw13072854685281498964 := 0
def PySem.W.Fast.tw12537645986733892715 := 0
def PySem.W.Fast.tw8015877420595784413 := 0
def PySem.W.Fast.tw16260350158102531655 := 0
def PySem.W.Fast.tw5834135513139177587 := 0
def PySem.W.Fast.tw16183075204905935961 := 0
def PySem.W.Fast.tw3744856031298556678 := 0
def PySem.W.Fast.tw12926896449834536415 := 0
def PySem.W.Fast.tw106795967078802472 := 0
def PySem.W.Fast.tw13131041124333002316 := 0
def PySem.W.Fast.tw5571224981124200047 := 0
def PySem.W.Fast.tw12426081275892895423 := 0
def PySem.W.Fast.tw3135158569079811224 := 0
def PySem.W.Fast.tw10075662742187099622 := 0
def PySem.W.Fast.tw16256448706529016790 := 0
def PySem.W.Fast.tw5597904154583370842 := 0
def PySem.W.Fast.tw11283530708218410762 := 0
def PySem.W.Fast.tw8291524605019747687 := 0
def PySem.W.Fast.tw7922191548807787386 := 0
def PySem.W.Fast.tw14910666352989774631 := 0
def PySem.W.Fast.tw4810816444136152939 := 0
def PySem.W.Fast.tw672340033788627448 := 0
def PySem.W.Fast.tw1984866740034727321 := 0
def PySem.W.Fast.tw7266331012771497457 := 0
def PySem.W.Fast.tw12546988053433035104 := 0
def PySem.W.Fast.tw13171141121009186217 := 0
def PySem.W.Fast.tw4767557214910785526 := 0
def PySem.W.Fast.tw14800474580629202199 := 0
def PySem.W.Fast.tw16378462741644047859 := 0
def PySem.W.Fast.tw1613583816426819717 := 0
def PySem.W.Fast.tw17226722916741351149 := 0
def PySem.W.Fast.tw13005639535986036582 := 0
def PySem.W.Fast.tw6249602938900715578 := 0
def PySem.W.Fast.tw16088550934729755664 := 0
def PySem.W.Fast.tw3658274931004097825 := 0
def PySem.W.Fast.tw852414577813781957 := 0
def PySem.W.Fast.tw2077865735869235067 := 0
def PySem.W.Fast.tw5060041413641661689 := 0
def PySem.W.Fast.tw4703867404811670782 := 0
def PySem.W.Fast.tw17433629042913321730 := 0
def PySem.W.Fast.tw18335985954934966697 := 0
def PySem.W.Fast.tw2789275731803034247 := 0
def PySem.W.Fast.tw8024867902168846996 := 0
def PySem.W.Fast.tw2457871452152305374 := 0
def PySem.W.Fast.tw18253287204576734709 := 0
def PySem.W.Fast.tw16997544606550091048 := 0
def PySem.W.Fast.tw10281409953232187676 := 0
def PySem.W.Fast.tw7976176314562893709 := 0
def PySem.W.Fast.tw6410546515009948985 := 0
def PySem.W.Fast.tw15905499736208523269 := 0
def PySem.W.Fast.tw17476140927469820840 := 0
def PySem.W.Fast.tw16069494529811375887 := 0
def PySem.W.Fast.tw690112002215031825 := 0
def PySem.W.Fast.tw10086660482970118278 := 0
def PySem.W.Fast.tw6594765330409220092 := 0
def PySem.W.Fast.tw11997667039911495697 := 0
def PySem.W.Fast.tw5377728544459270362 := 0
def PySem.W.Fast.tw18346821246133445699 := 0
def PySem.W.Fast.tw9011724859799658011 := 0
def PySem.W.Fast.tw8752489028996605359 := 0
def PySem.W.Fast.tw7696890287698197764 := 0
def PySem.W.Fast.tw8337133233845068230 := 0
def PySem.W.Fast.tw476016381878171595 := 0
def PySem.W.Fast.tw5002414602784940519 := 0
def PySem.W.Fast.tw215321898400463093 := 0
def PySem.W.Fast.tw6920665700440165593 := 0
def PySem.W.Fast.tw17606027789342663169 := 0
def PySem.W.Fast.tw18125570653905102347 := 0
def PySem.W.Fast.tw11314581970886167123 := 0
def PySem.W.Fast.tw13545730943387654567 := 0
def PySem.W.Fast.tw8675520074551577229 := 0
def PySem.W.Fast.tw7953708780750656205 := 0
def PySem.W.Fast.tw5180927542583861742 := 0
def PySem.W.Fast.tw12667966564010983624 := 0
def PySem.W.Fast.tw10213748435763606594 := 0
def PySem.W.Fast.tw15229830174516982963 := 0
def PySem.W.Fast.tw12890224732357490702 := 0
def PySem.W.Fast.tw5260442662509618249 := 0
def PySem.W.Fast.tw11430075757116618067 := 0
def PySem.W.Fast.tw8571189620975682953 := 0
def PySem.W.Fast.tw11927638603124683311 := 0
def PySem.W.Fast.tw16841672794396119215 := 0
def PySem.W.Fast.tw3849691266844654127 := 0
def PySem.W.Fast.tw7431558709873652946 := 0
def PySem.W.Fast.tw838733115966360819 := 0
def PySem.W.Fast.tw3195083349732209054 := 0
def PySem.W.Fast.tw2639790242030641324 := 0
def PySem.W.Fast.tw3817828610012336990 := 0
def PySem.W.Fast.tw4365313814240067844 := 0
def PySem.W.Fast.tw1857372542177878132 := 0
def PySem.W.Fast.tw17471015222206527896 := 0
def PySem.W.Fast.tw12939528934804950205 := 0
def PySem.W.Fast.tw6958488954704383528 := 0
def PySem.W.Fast.tw565296583306908245 := 0
def PySem.W.Fast.tw10385751148486642900 := 0
def PySem.W.Fast.tw12869773488962639344 := 0
def PySem.W.Fast.tw7413843032875830873 := 0
def PySem.W.Fast.tw15329280398300607159 := 0
def PySem.W.Fast.tw3567253798956898828 := 0
def PySem.W.Fast.tw1750996240905513608 := 0
def PySem.W.Fast.tw1640868975820887702 := 0
def PySem.W.Fast.tw10947013779063350479 := 0
def PySem.W.Fast.tw9606381776711541926 := 0
def PySem.W.Fast.tw17677431234228127015 := 0
def PySem.W.Fast.tw14366244761513030210 := 0
def PySem.W.Fast.tw6452244073291798034 := 0
def PySem.W.Fast.tw14418294312819429472 := 0
def PySem.W.Fast.tw2457222396594247144 := 0
def PySem.W.Fast.tw3937111659336753061 := 0
def PySem.W.Fast.tw18214539536357048330 := 0
def PySem.W.Fast.tw15380088538816491039 := 0
def PySem.W.Fast.tw991680772130298075 := 0
def PySem.W.Fast.tw9690465313475156819 := 0
def PySem.W.Fast.tw5224224746476616 := 0
def PySem.W.Fast.tw4445949651873167161 := 0
def PySem.W.Fast.tw1664742615537393242 := 0
def PySem.W.Fast.tw15209461368940611309 := 0
def PySem.W.Fast.tw18169387138020999816 := 0
def PySem.W.Fast.tw492848230605656731 := 0
def PySem.W.Fast.tw2683605418840570206 := 0
def PySem.W.Fast.tw12501570488778790181 := 0
def PySem.W.Fast.tw14152644333835042938 := 0
def PySem.W.Fast.tw8992910352396843989 := 0
def PySem.W.Fast.tw4941609775812325508 := 0
def PySem.W.Fast.tw7582984856915896097 := 0
def PySem.W.Fast.tw15063846606690362585 := 0
def PySem.W.Fast.tw17475635389625302891 := 0
def PySem.W.Fast.tw1570194152461525459 := 0
def PySem.W.Fast.tw7951397414464305551 := 0
def PySem.W.Fast.tw7769157041893113543 := 0
def PySem.W.Fast.tw16866638588139007292 := 0
def PySem.W.Fast.tw7401891619040930591 := 0
def PySem.W.Fast.tw16939212659729489814 := 0
def PySem.W.Fast.tw6291132792446441255 := 0
def PySem.W.Fast.tw7918444818332881420 := 0
def PySem.W.Fast.tw5926877902830171530 := 0
def PySem.W.Fast.tw15129372158410086359 := 0
def PySem.W.Fast.tw6539461801601697866 := 0
def PySem.W.Fast.tw16068056393126542777 := 0
def PySem.W.Fast.tw10926841678826090044 := 0
def PySem.W.Fast.tw17697901593900592773 := 0
def PySem.W.Fast.tw6455184300524481773 := 0
def PySem.W.Fast.tw8345033777792894888 := 0
def PySem.W.Fast.tw6922874364303666464 := 0
def PySem.W.Fast.tw9139864564124595475 := 0
def PySem.W.Fast.tw15131923762050612787 := 0
def PySem.W.Fast.tw4415856845022846648 := 0
def PySem.W.Fast.tw11876327757276408673 := 0
def PySem.W.Fast.tw11987248515643944575 := 0
def PySem.W.Fast.tw17830187409026779011 := 0
def PySem.W.Fast.tw11821254531993330857 := 0
def PySem.W.Fast.tw6449186953817368393 := 0
def PySem.W.Fast.tw11035142532883750417 := 0
def PySem.W.Fast.tw2153096449972692909 := 0
def PySem.W.Fast.tw8119885530696271308 := 0
def PySem.W.Fast.tw877716744140205939 := 0
def PySem.W.Fast.tw9639680150521923755 := 0
def PySem.W.Fast.tw103369768818831642 := 0
def PySem.W.Fast.tw16256056707439810361 := 0
def PySem.W.Fast.tw13284061919892345626 := 0
def PySem.W.Fast.tw4535670199162576984 := 0
def PySem.W.Fast.tw9599426500981861721 := 0
def PySem.W.Fast.tw13728565593078991192 := 0
def PySem.W.Fast.tw15908983940737904878 := 0
def PySem.W.Fast.tw7442480877208363826 := 0
def PySem.W.Fast.tw6307472510262310877 := 0
def PySem.W.Fast.tw9786644495068425149 := 0
def PySem.W.Fast.tw2193604979233726131 := 0
def PySem.W.Fast.tw8530094213726623191 := 0
def PySem.W.Fast.tw5585527781921672210 := 0
def PySem.W.Fast.tw1366146249702667314 := 0
def PySem.W.Fast.tw12582205415998038308 := 0
def PySem.W.Fast.tw7515115382696805346 := 0
def PySem.W.Fast.tw7516840907069149970 := 0
def PySem.W.Fast.tw14333557147543925469 := 0
def PySem.W.Fast.tw4651329765189465699 := 0
def PySem.W.Fast.tw9270394394996296074 := 0
def PySem.W.Fast.tw9138639500654460988 := 0
def PySem.W.Fast.tw8321048767313437624 := 0
def PySem.W.Fast.tw15948653429916691287 := 0
def PySem.W.Fast.tw8189112977099572110 := 0
def PySem.W.Fast.tw6719628578073873436 := 0
def PySem.W.Fast.tw15158946485313336390 := 0
def PySem.W.Fast.tw5478785884026453085 := 0
def PySem.W.Fast.tw5577754629294537586 := 0
def PySem.W.Fast.tw10547453833646414447 := 0
def PySem.W.Fast.tw11762156851210634382 := 0
def PySem.W.Fast.tw2926434377795166760 := 0
def PySem.W.Fast.tw8242592134081871312 := 0
def PySem.W.Fast.tw8069686246111381927 := 0
def PySem.W.Fast.tw16429934063177578434 := 0
def PySem.W.Fast.tw4139554051341415069 := 0
def PySem.W.Fast.tw15396090041530961193 := 0
def PySem.W.Fast.tw5626912202364731938 := 0
def PySem.W.Fast.tw17221665820547073385 := 0
def PySem.W.Fast.tw17965259408602051740 := 0
def PySem.W.Fast.tw11173039221045882261 := 0
def PySem.W.Fast.tw13163791483960834555 := 0
def PySem.W.Fast.tw14584411760449319954 := 0
def PySem.W.Fast.tw1161296700161813891 := 0
def PySem.W.Fast.tw4235724631378176116 := 0
def PySem.W.Fast.tw4875474289525338465 := 0
def PySem.W.Fast.tw17677192633700478547 := 0
def PySem.W.Fast.tw13745365634948782636 := 0
def PySem.W.Fast.tw14730711711711989180 := 0
def PySem.W.Fast.tw556922561903505619 := 0
def PySem.W.Fast.tw1618529916033380173 := 0
def PySem.W.Fast.tw6324995947700119019 := 0
def PySem.W.Fast.tw13952415736415870624 := 0
def PySem.W.Fast.tw1081174723644448248 := 0
def PySem.W.Fast.tw13151977251453677767 := 0
def PySem.W.Fast.tw9096754484441059429 := 0
def PySem.W.Fast.tw5524940627880939199 := 0
def PySem.W.Fast.tw127604302067857577 := 0
def PySem.W.Fast.tw5768273497997008741 := 0
def PySem.W.Fast.tw6061271583916245303 := 0
def PySem.W.Fast.tw17021880305593598526 := 0
def PySem.W.Fast.tw8068677623539631675 := 0
def PySem.W.Fast.tw7074642869564286592 := 0
def PySem.W.Fast.tw17106142582761684065 := 0
def PySem.W.Fast.tw8954578521222703735 := 0
def PySem.W.Fast.tw552598661300893161 := 0
def PySem.W.Fast.tw2008760877466406142 := 0
def PySem.W.Fast.tw14442816547873803610 := 0
def PySem.W.Fast.tw9387635160464308746 := 0
def PySem.W.Fast.tw13741597602316711117 := 0
def PySem.W.Fast.tw14468313064964238393 := 0
def PySem.W.Fast.tw15804730649612419248 := 0
def PySem.W.Fast.tw7679055028726911982 := 0
def PySem.W.Fast.tw13705388986707958123 := 0
def PySem.W.Fast.tw2950804343985815980 := 0
def PySem.W.Fast.tw8120329652202675120 := 0
def PySem.W.Fast.tw5185478664690876809 := 0
def PySem.W.Fast.tw11073709043699553917 := 0
def PySem.W.Fast.tw12685702880476134681 := 0
def PySem.W.Fast.tw17266895438320371275 := 0
def PySem.W.Fast.tw5726331875800943598 := 0
def PySem.W.Fast.tw4970391465519756098 := 0
def PySem.W.Fast.tw11139289471351019991 := 0
def PySem.W.Fast.tw17642039682955259244 := 0
def PySem.W.Fast.tw12713261755848566566 := 0
def PySem.W.Fast.tw16491083167598581342 := 0
def PySem.W.Fast.tw11921065467943247750 := 0
def PySem.W.Fast.tw14119421923574908696 := 0
def PySem.W.Fast.tw5457490983016769311 := 0
def PySem.W.Fast.tw2040978027913299035 := 0
def PySem.W.Fast.tw4155445040523396394 := 0
def PySem.W.Fast.tw3056793826276293218 := 0
def PySem.W.Fast.tw16479979050034163161 := 0
def PySem.W.Fast.tw15505486569878000192 := 0
def PySem.W.Fast.tw12949348782760281100 := 0
def PySem.W.Fast.tw7078386930036830064 := 0
def PySem.W.Fast.tw8449108226130130779 := 0
def PySem.W.Fast.tw153198395904616511 := 0
def PySem.W.Fast.tw16100205454574832662 := 0
def PySem.W.Fast.tw16973817041437944565 := 0
def PySem.W.Fast.tw1197257919572485748 := 0
def PySem.W.Fast.tw14874190986066651563 := 0
def PySem.W.Fast.tw14457336379965113020 := 0
def PySem.W.Fast.tw17554412487136742249 := 0
def PySem.W.Fast.tw3633184335225556569 := 0
def PySem.W.Fast.tw12431480306554152137 := 0
def PySem.W.Fast.tw9188185281497850078 := 0
def PySem.W.Fast.tw3797081851708827951 := 0
def PySem.W.Fast.tw7126041035517178956 := 0
def PySem.W.Fast.tw8196705665078471118 := 0
def PySem.W.Fast.tw8228384362949970863 := 0
def PySem.W.Fast.tw15740990891414924544 := 0
def PySem.W.Fast.tw9212997328590691885 := 0
def PySem.W.Fast.tw5254294652081260094 := 0
def PySem.W.Fast.tw17036920306790679540 := 0
def PySem.W.Fast.tw16527128771457933740 := 0
def PySem.W.Fast.tw11368456198651410084 := 0
def PySem.W.Fast.tw152392947550288366 := 0
def PySem.W.Fast.tw4362438524550821311 := 0
def PySem.W.Fast.tw9407138418591857557 := 0
def PySem.W.Fast.tw2134867197299685947 := 0
def PySem.W.Fast.tw7358294179124546817 := 0
def PySem.W.Fast.tw1214471735414374316 := 0
def PySem.W.Fast.tw1442902034018698225 := 0
def PySem.W.Fast.tw5533584051924540460 := 0
def PySem.W.Fast.tw17095683689501905056 := 0
def PySem.W.Fast.tw8355196773624716890 := 0
def PySem.W.Fast.tw18048189799699083613 := 0
def PySem.W.Fast.tw2613728942011890630 := 0
def PySem.W.Fast.tw2600667008514385057 := 0
def PySem.W.Fast.tw3552674769071451770 := 0
def PySem.W.Fast.tw3846824967928394221 := 0
def PySem.W.Fast.tw7660029469344405356 := 0
def PySem.W.Fast.tw2383164934491040503 := 0
def PySem.W.Fast.tw15428477363855730782 := 0
def PySem.W.Fast.tw377810625751377682 := 0
def PySem.W.Fast.tw16376798673369736415 := 0
def PySem.W.Fast.tw9525300764902975180 := 0
def PySem.W.Fast.tw1787481923172299717 := 0
def PySem.W.Fast.tw10288806411397847102 := 0
def PySem.W.Fast.tw3337831130302140941 := 0
def PySem.W.Fast.tw12865184310894913165 := 0
def PySem.W.Fast.tw3873726568734528298 := 0
def PySem.W.Fast.tw2335481736027619254 := 0
def PySem.W.Fast.tw9103192026945215843 := 0
def PySem.W.Fast.tw12265976854223136649 := 0
def PySem.W.Fast.tw17225394283755209527 := 0
def PySem.W.Fast.tw8539909332096830614 := 0
def PySem.W.Fast.tw5643703910226250002 := 0
def PySem.W.Fast.tw7594924335107508202 := 0
def PySem.W.Fast.tw5071272494786460202 := 0
def PySem.W.Fast.tw14457889480076899455 := 0
def PySem.W.Fast.tw7123391917977913986 := 0
def PySem.W.Fast.tw3515972586505443668 := 0
def PySem.W.Fast.tw12161067169882333533 := 0
def PySem.W.Fast.tw5031428370221144204 := 0
def PySem.W.Fast.tw17827674969126006376 := 0
def PySem.W.Fast.tw12351023644048098850 := 0
def PySem.W.Fast.tw1986009179589528395 := 0
def PySem.W.Fast.tw1576575012100899619 := 0
def PySem.W.Fast.tw1924890750527947617 := 0
def PySem.W.Fast.tw3489263556131882621 := 0
def PySem.W.Fast.tw12561985638278009806 := 0
def PySem.W.Fast.tw3247350525980492026 := 0
def PySem.W.Fast.tw2068195753353242491 := 0
def PySem.W.Fast.tw12768377952018974351 := 0
def PySem.W.Fast.tw8350663945496161120 := 0
def PySem.W.Fast.tw15990708936042135449 := 0
def PySem.W.Fast.tw11512317725353639256 := 0
def PySem.W.Fast.tw7380270283807622074 := 0
def PySem.W.Fast.tw11623276611564311407 := 0
def PySem.W.Fast.tw13743354678988927030 := 0
def PySem.W.Fast.tw9138496960176758636 := 0
def PySem.W.Fast.tw14520984855676232723 := 0
def PySem.W.Fast.tw8200705464858530743 := 0
def PySem.W.Fast.tw6110205538265696344 := 0
def PySem.W.Fast.tw15611974905053743493 := 0
def PySem.W.Fast.tw2112627620643988111 := 0
def PySem.W.Fast.tw409533086113298258 := 0
def PySem.W.Fast.tw1270056266444139961 := 0
def PySem.W.Fast.tw13011628293696779295 := 0
def PySem.W.Fast.tw15719649434928667194 := 0
def PySem.W.Fast.tw17360696738557826320 := 0
def PySem.W.Fast.tw9488302423429836790 := 0
def PySem.W.Fast.tw3696383920655666073 := 0
def PySem.W.Fast.tw8186375900479800402 := 0
def PySem.W.Fast.tw1135478474246174011 := 0
def PySem.W.Fast.tw6520842508801140866 := 0
def PySem.W.Fast.tw14344314056812238559 := 0
def PySem.W.Fast.tw6204544446119443912 := 0
def PySem.W.Fast.tw12792127649112990490 := 0
def PySem.W.Fast.tw14879342258504234155 := 0
def PySem.W.Fast.tw12244368896909310717 := 0
def PySem.W.Fast.tw5626160822903459271 := 0
def PySem.W.Fast.tw17385957242168259939 := 0
def PySem.W.Fast.tw17118903773020362637 := 0
def PySem.W.Fast.tw7640998348416414167 := 0
def PySem.W.Fast.tw13846733533389071700 := 0
def PySem.W.Fast.tw17521872352146366838 := 0
def PySem.W.Fast.tw12012054655347476045 := 0
def PySem.W.Fast.tw12970039428709318827 := 0
def PySem.W.Fast.tw2222918719121744039 := 0
def PySem.W.Fast.tw7598949719652281524 := 0
def PySem.W.Fast.tw3089000869145360663 := 0
def PySem.W.Fast.tw534602542343745695 := 0
def PySem.W.Fast.tw3664193114202362952 := 0
def PySem.W.Fast.tw6182201680726919149 := 0
def PySem.W.Fast.tw720177682280552401 := 0
def PySem.W.Fast.tw17248171528326507366 := 0
def PySem.W.Fast.tw6721405527196385468 := 0
def PySem.W.Fast.tw12555061477739813096 := 0
def PySem.W.Fast.tw18179910120675042510 := 0
def PySem.W.Fast.tw5851017616118167639 := 0
def PySem.W.Fast.tw60484180044113430 := 0
def PySem.W.Fast.tw6971070035863929320 := 0
def PySem.W.Fast.tw12114097282872997850 := 0
def PySem.W.Fast.tw8971106313866601787 := 0
def PySem.W.Fast.tw11018730661791818060 := 0
def PySem.W.Fast.tw9173756941394968191 := 0
def PySem.W.Fast.tw8009635006425228400 := 0
def PySem.W.Fast.tw14330279135414741192 := 0
def PySem.W.Fast.tw11950182684399853154 := 0
def PySem.W.Fast.tw15888081755118916726 := 0
def PySem.W.Fast.tw9198921564669402299 := 0
def PySem.W.Fast.tw7775065753909336952 := 0
def PySem.W.Fast.tw2568758930804837735 := 0
def PySem.W.Fast.tw5927384822100970400 := 0
def PySem.W.Fast.tw12473919613744986224 := 0
def PySem.W.Fast.tw11357877250169841609 := 0
def PySem.W.Fast.tw8460103978933794863 := 0
def PySem.W.Fast.tw14132317172984890585 := 0
def PySem.W.Fast.tw5353952011013289000 := 0
def PySem.W.Fast.tw7965702860011370103 := 0
def PySem.W.Fast.tw4406427087662935222 := 0
def PySem.W.Fast.tw1508005871067727309 := 0
def PySem.W.Fast.tw5203355428064628277 := 0
def PySem.W.Fast.tw15715508094844145526 := 0
def PySem.W.Fast.tw7649355399960448605 := 0
def PySem.W.Fast.tw2510489748606034161 := 0
def PySem.W.Fast.tw17741757349072433399 := 0
def PySem.W.Fast.tw18304522344069080439 := 0
def PySem.W.Fast.tw11099528778523294719 := 0
def PySem.W.Fast.tw14496239626002568849 := 0
def PySem.W.Fast.tw12928455988453823547 := 0
def PySem.W.Fast.tw9815935071088605141 := 0
def PySem.W.Fast.tw17939405541978125819 := 0
def PySem.W.Fast.tw5472466481125969520 := 0
def PySem.W.Fast.tw15390940082523230513 := 0
def PySem.W.Fast.tw9842037836377273603 := 0
def PySem.W.Fast.tw7621427504614390122 := 0
def PySem.W.Fast.tw7858635740146729456 := 0
def PySem.W.Fast.tw9374477923326754268 := 0
def PySem.W.Fast.tw10474759843450341193 := 0
def PySem.W.Fast.tw5635902203210188488 := 0
def PySem.W.Fast.tw18312533883310611690 := 0
def PySem.W.Fast.tw18038539436490389359 := 0
def PySem.W.Fast.tw1443607003942103469 := 0
def PySem.W.Fast.tw14407656555175777612 := 0
def PySem.W.Fast.tw17405663326755063591 := 0
def PySem.W.Fast.tw1664887650656355836 := 0
def PySem.W.Fast.tw15165786309664205448 := 0
def PySem.W.Fast.tw15388581128588442055 := 0
def PySem.W.Fast.tw3700236617613612477 := 0
def PySem.W.Fast.tw9141383787722301984 := 0
def PySem.W.Fast.tw370714573325692892 := 0
def PySem.W.Fast.tw3433087509064612552 := 0
def PySem.W.Fast.tw4050537731873178011 := 0
def PySem.W.Fast.tw18371948871284142031 := 0
def PySem.W.Fast.tw17773078529604663646 := 0
def PySem.W.Fast.tw4252135011726939504 := 0
def PySem.W.Fast.tw5382473374520027594 := 0
def PySem.W.Fast.tw13869248472923728246 := 0
def PySem.W.Fast.tw17468740073572537927 := 0
def PySem.W.Fast.tw4152683044564741198 := 0
def PySem.W.Fast.tw8348390883737331990 := 0
def PySem.W.Fast.tw5795107033835726149 := 0
def PySem.W.Fast.tw5810865985546517716 := 0
def PySem.W.Fast.tw4539281217567618295 := 0
def PySem.W.Fast.tw3938724204155406955 := 0
def PySem.W.Fast.tw10027382413389461136 := 0
def PySem.W.Fast.tw17358410034790110611 := 0
def PySem.W.Fast.tw4446958952546586749 := 0
def PySem.W.Fast.tw25346930189674590 := 0
def PySem.W.Fast.tw13355290319578743407 := 0
def PySem.W.Fast.tw8510910797216963656 := 0
def PySem.W.Fast.tw11724734210989560978 := 0
def PySem.W.Fast.tw8411227452553317844 := 0
def PySem.W.Fast.tw15343483404554484378 := 0
def PySem.W.Fast.tw290156829410011797 := 0
def PySem.W.Fast.tw16040377264921464365 := 0
def PySem.W.Fast.tw13486665302790217766 := 0
def PySem.W.Fast.tw14056680088631526585 := 0
def PySem.W.Fast.tw9831280594230190212 := 0
def PySem.W.Fast.tw13451262473485142337 := 0
def PySem.W.Fast.tw1200595602490710115 := 0
def PySem.W.Fast.tw9920628380851249746 := 0
def PySem.W.Fast.tw6194766290267556660 := 0
def PySem.W.Fast.tw3855055433080873311 := 0
def PySem.W.Fast.tw14154971537015986354 := 0
def PySem.W.Fast.tw6069903925096475367 := 0
def PySem.W.Fast.tw10124417282896404878 := 0
def PySem.W.Fast.tw16517830280407684231 := 0
def PySem.W.Fast.tw13153001582220626264 := 0
def PySem.W.Fast.tw16804026525202617989 := 0
def PySem.W.Fast.tw11472730856104813202 := 0
def PySem.W.Fast.tw6681992372072231415 := 0
def PySem.W.Fast.tw4345854014914768096 := 0
def PySem.W.Fast.tw9853675104278649585 := 0
def PySem.W.Fast.tw15052569327898394633 := 0
def PySem.W.Fast.tw18272670212418269183 := 0
def PySem.W.Fast.tw16946919036070894480 := 0
def PySem.W.Fast.tw9010684230035313280 := 0
def PySem.W.Fast.tw1602358358557781142 := 0
def PySem.W.Fast.tw12309053618661279211 := 0
def PySem.W.Fast.tw4579080778163750315 := 0
def PySem.W.Fast.tw12226371645672257860 := 0
def PySem.W.Fast.tw11202191963620038201 := 0
def PySem.W.Fast.tw17836759264625253377 := 0
def PySem.W.Fast.tw1548032056588000544 := 0
def PySem.W.Fast.tw12820166501078829731 := 0
def PySem.W.Fast.tw12769874722030933502 := 0
def PySem.W.Fast.tw18087966045697194001 := 0
def PySem.W.Fast.tw10620689370891008224 := 0
def PySem.W.Fast.tw14905005104929282299 := 0
def PySem.W.Fast.tw13672361326038710680 := 0
def PySem.W.Fast.tw5601066079878903105 := 0
def PySem.W.Fast.tw11667832174192244643 := 0
def PySem.W.Fast.tw1220564416244504859 := 0
def PySem.W.Fast.tw17787028009261486816 := 0
def PySem.W.Fast.tw9583314466055468962 := 0
def PySem.W.Fast.tw7477828816009742781 := 0
def PySem.W.Fast.tw5586266459088824684 := 0
def PySem.W.Fast.tw6982158573637774703 := 0
def PySem.W.Fast.tw10313414135387655597 := 0
def PySem.W.Fast.tw6265496688922122353 := 0
def PySem.W.Fast.tw3085104239998443600 := 0
def PySem.W.Fast.tw13663512209380606993 := 0
def PySem.W.Fast.tw10533284187551354086 := 0
def PySem.W.Fast.tw8536337542785022647 := 0
def PySem.W.Fast.tw9979243039212787604 := 0
def PySem.W.Fast.tw6791862434521859476 := 0
def PySem.W.Fast.tw8204874567497862133 := 0
def PySem.W.Fast.tw6392387249677554382 := 0
def PySem.W.Fast.tw9613360979276415372 := 0
def PySem.W.Fast.tw1278448293320079043 := 0
def PySem.W.Fast.tw12834357171954190368 := 0
def PySem.W.Fast.tw14237203026111154607 := 0
def PySem.W.Fast.tw11384660542507996294 := 0
def PySem.W.Fast.tw9628052448936549401 := 0
def PySem.W.Fast.tw9704960684810645826 := 0
def PySem.W.Fast.tw8619567135908879114 := 0
def PySem.W.Fast.tw10550110774461059531 := 0
def PySem.W.Fast.tw9279160912501459113 := 0
def PySem.W.Fast.tw6392302391136551090 := 0
def PySem.W.Fast.tw804803322400040306 := 0
def PySem.W.Fast.tw7424701158026493776 := 0
def PySem.W.Fast.tw7098796205571934299 := 0
def PySem.W.Fast.tw17229868127073111829 := 0
def PySem.W.Fast.tw832837378201043402 := 0
def PySem.W.Fast.tw17952846868183863011 := 0
def PySem.W.Fast.tw8263220321680492433 := 0
def PySem.W.Fast.tw11149548580943798343 := 0
def PySem.W.Fast.tw5872799967362851171 := 0
def PySem.W.Fast.tw4593118885228655760 := 0
def PySem.W.Fast.tw16067135957081138214 := 0
def PySem.W.Fast.tw15479232275301964016 := 0
def PySem.W.Fast.tw11760904297438075827 := 0
def PySem.W.Fast.tw400360609730920789 := 0
def PySem.W.Fast.tw1911556377069555304 := 0
def PySem.W.Fast.tw8822459650891133135 := 0
def PySem.W.Fast.tw14476359363427335889 := 0
def PySem.W.Fast.tw2846996754055184428 := 0
def PySem.W.Fast.tw7131704352967792443 := 0
def PySem.W.Fast.tw15237436597983941978 := 0
def PySem.W.Fast.tw15414900643744260526 := 0
def PySem.W.Fast.tw2461923033850224956 := 0
def PySem.W.Fast.tw7924658927744663036 := 0
def PySem.W.Fast.tw5637743594250894783 := 0
def PySem.W.Fast.tw2039726641398686885 := 0
def PySem.W.Fast.tw13765267113782168816 := 0
def PySem.W.Fast.tw266509061734957741 := 0
def PySem.W.Fast.tw15533749496448728792 := 0
def PySem.W.Fast.tw2254756045467708696 := 0
def PySem.W.Fast.tw8975463738053156547 := 0
def PySem.W.Fast.tw12163854984559813179 := 0
def PySem.W.Fast.tw284013426942356170 := 0
def PySem.W.Fast.tw13284667280075287183 := 0
def PySem.W.Fast.tw8052778823943938215 := 0
def PySem.W.Fast.tw6611608964807463547 := 0
def PySem.W.Fast.tw13699261851580084097 := 0
def PySem.W.Fast.tw14360004762298741028 := 0
def PySem.W.Fast.tw2587071545874413627 := 0
def PySem.W.Fast.tw958344391726981793 := 0
def PySem.W.Fast.tw6826367980386971783 := 0
def PySem.W.Fast.tw1187787416705346333 := 0
def PySem.W.Fast.tw15943237387356444009 := 0
def PySem.W.Fast.tw16049780015843979664 := 0
def PySem.W.Fast.tw11303451767819067450 := 0
def PySem.W.Fast.tw18031925929896740729 := 0
def PySem.W.Fast.tw5885409664203708310 := 0
def PySem.W.Fast.tw3903088439888179431 := 0
def PySem.W.Fast.tw15280786138408325103 := 0
def PySem.W.Fast.tw14225878746400154027 := 0
def PySem.W.Fast.tw17134380554310360742 := 0
def PySem.W.Fast.tw14661572482610206249 := 0
def PySem.W.Fast.tw16404816394952432865 := 0
def PySem.W.Fast.tw14226142831592602697 := 0
def PySem.W.Fast.tw11291933066430401546 := 0
def PySem.W.Fast.tw16220664015686611794 := 0
def PySem.W.Fast.tw2825501696795181664 := 0
def PySem.W.Fast.tw14060100868864515503 := 0
def PySem.W.Fast.tw12137339712100918377 := 0
def PySem.W.Fast.tw2396751724103423685 := 0
def PySem.W.Fast.tw1317672407024217195 := 0
def PySem.W.Fast.tw11525089984678841459 := 0
def PySem.W.Fast.tw11177459113938646620 := 0
def PySem.W.Fast.tw8237564823540591921 := 0
def PySem.W.Fast.tw15756902156738087626 := 0
def PySem.W.Fast.tw821767917794083656 := 0
def PySem.W.Fast.tw1305575699357714997 := 0
def PySem.W.Fast.tw5098268512413816698 := 0
def PySem.W.Fast.tw14554536556086222227 := 0
def PySem.W.Fast.tw2367297369794925506 := 0
def PySem.W.Fast.tw10242719703813791644 := 0
def PySem.W.Fast.tw13019434273825010081 := 0
def PySem.W.Fast.tw15146478964463301965 := 0
def PySem.W.Fast.tw8761658882241718680 := 0
def PySem.W.Fast.tw10565249422780113673 := 0
def PySem.W.Fast.tw15159581558468295734 := 0
def PySem.W.Fast.tw8281266390216606639 := 0
def PySem.W.Fast.tw4922995395084087438 := 0
def PySem.W.Fast.tw1777509269224051364 := 0
def PySem.W.Fast.tw17938310566952339895 := 0
def PySem.W.Fast.tw11534340124718200424 := 0
def PySem.W.Fast.tw3345361670844447072 := 0
def PySem.W.Fast.tw782340155236902858 := 0
def PySem.W.Fast.tw2940667556986667479 := 0
def PySem.W.Fast.tw3779364767683350986 := 0
def PySem.W.Fast.tw3891381271375130930 := 0
def PySem.W.Fast.tw7969636824684871077 := 0
def PySem.W.Fast.tw6587859153409692696 := 0
def PySem.W.Fast.tw17552473779981563811 := 0
def PySem.W.Fast.tw9036894824079887643 := 0
def PySem.W.Fast.tw10519643325326122374 := 0
def PySem.W.Fast.tw9214516186203067564 := 0
def PySem.W.Fast.tw12640301739399439025 := 0
def PySem.W.Fast.tw10498132081740243004 := 0
def PySem.W.Fast.tw15469151204751753802 := 0
def PySem.W.Fast.tw17566114001443648209 := 0
def PySem.W.Fast.tw8661496262195462424 := 0
def PySem.W.Fast.tw468183828980467983 := 0
def PySem.W.Fast.tw8011612691339223251 := 0
def PySem.W.Fast.tw3205428651841341430 := 0
def PySem.W.Fast.tw2711899125281794499 := 0
def PySem.W.Fast.tw15627050045866281089 := 0
def PySem.W.Fast.tw6364198197438094749 := 0
def PySem.W.Fast.tw6326751787814906279 := 0
def PySem.W.Fast.tw99787404179026734 := 0
def PySem.W.Fast.tw193781135426513135 := 0
def PySem.W.Fast.tw821853438224787808 := 0
def PySem.W.Fast.tw1091443826471108431 := 0
def PySem.W.Fast.tw4038146189345189721 := 0
def PySem.W.Fast.tw5187244710555986826 := 0
def PySem.W.Fast.tw9426052632538566964 := 0
def PySem.W.Fast.tw6659911986514114005 := 0
def PySem.W.Fast.tw12259156273669326870 := 0
def PySem.W.Fast.tw6843126590950895165 := 0
def PySem.W.Fast.tw5684235503940414002 := 0
def PySem.W.Fast.tw16298900152283187542 := 0
def PySem.W.Fast.tw8603152737019441672 := 0
def PySem.W.Fast.tw1132260535908474238 := 0
def PySem.W.Fast.tw9479987947318944773 := 0
def PySem.W.Fast.tw2554639844171751668 := 0
def PySem.W.Fast.tw5054913902538920714 := 0
def PySem.W.Fast.tw12642775682275142521 := 0
def PySem.W.Fast.tw2475212719136958256 := 0
def PySem.W.Fast.tw7461849344405581305 := 0
def PySem.W.Fast.tw9458213271121090874 := 0
def PySem.W.Fast.tw9107042903911089447 := 0
def PySem.W.Fast.tw15120206408569343802 := 0
def PySem.W.Fast.tw5577422299921714925 := 0
def PySem.W.Fast.tw17695393820719182614 := 0
def PySem.W.Fast.tw18258144765967193541 := 0
def PySem.W.Fast.tw11956384518116084522 := 0
def PySem.W.Fast.tw4211638592517493880 := 0
def PySem.W.Fast.tw10831971409405337964 := 0
def PySem.W.Fast.tw5659788976923575099 := 0
def PySem.W.Fast.tw13612830559247755814 := 0
def PySem.W.Fast.tw14526772460946372553 := 0
def PySem.W.Fast.tw16833022958460490909 := 0
def PySem.W.Fast.tw1337786791004673881 := 0
def PySem.W.Fast.tw16187383259328917307 := 0
def PySem.W.Fast.tw5701993296019688206 := 0
def PySem.W.Fast.tw8251279395165204283 := 0
def PySem.W.Fast.tw5066645614473348632 := 0
def PySem.W.Fast.tw12381694520468843855 := 0
def PySem.W.Fast.tw12820357768733492554 := 0
def PySem.W.Fast.tw18419644063575893693 := 0
def PySem.W.Fast.tw5389631487326861881 := 0
def PySem.W.Fast.tw2381159609302780493 := 0
def PySem.W.Fast.tw6261383918404344996 := 0
def PySem.W.Fast.tw12935435610939878778 := 0
def PySem.W.Fast.tw16158073071252252055 := 0
def PySem.W.Fast.tw17735239909713773575 := 0
def PySem.W.Fast.tw1187429535144343461 := 0
def PySem.W.Fast.tw7408905226926620886 := 0
def PySem.W.Fast.tw15307165928093936500 := 0
def PySem.W.Fast.tw10603362789582814276 := 0
def PySem.W.Fast.tw18128483572233808762 := 0
def PySem.W.Fast.tw1481355225133164711 := 0
def PySem.W.Fast.tw13599507289300566391 := 0
def PySem.W.Fast.tw16525590112098165447 := 0
def PySem.W.Fast.tw16491040132767063988 := 0
def PySem.W.Fast.tw10863385400534840383 := 0
def PySem.W.Fast.tw5160519888860505683 := 0
def PySem.W.Fast.tw11118185760315030000 := 0
def PySem.W.Fast.tw2317967324601475426 := 0
def PySem.W.Fast.tw12871761242119944164 := 0
def PySem.W.Fast.tw11295132151633066697 := 0
def PySem.W.Fast.tw1707535501077461658 := 0
def PySem.W.Fast.tw14546076753305378863 := 0
def PySem.W.Fast.tw14709735576664839218 := 0
def PySem.W.Fast.tw5034615723137144464 := 0
def PySem.W.Fast.tw8626958575396429671 := 0
def PySem.W.Fast.tw10104543081152312087 := 0
def PySem.W.Fast.tw5269149551350689866 := 0
def PySem.W.Fast.tw9082036736101773729 := 0
def PySem.W.Fast.tw11766356801072799204 := 0
def PySem.W.Fast.tw15445448274273421058 := 0
def PySem.W.Fast.tw13528229714323849238 := 0
def PySem.W.Fast.tw239783759882700767 := 0
def PySem.W.Fast.tw11901094347446797727 := 0
def PySem.W.Fast.tw7262727747006707378 := 0
def PySem.W.Fast.tw13332859113402558196 := 0
def PySem.W.Fast.tw14099389507021068589 := 0
def PySem.W.Fast.tw15945131442631891949 := 0
def PySem.W.Fast.tw11957180125265019927 := 0
def PySem.W.Fast.tw8441324458167083776 := 0
def PySem.W.Fast.tw10281051607012415161 := 0
def PySem.W.Fast.tw13074010279911837811 := 0
def PySem.W.Fast.tw192547520495363849 := 0
def PySem.W.Fast.tw15566136289913588336 := 0
def PySem.W.Fast.tw8108602646665261749 := 0
def PySem.W.Fast.tw3236219712183826786 := 0
def PySem.W.Fast.tw18179924872108934172 := 0
def PySem.W.Fast.tw15253782753199028789 := 0
def PySem.W.Fast.tw2329530151423507918 := 0
def PySem.W.Fast.tw13488489266715248952 := 0
def PySem.W.Fast.tw11768557054251885304 := 0
def PySem.W.Fast.tw15426569172847065164 := 0
def PySem.W.Fast.tw7651979643071395895 := 0
def PySem.W.Fast.tw15033934705448300959 := 0
def PySem.W.Fast.tw9834562400953925120 := 0
def PySem.W.Fast.tw13342566696222361144 := 0
def PySem.W.Fast.tw12741668295135085137 := 0
def PySem.W.Fast.tw12681770967859010473 := 0
def PySem.W.Fast.tw17136384483407923787 := 0
def PySem.W.Fast.tw2159141770657519493 := 0
def PySem.W.Fast.tw12886249458078759073 := 0
def PySem.W.Fast.tw608508515965679869 := 0
def PySem.W.Fast.tw13213015638994486077 := 0
def PySem.W.Fast.tw16480334200328116209 := 0
def PySem.W.Fast.tw8283912487448810928 := 0
def PySem.W.Fast.tw13097173563880902878 := 0
def PySem.W.Fast.tw5816310617370295447 := 0
def PySem.W.Fast.tw551704959676195924 := 0
def PySem.W.Fast.tw2539296443248061151 := 0
def PySem.W.Fast.tw15596544232615207941 := 0
def PySem.W.Fast.tw11883825523709647388 := 0
def PySem.W.Fast.tw3490144770497410040 := 0
def PySem.W.Fast.tw17112012223582428843 := 0
def PySem.W.Fast.tw14048038424168695667 := 0
def PySem.W.Fast.tw12836265399421946107 := 0
def PySem.W.Fast.tw16314781795477705013 := 0
def PySem.W.Fast.tw7668453188367493840 := 0
def PySem.W.Fast.tw9624882092194228859 := 0
def PySem.W.Fast.tw3637697932141470085 := 0
def PySem.W.Fast.tw14127768884934193953 := 0
def PySem.W.Fast.tw12552169109192730137 := 0
def PySem.W.Fast.tw16248875248008204605 := 0
def PySem.W.Fast.tw17373086147203813652 := 0
def PySem.W.Fast.tw10731419834075722639 := 0
def PySem.W.Fast.tw13446800966652036829 := 0
def PySem.W.Fast.tw12354256574147435129 := 0
def PySem.W.Fast.tw2861494521720002668 := 0
def PySem.W.Fast.tw17964755800511958989 := 0
def PySem.W.Fast.tw2704463995936098027 := 0
def PySem.W.Fast.tw17469328171677363174 := 0
def PySem.W.Fast.tw14765234588764949557 := 0
def PySem.W.Fast.tw5481167789005409275 := 0
def PySem.W.Fast.tw2910450204863196358 := 0
def PySem.W.Fast.tw16328402392188653089 := 0
def PySem.W.Fast.tw9826399757641279606 := 0
def PySem.W.Fast.tw5851221511918285697 := 0
def PySem.W.Fast.tw8663276131549201682 := 0
def PySem.W.Fast.tw4695116395935797541 := 0
def PySem.W.Fast.tw8588193398242406752 := 0
def PySem.W.Fast.tw4179780687465032137 := 0
def PySem.W.Fast.tw5660774605976560562 := 0
def PySem.W.Fast.tw13587443160682819437 := 0
def PySem.W.Fast.tw8565055728477659708 := 0
def PySem.W.Fast.tw12549439269552831658 := 0
def PySem.W.Fast.tw13039305137794016732 := 0
def PySem.W.Fast.tw7204920326103617891 := 0
def PySem.W.Fast.tw6579316427543221919 := 0
def PySem.W.Fast.tw12654679095077170904 := 0
def PySem.W.Fast.tw10337242021394868760 := 0
def PySem.W.Fast.tw11115742338734102535 := 0
def PySem.W.Fast.tw2810233660350198950 := 0
def PySem.W.Fast.tw11323667903010655432 := 0
def PySem.W.Fast.tw11028676304674443809 := 0
def PySem.W.Fast.tw3730356235189576330 := 0
def PySem.W.Fast.tw14560751600830905087 := 0
def PySem.W.Fast.tw4133988161768083348 := 0
def PySem.W.Fast.tw10703723650369313121 := 0
def PySem.W.Fast.tw7773062582450410483 := 0
def PySem.W.Fast.tw8480767976523618459 := 0
def PySem.W.Fast.tw4039447890140951000 := 0
def PySem.W.Fast.tw1574546039581209158 := 0
def PySem.W.Fast.tw13647308741868254423 := 0
def PySem.W.Fast.tw5392126097770895053 := 0
def PySem.W.Fast.tw7691502800552627104 := 0
def PySem.W.Fast.tw2940515329594143202 := 0
def PySem.W.Fast.tw7697351776169670801 := 0
def PySem.W.Fast.tw1302885483040768933 := 0
def PySem.W.Fast.tw5169637522489119952 := 0
def PySem.W.Fast.tw9718469847375853845 := 0
def PySem.W.Fast.tw3143969331364187836 := 0
def PySem.W.Fast.tw14874328785992422870 := 0
def PySem.W.Fast.tw12242096749325981023 := 0
def PySem.W.Fast.tw7684520899054735331 := 0
def PySem.W.Fast.tw16066989082937387257 := 0
def PySem.W.Fast.tw7431425553299758045 := 0
def PySem.W.Fast.tw14907994644529968629 := 0
def PySem.W.Fast.tw11474302302087724934 := 0
def PySem.W.Fast.tw12501226798521641751 := 0
def PySem.W.Fast.tw4268573461209437174 := 0
def PySem.W.Fast.tw15692698139008402471 := 0
def PySem.W.Fast.tw14274492195090686569 := 0
def PySem.W.Fast.tw16968647579630118607 := 0
def PySem.W.Fast.tw7328991079614010936 := 0
def PySem.W.Fast.tw9940299242854117817 := 0
def PySem.W.Fast.tw12131280900050382339 := 0
def PySem.W.Fast.tw4084241583348514117 := 0
def PySem.W.Fast.tw3767987137196168336 := 0
def PySem.W.Fast.tw17116561978391437234 := 0
def PySem.W.Fast.tw15662023214005818597 := 0
def PySem.W.Fast.tw15561474269778857626 := 0
def PySem.W.Fast.tw2095535584200505596 := 0
def PySem.W.Fast.tw6581531213549301176 := 0
def PySem.W.Fast.tw6194012880857659839 := 0
def PySem.W.Fast.tw8784199388959050327 := 0
def PySem.W.Fast.tw4219200860786513504 := 0
def PySem.W.Fast.tw16325718942567655099 := 0
def PySem.W.Fast.tw11424844661858553759 := 0
def PySem.W.Fast.tw14827929908125770186 := 0
def PySem.W.Fast.tw4380654400286596024 := 0
def PySem.W.Fast.tw8271442688010132708 := 0
def PySem.W.Fast.tw9411117493105637176 := 0
def PySem.W.Fast.tw5746253039586008804 := 0
def PySem.W.Fast.tw18260393007377766016 := 0
def PySem.W.Fast.tw9803253921070932167 := 0
def PySem.W.Fast.tw18329023991014166531 := 0
def PySem.W.Fast.tw13819013912328600043 := 0
def PySem.W.Fast.tw15913921401729355856 := 0
def PySem.W.Fast.tw10454264639266077568 := 0
def PySem.W.Fast.tw8354972299603998720 := 0
def PySem.W.Fast.tw4626698633286704631 := 0
def PySem.W.Fast.tw5596809007768643970 := 0
def PySem.W.Fast.tw14283458537064260691 := 0
def PySem.W.Fast.tw8823973481205553050 := 0
def PySem.W.Fast.tw489313155721166767 := 0
def PySem.W.Fast.tw8476564458421547949 := 0
def PySem.W.Fast.tw16710220388942435075 := 0
def PySem.W.Fast.tw13773102680767393619 := 0
def PySem.W.Fast.tw6118689822939349444 := 0
def PySem.W.Fast.tw1905503885579131683 := 0
def PySem.W.Fast.tw8274400068121053296 := 0
def PySem.W.Fast.tw15802889945255745899 := 0
def PySem.W.Fast.tw2192784240996841142 := 0
def PySem.W.Fast.tw284792075537799262 := 0
def PySem.W.Fast.tw10546077067295976305 := 0
def PySem.W.Fast.tw16240539598041542183 := 0
def PySem.W.Fast.tw17404213623068134495 := 0
def PySem.W.Fast.tw18344998737134090403 := 0
def PySem.W.Fast.tw6799736102955623808 := 0
def PySem.W.Fast.tw10554495181816703753 := 0
def PySem.W.Fast.tw8637203777665108767 := 0
def PySem.W.Fast.tw783613863512796941 := 0
def PySem.W.Fast.tw10540656843136789774 := 0
def PySem.W.Fast.tw8543916679293388700 := 0
def PySem.W.Fast.tw13113976084442682222 := 0
def PySem.W.Fast.tw12645996279336349902 := 0
def PySem.W.Fast.tw2435211678759747143 := 0
def PySem.W.Fast.tw6352153080849571533 := 0
def PySem.W.Fast.tw4913755444447384114 := 0
def PySem.W.Fast.tw1340390960534985892 := 0
def PySem.W.Fast.tw18445315466419082174 := 0
def PySem.W.Fast.tw17120996115304226063 := 0
def PySem.W.Fast.tw10640869798270245825 := 0
def PySem.W.Fast.tw15717799491658359320 := 0
def PySem.W.Fast.tw363917148160397882 := 0
def PySem.W.Fast.tw4979791809455259060 := 0
def PySem.W.Fast.tw1337595070171062250 := 0
def PySem.W.Fast.tw12291954805485707587 := 0
def PySem.W.Fast.tw8088477493356263758 := 0
def PySem.W.Fast.tw15058942506294923682 := 0
def PySem.W.Fast.tw5691106220944870870 := 0
def PySem.W.Fast.tw10672889380629585525 := 0
def PySem.W.Fast.tw8719147923969305469 := 0
def PySem.W.Fast.tw9666298242013349503 := 0
def PySem.W.Fast.tw10929771741291832775 := 0
def PySem.W.Fast.tw13135690832655984398 := 0
def PySem.W.Fast.tw8324841457278149578 := 0
def PySem.W.Fast.tw13101321392865023229 := 0
def PySem.W.Fast.tw7434127183250010064 := 0
def PySem.W.Fast.tw5119265774031958412 := 0
def PySem.W.Fast.tw9221686666650507652 := 0
def PySem.W.Fast.tw18232318153735594094 := 0
def PySem.W.Fast.tw946437349691850406 := 0
def PySem.W.Fast.tw5488213676656345967 := 0
def PySem.W.Fast.tw10919000983413070349 := 0
def PySem.W.Fast.tw7158870481219228417 := 0
def PySem.W.Fast.tw634931334672857126 := 0
def PySem.W.Fast.tw11934306716003977377 := 0
def PySem.W.Fast.tw13592237204022800123 := 0
def PySem.W.Fast.tw8382203809004709697 := 0
def PySem.W.Fast.tw14746934856378681817 := 0
def PySem.W.Fast.tw538400449416089839 := 0
def PySem.W.Fast.tw401026246168085563 := 0
def PySem.W.Fast.tw14978168379323426482 := 0
def PySem.W.Fast.tw6546130958629402472 := 0
def PySem.W.Fast.tw12381895497794160253 := 0
def PySem.W.Fast.tw13498104332303968042 := 0
def PySem.W.Fast.tw7657326052946572721 := 0
def PySem.W.Fast.tw4455205956921766009 := 0
def PySem.W.Fast.tw7144488097851892566 := 0
def PySem.W.Fast.tw13387778255161119349 := 0
def PySem.W.Fast.tw10899380746483508171 := 0
def PySem.W.Fast.tw3021263905998345138 := 0
def PySem.W.Fast.tw1757487607756644187 := 0
def PySem.W.Fast.tw10156719562854635563 := 0
def PySem.W.Fast.tw12121552623421823103 := 0
def PySem.W.Fast.tw9824194801035226817 := 0
def PySem.W.Fast.tw3462860141134185728 := 0
def PySem.W.Fast.tw1522388431845692279 := 0
def PySem.W.Fast.tw8285813264422352568 := 0
def PySem.W.Fast.tw2900955055726327895 := 0
def PySem.W.Fast.tw2990460852202586086 := 0
def PySem.W.Fast.tw13873062368567325357 := 0
def PySem.W.Fast.tw12985732462749355126 := 0
def PySem.W.Fast.tw1222986523399401050 := 0
def PySem.W.Fast.tw17415994035130638568 := 0
def PySem.W.Fast.tw18099834326701099105 := 0
def PySem.W.Fast.tw11438037256739188007 := 0
def PySem.W.Fast.tw16493276596974198855 := 0
def PySem.W.Fast.tw15392943733550136094 := 0
def PySem.W.Fast.tw16193711100203151564 := 0
def PySem.W.Fast.tw14401393364385663976 := 0
def PySem.W.Fast.tw16928857583918679705 := 0
def PySem.W.Fast.tw15459788496316242630 := 0
def PySem.W.Fast.tw9546982774697329996 := 0
def PySem.W.Fast.tw2548173902764990033 := 0
def PySem.W.Fast.tw13920534863028233491 := 0
def PySem.W.Fast.tw17780319633871785438 := 0
def PySem.W.Fast.tw12461730747787138482 := 0
def PySem.W.Fast.tw12960219969408693550 := 0
def PySem.W.Fast.tw14944628062768532956 := 0
def PySem.W.Fast.tw9532088409750217904 := 0
def PySem.W.Fast.tw17668329565989647972 := 0
def PySem.W.Fast.tw3446759644788313615 := 0
def PySem.W.Fast.tw12318090179380265772 := 0
def PySem.W.Fast.tw14204241791685065985 := 0
def PySem.W.Fast.tw6405394970751164228 := 0
def PySem.W.Fast.tw12581101342865598616 := 0
def PySem.W.Fast.tw7431004998846849177 := 0
def PySem.W.Fast.tw15037854106719057030 := 0
def PySem.W.Fast.tw4722743234180643295 := 0
def PySem.W.Fast.tw4421338233968456368 := 0
def PySem.W.Fast.tw15273009477415514110 := 0
def PySem.W.Fast.tw8699952487779420514 := 0
def PySem.W.Fast.tw14399975045152826325 := 0
def PySem.W.Fast.tw14320731326675234386 := 0
def PySem.W.Fast.tw5959990545766324443 := 0
def PySem.W.Fast.tw1194810715276383224 := 0
def PySem.W.Fast.tw16947524709243835453 := 0
def PySem.W.Fast.tw11033085347657429573 := 0
def PySem.W.Fast.tw17985339259705343423 := 0
def PySem.W.Fast.tw2962921538258149683 := 0
def PySem.W.Fast.tw16839028669581678328 := 0
def PySem.W.Fast.tw17322798915321978210 := 0
def PySem.W.Fast.tw7171816072096349143 := 0
def PySem.W.Fast.tw14984317948250503664 := 0
def PySem.W.Fast.tw335735992241922019 := 0
def PySem.W.Fast.tw11173489469666881127 := 0
def PySem.W.Fast.tw13935055928783036592 := 0
def PySem.W.Fast.tw11140213570919366989 := 0
def PySem.W.Fast.tw2484130338689746890 := 0
def PySem.W.Fast.tw15162544920605237126 := 0
def PySem.W.Fast.tw16325277718385608988 := 0
def PySem.W.Fast.tw4270992183440654953 := 0
def PySem.W.Fast.tw12311516530059118712 := 0
def PySem.W.Fast.tw6931476590789033559 := 0
def PySem.W.Fast.tw9558834828089655495 := 0
def PySem.W.Fast.tw18334435957408161968 := 0
def PySem.W.Fast.tw17967575387309050866 := 0
def PySem.W.Fast.tw13443449584104001174 := 0
def PySem.W.Fast.tw13159487076773674987 := 0
def PySem.W.Fast.tw8057751876117538370 := 0
def PySem.W.Fast.tw9141325768605454974 := 0
def PySem.W.Fast.tw10485283309454849049 := 0
def PySem.W.Fast.tw11545675131176882000 := 0
def PySem.W.Fast.tw5180324728789356498 := 0
def PySem.W.Fast.tw10174390011522892650 := 0
def PySem.W.Fast.tw11496514078041165938 := 0
def PySem.W.Fast.tw5252671324270937657 := 0
def PySem.W.Fast.tw5854785997918300133 := 0
def PySem.W.Fast.tw6851778725333604735 := 0
def PySem.W.Fast.tw15286051410705856493 := 0
def PySem.W.Fast.tw706846672582286699 := 0
def PySem.W.Fast.tw6524903930915849078 := 0
def PySem.W.Fast.tw3613746620621679354 := 0
def PySem.W.Fast.tw14299740030477814661 := 0
def PySem.W.Fast.tw11737054415966570322 := 0
def PySem.W.Fast.tw12995560621297440451 := 0
def PySem.W.Fast.tw5915659429234377250 := 0
def PySem.W.Fast.tw978559536364810692 := 0
def PySem.W.Fast.tw17239193826283455786 := 0
def PySem.W.Fast.tw4069129649012289338 := 0
def PySem.W.Fast.tw17989215968793601937 := 0
def PySem.W.Fast.tw15894302788495805215 := 0
def PySem.W.Fast.tw15218915948455621153 := 0
def PySem.W.Fast.tw8633044491482014136 := 0
def PySem.W.Fast.tw1217977539751305006 := 0
def PySem.W.Fast.tw11660129597647725287 := 0
def PySem.W.Fast.tw14642624667418863147 := 0
def PySem.W.Fast.tw5988044521715349590 := 0
def PySem.W.Fast.tw14721213045601126224 := 0
def PySem.W.Fast.tw11531242206657849589 := 0
def PySem.W.Fast.tw12167937789764043740 := 0
def PySem.W.Fast.tw16457570403560272102 := 0
def PySem.W.Fast.tw12004126203140280817 := 0
def PySem.W.Fast.tw2562655187776342980 := 0
def PySem.W.Fast.tw16469174530834885208 := 0
def PySem.W.Fast.tw10283340118970288102 := 0
def PySem.W.Fast.tw11905054983898585561 := 0
def PySem.W.Fast.tw8351509507674759149 := 0
def PySem.W.Fast.tw11321803387807121115 := 0
def PySem.W.Fast.tw3030012672208557626 := 0
def PySem.W.Fast.tw18166873151553342009 := 0
def PySem.W.Fast.tw13274512239897346488 := 0
def PySem.W.Fast.tw18127823204810105447 := 0
def PySem.W.Fast.tw2970930057423211427 := 0
def PySem.W.Fast.tw4667344910249798888 := 0
def PySem.W.Fast.tw18093206538171438260 := 0
def PySem.W.Fast.tw2817274414390369529 := 0
def PySem.W.Fast.tw13304967043335954272 := 0
def PySem.W.Fast.tw1783921368831274157 := 0
def PySem.W.Fast.tw10017564221649020733 := 0
def PySem.W.Fast.tw13374625987924208262 := 0
def PySem.W.Fast.tw2493119507198891748 := 0
def PySem.W.Fast.tw6779327722935753228 := 0
def PySem.W.Fast.tw3749202049913088677 := 0
def PySem.W.Fast.tw7365431356762861079 := 0
def PySem.W.Fast.tw12334784512862252006 := 0
def PySem.W.Fast.tw14114779899178834732 := 0
def PySem.W.Fast.tw12389406158659638033 := 0
def PySem.W.Fast.tw7955107925809062372 := 0
def PySem.W.Fast.tw11675944783302879834 := 0
def PySem.W.Fast.tw5049810378719225826 := 0
def PySem.W.Fast.tw1452344220202219772 := 0
def PySem.W.Fast.tw8625751382324250311 := 0
def PySem.W.Fast.tw17439336607626339909 := 0
def PySem.W.Fast.tw15833733889517650366 := 0
def PySem.W.Fast.tw13912166138460771645 := 0
def PySem.W.Fast.tw7285479945951031314 := 0
def PySem.W.Fast.tw10944886980463616440 := 0
def PySem.W.Fast.tw4823794074669224482 := 0
def PySem.W.Fast.tw5612117272282868131 := 0
def PySem.W.Fast.tw5236256607727282995 := 0
def PySem.W.Fast.tw17291154072981073740 := 0
def PySem.W.Fast.tw7594772742577713180 := 0
def PySem.W.Fast.tw5860710554700757632 := 0
def PySem.W.Fast.tw14936547245832374760 := 0
open PySem PySem.W PyProof.Rows
set_option maxHeartbeats 0 in
theorem PySem.Challenge.cw_blindtouch_k85_touches_and_pockets_shown_holds : PySem.Challenge.rw_blindtouch_k85_touches_and_pockets_shown.Holds := by
  w_on; o_law; k_head; (case hw => w_witness2)
  k_fill
  refine L2.walk_of (l := PySem.Challenge.rw_blindtouch_k85_touches_and_pockets_shown) (n := 63) (k := 4) (x := "_law_script") (CX := fun w => L2.CX (PySem.Challenge.rw_blindtouch_k85_touches_and_pockets_shown).prog w) (sp := fun w => BT.lift (BT.S_law _)) rfl (by decide) rfl ⟨rfl, by decide, by decide⟩ (fun w h Y => PySem.W.kIn_of Y) ?F (fun _ H a ns hl _ hS => BT.law_start hl hS) (fun _ _ _ _ _ h => BT.cx_none h)
  case F =>
    intro w mg fa h KX G hmg
    refine' BT.all_mk KX G hmg ?a0 ?l0 ?c0 ?k0 ?a1 ?l1 ?c1 ?k1 ?a2 ?l2 ?c2 ?k2 ?a3 ?l3 ?c3 ?k3 ?a4 ?l4 ?c4 ?k4 ?a5 ?l5 ?c5 ?k5 ?a6 ?l6 ?c6 ?k6 ?a7 ?l7 ?c7 ?k7 ?a8 ?l8 ?c8 ?k8 ?a9 ?l9 ?c9 ?k9 ?z_int ?z_isinstance ?z_len ?z_list ?z_min ?z_range ?z_set ?z_sorted ?z_str ?ka_NONE
    (case a0 => k_is); (case l0 => k_is); (case c0 => k_is); (case k0 => k_is); (case a1 => k_is); (case l1 => k_is); (case c1 => k_is); (case k1 => k_is); (case a2 => k_is); (case l2 => k_is); (case c2 => k_is); (case k2 => k_is); (case a3 => k_is); (case l3 => k_is); (case c3 => k_is); (case k3 => k_is); (case a4 => k_is); (case l4 => k_is); (case c4 => k_is); (case k4 => k_is); (case a5 => k_is); (case l5 => k_is); (case c5 => k_is); (case k5 => k_is); (case a6 => k_is); (case l6 => k_is); (case c6 => k_is); (case k6 => k_is); (case a7 => k_is); (case l7 => k_is); (case c7 => k_is); (case k7 => k_is); (case a8 => k_is); (case l8 => k_is); (case c8 => k_is); (case k8 => k_is); (case a9 => k_is); (case l9 => k_is); (case c9 => k_is); (case k9 => k_is); (case z_int => k_is); (case z_isinstance => k_is); (case z_len => k_is); (case z_list => k_is); (case z_min => k_is); (case z_range => k_is); (case z_set => k_is); (case z_sorted => k_is); (case z_str => k_is); (case ka_NONE => k_is)
