import PyProof.Rows.All
import Wide.All
import OpenK.AllK
import Wide.FinOn
import HandS.ForMost
import HandS.Exc
import HandS.TryOnly
import HandS.ExcOwn
import HandS.WordsExc
import HandS.Wide
import HandS.WideBits
import HandS.IsInst
import HandS.SortInts
import HandS.Style
import HandS.ExcIs
import HandS.ExcValue
import HandS.Conv
import HandS.Dict
import KE.DataMinMax
import HandS.RevRange
import HandS.More
import PyProof.SetRoads
import HandS.SetKeys
import HandS.TupAny
import HandS.NoneIn
import PyProof.EqKinds
import PyProof.FactsAll.dict
import HandS.ListItems
import PyProof.ReprRoads
import PyProof.ReprLen
import PyProof.Rows.StrJoinMade
import HandS.Text
import HandS.FStr
import HandS.Flow
import HandS.Deep
import HandS.ExcInit
import HandS.ExcField
import KE.KExcIs
import PySem.Challenge.RW_blindtouch_k01_draws_of_kinds
set_option Elab.async false
set_option linter.all false
set_option maxRecDepth 100000
set_option maxHeartbeats 4000000
/-! KL: readings over what is known of the heap: a frozen part G, and cells M that may be written. -/
namespace BT
open PySem PySem.Spec L2
open PyProof.Rows hiding St

abbrev Mem := List (Addr × HO)
structure Hv (G : Hp) (M : Mem) (H : Hp) : Prop where
  ex : ∀ a o, G a = some o → H a = some o
  mu : ∀ x, x ∈ M → H x.1 = some x.2
  nd : (M.map (·.1)).Nodup
  dj : ∀ x, x ∈ M → G x.1 = none
def Fr (G : Hp) (M : Mem) (p : Addr) : Prop := G p = none ∧ ∀ x, x ∈ M → x.1 ≠ p
def At (G : Hp) (M : Mem) (a : Addr) (o : HO) : Prop := (a, o) ∈ M ∨ G a = some o
section
variable {G : Hp} {M : Mem} {H : Hp} {p a : Addr} {o o' : HO} {n : Nat}
theorem Hv.self (H : Hp) : Hv H [] H := ⟨fun _ _ h => h, fun _ h => (nomatch h), List.nodup_nil, fun _ h => (nomatch h)⟩
theorem Hv.fr (h : Hv G M H) (hp : H p = none) : Fr G M p := by
  refine ⟨?_, fun x hx e => ?_⟩
  · cases e : G p with
    | none => rfl
    | some o => rw [h.ex p o e] at hp; cases hp
  · have := h.mu x hx
    rw [e, hp] at this; cases this
theorem Hv.at (h : Hv G M H) (q : At G M a o) : H a = some o := by
  rcases q with q | q
  · exact h.mu _ q
  · exact h.ex _ _ q
theorem Hv.newM (h : Hv G M H) (hp : H p = none) : Hv G ((p, o) :: M) (upd H p o) := by
  have f := h.fr hp
  refine ⟨fun b u e => ?_, fun x hx => ?_, ?_, fun x hx => ?_⟩
  · rw [upd_ne (ne_of_none (h.ex b u e) hp)]; exact h.ex b u e
  · rcases List.mem_cons.mp hx with rfl | hx
    · exact upd_same
    · rw [upd_ne (f.2 x hx)]; exact h.mu x hx
  · rw [List.map_cons, List.nodup_cons]
    refine ⟨fun hm => ?_, h.nd⟩
    obtain ⟨x, hx, e⟩ := List.mem_map.mp hm
    exact f.2 x hx e
  · rcases List.mem_cons.mp hx with rfl | hx
    · exact f.1
    · exact h.dj x hx
theorem Hv.newG (h : Hv G M H) (hp : H p = none) : Hv (upd G p o) M (upd H p o) := by
  have f := h.fr hp
  refine ⟨fun b u e => ?_, fun x hx => ?_, h.nd, fun x hx => ?_⟩
  · by_cases hb : b = p
    · subst hb; rw [upd_same] at e ⊢; exact e
    · rw [upd_ne hb] at e ⊢; exact h.ex b u e
  · rw [upd_ne (f.2 x hx)]; exact h.mu x hx
  · rw [upd_ne (f.2 x hx)]; exact h.dj x hx
/-- an object that nobody knows of is laid: nothing known changes -/
theorem Hv.junk (h : Hv G M H) (hp : H p = none) : Hv G M (upd H p o) := by
  have f := h.fr hp
  refine ⟨fun b u e => ?_, fun x hx => ?_, h.nd, h.dj⟩
  · rw [upd_ne (ne_of_none (h.ex b u e) hp)]; exact h.ex b u e
  · rw [upd_ne (f.2 x hx)]; exact h.mu x hx
theorem Hv.get (h : Hv G M H) (hn : M[n]? = some (p, o)) : H p = some o := h.mu _ (List.mem_of_getElem? hn)
theorem map_set_fst : ∀ (M : Mem) (n : Nat) (p : Addr) (o o' : HO), M[n]? = some (p, o) → (M.set n (p, o')).map (·.1) = M.map (·.1)
  | [], _, _, _, _, h => by simp at h
  | x :: M, 0, p, o, o', h => by
    have e : x = (p, o) := by simpa using h
    subst e; rfl
  | x :: M, n + 1, p, o, o', h => by
    have e : M[n]? = some (p, o) := by simpa using h
    show x.1 :: (M.set n (p, o')).map (·.1) = _
    rw [map_set_fst M n p o o' e]; rfl
theorem nodup_at : ∀ (M : Mem) (n : Nat) (p : Addr) (o : HO) (x : Addr × HO) (m : Nat), (M.map (·.1)).Nodup → M[n]? = some (p, o) → M[m]? = some x → x.1 = p → m = n := by
  intro M n p o x m hd h1 h2 e
  have q1 : (M.map (·.1))[n]? = some p := by rw [List.getElem?_map, h1]; rfl
  have q2 : (M.map (·.1))[m]? = some p := by rw [List.getElem?_map, h2, ← e]; rfl
  obtain ⟨l1, e1⟩ := List.getElem?_eq_some_iff.mp q1
  obtain ⟨l2, e2⟩ := List.getElem?_eq_some_iff.mp q2
  exact (List.getElem_inj hd).mp (e2.trans e1.symm)
theorem Hv.set (h : Hv G M H) (hn : M[n]? = some (p, o)) : Hv G (M.set n (p, o')) (upd H p o') := by
  have hlt : n < M.length := (List.getElem?_eq_some_iff.mp hn).1
  refine ⟨fun b u e => ?_, fun x hx => ?_, ?_, fun x hx => ?_⟩
  · have : b ≠ p := fun z => by
      have q := h.dj _ (List.mem_of_getElem? hn)
      rw [z] at e
      rw [show G p = none from q] at e; cases e
    rw [upd_ne this]; exact h.ex b u e
  · obtain ⟨m, hm⟩ := List.getElem?_of_mem hx
    by_cases e : m = n
    · subst e
      rw [List.getElem?_set_self hlt] at hm
      cases hm
      exact upd_same
    · rw [List.getElem?_set_ne (Ne.symm e)] at hm
      have : x.1 ≠ p := fun z => e (nodup_at M n p o x m h.nd hn hm z)
      rw [upd_ne this]
      exact h.mu x (List.mem_of_getElem? hm)
  · rw [map_set_fst M n p o o' hn]; exact h.nd
  · have : x.1 ∈ M.map (·.1) := by
      rw [← map_set_fst M n p o o' hn]; exact List.mem_map.mpr ⟨x, hx, rfl⟩
    obtain ⟨y, hy, e⟩ := List.mem_map.mp this
    rw [← e]; exact h.dj y hy
/-- what is known may be forgotten, and what may be written may be frozen -/
def Wk (G : Hp) (M : Mem) (G' : Hp) (M' : Mem) : Prop := ∀ H, Hv G M H → Hv G' M' H
theorem Wk.refl : Wk G M G M := fun _ h => h
theorem Wk.trans {G1 G2 G3 : Hp} {M1 M2 M3 : Mem} (a : Wk G1 M1 G2 M2) (b : Wk G2 M2 G3 M3) : Wk G1 M1 G3 M3 := fun H h => b H (a H h)
theorem Wk.drop (M1 : Mem) {x : Addr × HO} {M2 : Mem} : Wk G (M1 ++ x :: M2) G (M1 ++ M2) := fun H h => by
  refine ⟨h.ex, fun y hy => h.mu y ?_, ?_, fun y hy => h.dj y ?_⟩
  · rcases List.mem_append.mp hy with q | q
    · exact List.mem_append.mpr (.inl q)
    · exact List.mem_append.mpr (.inr (List.mem_cons_of_mem _ q))
  · refine h.nd.sublist ?_
    simp
  · rcases List.mem_append.mp hy with q | q
    · exact List.mem_append.mpr (.inl q)
    · exact List.mem_append.mpr (.inr (List.mem_cons_of_mem _ q))
theorem Wk.drop0 {x : Addr × HO} : Wk G (x :: M) G M := Wk.drop []
theorem Wk.drop1 {x y : Addr × HO} : Wk G (y :: x :: M) G (y :: M) := Wk.drop [y]
theorem Wk.drop2 {x y z : Addr × HO} : Wk G (z :: y :: x :: M) G (z :: y :: M) := Wk.drop [z, y]
theorem Wk.frz (M1 : Mem) {M2 : Mem} : Wk G (M1 ++ (p, o) :: M2) (upd G p o) (M1 ++ M2) := fun H h => by
  have hp : H p = some o := h.mu (p, o) (by simp)
  have hg : G p = none := h.dj (p, o) (by simp)
  have h2 := Wk.drop (G := G) M1 (x := (p, o)) (M2 := M2) H h
  refine ⟨fun b u e => ?_, h2.mu, h2.nd, fun x hx => ?_⟩
  · by_cases hb : b = p
    · subst hb; rw [upd_same] at e; cases e; exact hp
    · rw [upd_ne hb] at e; exact h.ex b u e
  · have : x.1 ≠ p := fun z => by
      have nd := h.nd
      rw [List.map_append, List.map_cons, List.nodup_append] at nd
      obtain ⟨n1, n2, n3⟩ := nd
      rcases List.mem_append.mp hx with q | q
      · exact n3 x.1 (List.mem_map.mpr ⟨x, q, rfl⟩) p (by simp) z
      · rw [List.nodup_cons] at n2
        exact n2.1 (by rw [← z]; exact List.mem_map.mpr ⟨x, q, rfl⟩)
    rw [upd_ne this]; exact h2.dj x hx
theorem Wk.frz0 : Wk G ((p, o) :: M) (upd G p o) M := Wk.frz []
theorem Wk.frz1 {y : Addr × HO} : Wk G (y :: (p, o) :: M) (upd G p o) (y :: M) := Wk.frz [y]
theorem Wk.perm {M' : Mem} (e : M'.Perm M) : Wk G M G M' := fun H h =>
  ⟨h.ex, fun x hx => h.mu x (e.mem_iff.mp hx), (e.map _).nodup_iff.mpr h.nd, fun x hx => h.dj x (e.mem_iff.mp hx)⟩
theorem Wk.swap {x y : Addr × HO} : Wk G (x :: y :: M) G (y :: x :: M) := Wk.perm (List.Perm.swap x y M)
/-- less of the frozen part -/
theorem Wk.less {G' : Hp} (e : ∀ a o, G' a = some o → G a = some o) : Wk G M G' M := fun H h =>
  ⟨fun a o q => h.ex a o (e a o q), h.mu, h.nd, fun x hx => by
    cases q : G' x.1 with
    | none => rfl
    | some o => have := h.dj x hx; rw [e _ _ q] at this; cases this⟩
end

/-! ### extension of the frozen part -/
def Ex (G G' : Hp) : Prop := ∀ a o, G a = some o → G' a = some o
theorem Ex.refl {G : Hp} : Ex G G := fun _ _ h => h
theorem Ex.trans {G G1 G2 : Hp} (a : Ex G G1) (b : Ex G1 G2) : Ex G G2 := fun x o h => b x o (a x o h)
theorem Ex.new {G : Hp} {M : Mem} {p : Addr} {o : HO} (h : Fr G M p) : Ex G (upd G p o) := fun a u e => by
  rw [upd_ne (ne_of_none e h.1)]; exact e
theorem Ex.new' {G : Hp} {p : Addr} {o : HO} (h : G p = none) : Ex G (upd G p o) := fun a u e => by
  rw [upd_ne (ne_of_none e h)]; exact e
theorem ex_rd {H H' : Hp} {a : Addr} {u : HO} (e : Ex H H') (h : Rd H a u) : Rd H' a u := by
  rcases h with h | ⟨o, h⟩
  · exact .inl (e a _ h)
  · exact .inr ⟨o, e a _ h⟩
theorem ex_l {K : PySem.W.Frag} {H H' : Hp} {a : Addr} {xs : List V} (e : Ex H H') (h : SqL K H a xs) : SqL K H' a xs := by
  rcases h with h | h
  · exact .inl (ex_rd e h)
  · exact .inr h
theorem ex_t {K : PySem.W.Frag} {H H' : Hp} {a : Addr} {xs : List V} (e : Ex H H') (h : SqT K H a xs) : SqT K H' a xs := by
  rcases h with h | h
  · exact .inl (ex_rd e h)
  · exact .inr h
mutual
theorem ex_d {K : PySem.W.Frag} {H H' : Hp} (e : Ex H H') : ∀ (d : PyData) {v : V}, Dp K H v d → Dp K H' v d
  | _, _, .non => .non
  | _, _, .bl b => .bl b
  | _, _, .int b => .int b
  | _, _, .str b => .str b
  | .list ds, _, .lst s a => .lst (ex_l e s) (ex_ds e ds a)
  | .tuple ds, _, .tup s a => .tup (ex_t e s) (ex_ds e ds a)
theorem ex_ds {K : PySem.W.Frag} {H H' : Hp} (e : Ex H H') : ∀ (ds : List PyData) {vs : List V}, DpAll K H vs ds → DpAll K H' vs ds
  | _, _, .nil => .nil
  | d :: ds, _, .cons a b => .cons (ex_d e d a) (ex_ds e ds b)
end
/-- a list, a tuple that can be read -/
def LstAt (K : PySem.W.Frag) (G : Hp) (M : Mem) (a : Addr) (xs : List V) : Prop := (a, HO.lst xs) ∈ M ∨ SqL K G a xs
def TupAt (K : PySem.W.Frag) (G : Hp) (M : Mem) (a : Addr) (xs : List V) : Prop := SqT K G a xs
def SeqAt' (K : PySem.W.Frag) (G : Hp) (M : Mem) (a : Addr) (xs : List V) : Prop := LstAt K G M a xs ∨ SqT K G a xs
/-- data that can be read -/
def DatAt (K : PySem.W.Frag) (G : Hp) (M : Mem) (v : V) (d : PyData) : Prop := ∀ H, Hv G M H → Dp K H v d
section
variable {K : PySem.W.Frag} {G : Hp} {M : Mem} {H : Hp} {a : Addr} {xs : List V}
theorem Hv.exx (h : Hv G M H) : Ex G H := h.ex
theorem Hv.lst (h : Hv G M H) (q : LstAt K G M a xs) : SqL K H a xs := by
  rcases q with q | q
  · exact .inl (.inl (h.mu _ q))
  · exact ex_l h.exx q
theorem Hv.tup (h : Hv G M H) (q : SqT K G a xs) : SqT K H a xs := ex_t h.exx q
theorem Hv.dat (h : Hv G M H) {v : V} {d : PyData} (q : DatAt K G M v d) : Dp K H v d := q H h
end

/-! ### judgements -/
abbrev KR := V → Hp → Mem → Prop
abbrev KX := Value → Option Addr → Hp → Mem → Prop
abbrev KK (α : Type) := St → Hp → Mem → (α → Hp → Mem → Prop) → KX → Prop
abbrev KE := KK V
abbrev KA := KK (List V)
abbrev KT := KK Bool
def upG {α : Type} (W : WX) (t : KK α) : St → Hp → (α → Hp → Prop) → Prop := fun σ H Q =>
  ∃ G M R E, Hv G M H ∧ t σ G M R E ∧ (∀ v G' M' H', Hv G' M' H' → R v G' M' → Q v H') ∧ (∀ c d G' M' H', Hv G' M' H' → E c d G' M' → W c d σ H')
def JE (X : Cx) (W : WX) (e : Expr) (t : KE) : Prop := PE X e (upG W t)
def JT (X : Cx) (W : WX) (e : Expr) (t : KT) : Prop := PT X e (upG W t)
def JW (X : Cx) (W : WX) (e : Expr) (t : KT) : Prop := PW X e (upG W t)
def JA (X : Cx) (W : WX) (es : List Expr) (t : KA) : Prop := PA X es (upG W t)
theorem pe_mono {X : Cx} {e : Expr} {t t' : TE} (h : PE X e t) (i : ∀ σ H Q, t' σ H Q → t σ H Q) : PE X e t' := ⟨fun pins s σ H Q I q => h.run pins s σ H Q I (i σ H Q q)⟩
theorem pt_mono {X : Cx} {e : Expr} {t t' : TT} (h : PT X e t) (i : ∀ σ H Q, t' σ H Q → t σ H Q) : PT X e t' := ⟨fun pins s σ H Q I q => h.run pins s σ H Q I (i σ H Q q)⟩
theorem pw_mono {X : Cx} {e : Expr} {t t' : TT} (h : PW X e t) (i : ∀ σ H Q, t' σ H Q → t σ H Q) : PW X e t' := ⟨fun wh pins s σ H Q I q => h.run wh pins s σ H Q I (i σ H Q q)⟩
theorem pa_mono {X : Cx} {e : List Expr} {t t' : TA} (h : PA X e t) (i : ∀ σ H Q, t' σ H Q → t σ H Q) : PA X e t' := ⟨fun pos pins s σ H Q I q => h.run pos pins s σ H Q I (i σ H Q q)⟩

section
variable {X : Cx} {W : WX} {pos : Pos}
/-- names, constants -/
def kVar (i : Nat) : KE := fun σ G M R _ => match σ[i]? with
  | some (some v) => R v G M
  | _ => False
def kC (v : V) : KE := fun _ G M R _ => R v G M
theorem je_var (i : Nat) {x : Str} (hN : X.N[i]? = some x := by rfl) (hv : Vis X.env.scope x := by first | exact Or.inl rfl | exact Or.inr (Or.inl rfl) | exact Or.inr (Or.inr rfl)) (hd : (x == ("__debug__" : Str)) = false := by decide)
    (hcd : (x == ("__classdict__" : Str)) = false := by decide) : JE X W (.Name x pos) (kVar i) := pe_mono (pe_var hN hv hd hcd) fun σ H Q ⟨G, M, R, E, hv, h, hR, _⟩ => by
  unfold kVar at h
  split at h
  · rename_i v e
    exact ⟨v, e, hR v G M H hv h⟩
  · exact h.elim
theorem je_c {e : Expr} {v : V} (h : PE X e (tC v)) : JE X W e (kC v) := pe_mono h fun σ H Q ⟨G, M, R, E, hv, h, hR, _⟩ => hR v G M H hv h
theorem je_int {i : Int} {j pos} : JE X W (.Constant (.int i) j pos) (kC (.int i)) := je_c pe_int
theorem je_bl {i : Bool} {j pos} : JE X W (.Constant (.bool i) j pos) (kC (.bl i)) := je_c pe_bl
theorem je_non {j pos} : JE X W (.Constant .none j pos) (kC .non) := je_c pe_non
theorem je_str {i : Str} {j pos} : JE X W (.Constant (.str i) j pos) (kC (.str i)) := je_c pe_str
/-- two in a row -/
def kBin {β : Type} (k : V → V → Hp → Mem → (β → Hp → Mem → Prop) → Prop) (ta tb : KE) : KK β := fun σ G M R E => ta σ G M (fun x G M => tb σ G M (fun y G M => k x y G M R) E) E
abbrev KR2 := V → V → Hp → Mem → KR → Prop
def KOp (X : Cx) (f : Value → Value → Sem Value) (k : KR2) : Prop :=
  ∀ (pins : List (Addr × Obj)) (s : Shared) (σ : St) (H : Hp) (x y : V) (v u : Value) (Q : VK) (G : Hp) (M : Mem) (R : KR), Inv X pins σ H s → RelV x v → RelV y u → Hv G M H → k x y G M R →
    (∀ v G' M' H', Hv G' M' H' → R v G' M' → Q v H') → wpAny (model X.prog X.w) X.A (f v u) (EP X pins σ Q) X.xe s
theorem kop_of {f : Value → Value → Sem Value} {r : R2} {k : KR2} (ho : OpR X f r)
    (s : ∀ x y G M R H Q, Hv G M H → k x y G M R → (∀ v G' M' H', Hv G' M' H' → R v G' M' → Q v H') → r x y H Q) : KOp X f k :=
  fun pins st σ H x y v u Q G M R I rx ry hv h hR => ho pins st σ H x y v u Q I rx ry (s x y G M R H Q hv h hR)
/-- an OpR whose reading is: it holds of k in some knowledge -/
def rUp (k : KR2) : R2 := fun x y H Q => ∃ G M R, Hv G M H ∧ k x y G M R ∧ ∀ v G' M' H', Hv G' M' H' → R v G' M' → Q v H'
theorem KOp.opr {f : Value → Value → Sem Value} {k : KR2} (h : KOp X f k) : OpR X f (rUp k) := fun pins s σ H x y v u Q I rx ry ⟨G, M, R, hv, hk, hR⟩ => h pins s σ H x y v u Q G M R I rx ry hv hk hR
theorem bin_sim {ta tb : KE} {k : KR2} {σ : St} {H : Hp} {Q : VK} (h : upG W (kBin k ta tb) σ H Q) : tOp (rUp k) (upG W ta) (upG W tb) σ H Q := by
  obtain ⟨G, M, R, E, hv, h, hR, hE⟩ := h
  exact ⟨G, M, _, E, hv, h, fun x G1 M1 H1 hv1 h1 => ⟨G1, M1, _, E, hv1, h1, fun y G2 M2 H2 hv2 h2 => ⟨G2, M2, R, hv2, h2, hR⟩, hE⟩, hE⟩
theorem je_op {a b : Expr} {op : Operator} {k : KR2} {ta tb : KE} (ho : KOp X (binaryOp op) k) (ha : JE X W a ta) (hb : JE X W b tb) : JE X W (.BinOp a op b pos) (kBin k ta tb) :=
  pe_mono (pe_op ho.opr ha hb) fun _ _ _ h => bin_sim h
theorem je_cmp {a b : Expr} {op : CmpOp} {k : KR2} {ta tb : KE} (ho : KOp X (compareOp op) k) (ha : JE X W a ta) (hb : JE X W b tb) (hm : behindInMarks op b = false) : JE X W (.Compare a [op] [b] pos) (kBin k ta tb) :=
  pe_mono (pe_cmpR ho.opr ha hb hm) fun _ _ _ h => bin_sim h
/-- a value as a test -/
def asB (R : Bool → Hp → Mem → Prop) : KR := fun v G M => match v with
  | .bl b => R b G M
  | _ => False
def kT (t : KE) : KT := fun σ G M R E => t σ G M (asB R) E
theorem asB_of {R : Bool → Hp → Mem → Prop} {v : V} {G : Hp} {M : Mem} (h : asB R v G M) : ∃ c, v = .bl c ∧ R c G M := by
  cases v <;> first | exact ⟨_, rfl, h⟩ | exact h.elim
theorem t_sim {t : KE} {σ : St} {H : Hp} {Q : Bool → Hp → Prop} (h : upG W (kT t) σ H Q) : tTest (upG W t) σ H Q := by
  obtain ⟨G, M, R, E, hv, h, hR, hE⟩ := h
  refine ⟨G, M, _, E, hv, h, fun v G1 M1 H1 hv1 h1 => ?_, hE⟩
  obtain ⟨c, rfl, h2⟩ := asB_of h1
  exact ⟨c, rfl, hR c G1 M1 H1 hv1 h2⟩
theorem jt_cmp {a b : Expr} {op : CmpOp} {k : KR2} {ta tb : KE} (ho : KOp X (compareOp op) k) (ha : JE X W a ta) (hb : JE X W b tb) (hm : behindInMarks op b = false) : JT X W (.Compare a [op] [b] pos) (kT (kBin k ta tb)) :=
  pt_mono (pt_cmpR ho.opr ha hb hm) fun σ H Q h => by
    have h2 := t_sim h
    exact bin_sim h2
theorem jt_val {e : Expr} {t : KE} (h : JE X W e t) (he : ∀ whole, isTrue e X.env whole = (do let v ← whole; standAt e.pos; holding [v] (truthy v)) := by intro _; rfl) : JT X W e (kT t) :=
  pt_mono (pt_val h he) fun σ H Q h => t_sim h
/-- chains -/
def kChain (k k' : KR2) (ta tb tc : KE) : KE := fun σ G M R E => ta σ G M (fun x G M => tb σ G M (fun y G M => k x y G M (asB fun c G M => if c = true then tc σ G M (fun z G M => k' y z G M R) E else R (.bl false) G M)) E) E
theorem chain_sim {ta tb tc : KE} {k k' : KR2} {σ : St} {H : Hp} {Q : VK} (h : upG W (kChain k k' ta tb tc) σ H Q) : tChain (rUp k) (rUp k') (upG W ta) (upG W tb) (upG W tc) σ H Q := by
  obtain ⟨G, M, R, E, hv, h, hR, hE⟩ := h
  refine ⟨G, M, _, E, hv, h, fun x G1 M1 H1 hv1 h1 => ⟨G1, M1, _, E, hv1, h1, fun y G2 M2 H2 hv2 h2 => ⟨G2, M2, _, hv2, h2, fun v G3 M3 H3 hv3 h3 => ?_⟩, hE⟩, hE⟩
  obtain ⟨c, rfl, h4⟩ := asB_of h3
  refine ⟨c, rfl, ?_⟩
  cases c with
  | true =>
    rw [if_pos rfl] at h4 ⊢
    exact ⟨G3, M3, _, E, hv3, h4, fun z G4 M4 H4 hv4 h5 => ⟨G4, M4, R, hv4, h5, hR⟩, hE⟩
  | false =>
    rw [if_neg Bool.false_ne_true] at h4 ⊢
    exact hR _ G3 M3 H3 hv3 h4
theorem je_chain {a b c : Expr} {op op' : CmpOp} {k k' : KR2} {ta tb tc : KE} (ho : KOp X (compareOp op) k) (ho' : KOp X (compareOp op') k') (ha : JE X W a ta) (hb : JE X W b tb) (hc : JE X W c tc)
    (hm : lastMarks [op, op'] [b, c] = false := by with_unfolding_all rfl) : JE X W (.Compare a [op, op'] [b, c] pos) (kChain k k' ta tb tc) := pe_mono (pe_chain ho.opr ho'.opr ha hb hc hm) fun _ _ _ h => chain_sim h
theorem jt_chain {a b c : Expr} {op op' : CmpOp} {k k' : KR2} {ta tb tc : KE} (ho : KOp X (compareOp op) k) (ho' : KOp X (compareOp op') k') (ha : JE X W a ta) (hb : JE X W b tb) (hc : JE X W c tc)
    (hm : lastMarks [op, op'] [b, c] = false := by with_unfolding_all rfl) : JT X W (.Compare a [op, op'] [b, c] pos) (kT (kChain k k' ta tb tc)) := pt_mono (pt_chain ho.opr ho'.opr ha hb hc hm) fun _ _ _ h => chain_sim (t_sim h)
/-- and, or, not -/
def kAnd (t u : KT) : KT := fun σ G M R E => t σ G M (fun c G M => if c = true then u σ G M R E else R false G M) E
def kOr (t u : KT) : KT := fun σ G M R E => t σ G M (fun c G M => if c = true then R true G M else u σ G M R E) E
def kNot (t : KT) : KT := fun σ G M R E => t σ G M (fun c G M => R (!c) G M) E
def kAndV (t u : KE) : KE := fun σ G M R E => t σ G M (asB fun c G M => if c = true then u σ G M R E else R (.bl false) G M) E
def kOrV (t u : KE) : KE := fun σ G M R E => t σ G M (asB fun c G M => if c = true then R (.bl true) G M else u σ G M R E) E
def kNotV (t : KE) : KE := fun σ G M R E => t σ G M (asB fun c G M => R (.bl (!c)) G M) E
variable {a b : Expr} {rest : List Expr}
theorem jw_and1 {t : KT} (h : JT X W a t) : JW X W (.BoolOp .And [a] pos) t := pw_and1 h
theorem jw_or1 {t : KT} (h : JT X W a t) : JW X W (.BoolOp .Or [a] pos) t := pw_or1 h
theorem jw_and {t u : KT} (ha : JT X W a t) (hb : JW X W (.BoolOp .And (b :: rest) pos) u) : JW X W (.BoolOp .And (a :: b :: rest) pos) (kAnd t u) :=
  pw_mono (pw_and ha hb) fun σ H Q ⟨G, M, R, E, hv, h, hR, hE⟩ => ⟨G, M, _, E, hv, h, fun c G1 M1 H1 hv1 h1 => by
    cases c with
    | true => rw [if_pos rfl] at h1 ⊢; exact ⟨G1, M1, R, E, hv1, h1, hR, hE⟩
    | false => rw [if_neg Bool.false_ne_true] at h1 ⊢; exact hR _ G1 M1 H1 hv1 h1, hE⟩
theorem jw_or {t u : KT} (ha : JT X W a t) (hb : JW X W (.BoolOp .Or (b :: rest) pos) u) : JW X W (.BoolOp .Or (a :: b :: rest) pos) (kOr t u) :=
  pw_mono (pw_or ha hb) fun σ H Q ⟨G, M, R, E, hv, h, hR, hE⟩ => ⟨G, M, _, E, hv, h, fun c G1 M1 H1 hv1 h1 => by
    cases c with
    | true => rw [if_pos rfl] at h1 ⊢; exact hR _ G1 M1 H1 hv1 h1
    | false => rw [if_neg Bool.false_ne_true] at h1 ⊢; exact ⟨G1, M1, R, E, hv1, h1, hR, hE⟩, hE⟩
theorem JW.jt {e : Expr} {t : KT} (h : JW X W e t) : JT X W e t := PW.pt h
theorem jt_not {t : KT} (h : JT X W a t) : JT X W (.UnaryOp .Not a pos) (kNot t) :=
  pt_mono (pt_not h) fun σ H Q ⟨G, M, R, E, hv, h, hR, hE⟩ => ⟨G, M, _, E, hv, h, fun c G1 M1 H1 hv1 h1 => hR _ G1 M1 H1 hv1 h1, hE⟩
theorem je_one {op} {t : KE} (h : JE X W a t) : JE X W (.BoolOp op [a] pos) t := pe_one h
theorem je_and {t u : KE} (ha : JE X W a t) (hb : JE X W (.BoolOp .And (b :: rest) pos) u) : JE X W (.BoolOp .And (a :: b :: rest) pos) (kAndV t u) :=
  pe_mono (pe_and ha hb) fun σ H Q ⟨G, M, R, E, hv, h, hR, hE⟩ => ⟨G, M, _, E, hv, h, fun v G1 M1 H1 hv1 h1 => by
    obtain ⟨c, rfl, h2⟩ := asB_of h1
    refine ⟨c, rfl, ?_⟩
    cases c with
    | true => rw [if_pos rfl] at h2 ⊢; exact ⟨G1, M1, R, E, hv1, h2, hR, hE⟩
    | false => rw [if_neg Bool.false_ne_true] at h2 ⊢; exact hR _ G1 M1 H1 hv1 h2, hE⟩
theorem je_or {t u : KE} (ha : JE X W a t) (hb : JE X W (.BoolOp .Or (b :: rest) pos) u) : JE X W (.BoolOp .Or (a :: b :: rest) pos) (kOrV t u) :=
  pe_mono (pe_or ha hb) fun σ H Q ⟨G, M, R, E, hv, h, hR, hE⟩ => ⟨G, M, _, E, hv, h, fun v G1 M1 H1 hv1 h1 => by
    obtain ⟨c, rfl, h2⟩ := asB_of h1
    refine ⟨c, rfl, ?_⟩
    cases c with
    | true => rw [if_pos rfl] at h2 ⊢; exact hR _ G1 M1 H1 hv1 h2
    | false => rw [if_neg Bool.false_ne_true] at h2 ⊢; exact ⟨G1, M1, R, E, hv1, h2, hR, hE⟩, hE⟩
theorem je_not {t : KE} (h : JE X W a t) : JE X W (.UnaryOp .Not a pos) (kNotV t) :=
  pe_mono (pe_not h) fun σ H Q ⟨G, M, R, E, hv, h, hR, hE⟩ => ⟨G, M, _, E, hv, h, fun v G1 M1 H1 hv1 h1 => by
    obtain ⟨c, rfl, h2⟩ := asB_of h1
    exact ⟨c, rfl, hR _ G1 M1 H1 hv1 h2⟩, hE⟩
/-- a if c else b -/
def kIte (t : KT) (ta tb : KE) : KE := fun σ G M R E => t σ G M (fun c G M => if c = true then ta σ G M R E else tb σ G M R E) E
end
end BT
set_option Elab.async false
set_option linter.all false
set_option maxRecDepth 100000
set_option maxHeartbeats 4000000
namespace BT
open PySem PySem.Spec L2
open PyProof.Rows hiding St
section
variable {X : Cx} {W : WX} {pos : Pos} {a b c e : Expr} {es : List Expr}
theorem je_ite {t : KT} {ta tb : KE} (hc : JT X W c t) (ha : JE X W a ta) (hb : JE X W b tb) : JE X W (.IfExp c a b pos) (kIte t ta tb) :=
  pe_mono (pe_ifExp hc ha hb) fun σ H Q ⟨G, M, R, E, hv, h, hR, hE⟩ => ⟨G, M, _, E, hv, h, fun c G1 M1 H1 hv1 h1 => by
    cases c with
    | true => rw [if_pos rfl] at h1 ⊢; exact ⟨G1, M1, R, E, hv1, h1, hR, hE⟩
    | false => rw [if_neg Bool.false_ne_true] at h1 ⊢; exact ⟨G1, M1, R, E, hv1, h1, hR, hE⟩, hE⟩
/-! ### arguments, displays -/
def kNil : KA := fun _ G M R _ => R [] G M
def kCons (t : KE) (u : KA) : KA := fun σ G M R E => t σ G M (fun x G M => u σ G M (fun xs G M => R (x :: xs) G M) E) E
theorem ja_nil : JA X W [] kNil := pa_mono pa_nil fun σ H Q ⟨G, M, R, E, hv, h, hR, _⟩ => hR _ G M H hv h
theorem ja_cons {t : KE} {u : KA} (ha : JE X W e t) (hr : JA X W es u) (hs : starEach (e :: es) X.env = (false, eval e X.env) :: starEach es X.env := by rfl) : JA X W (e :: es) (kCons t u) :=
  pa_mono (pa_cons ha hr hs) fun σ H Q ⟨G, M, R, E, hv, h, hR, hE⟩ => ⟨G, M, _, E, hv, h, fun x G1 M1 H1 hv1 h1 => ⟨G1, M1, _, E, hv1, h1, fun xs G2 M2 H2 hv2 h2 => hR _ G2 M2 H2 hv2 h2, hE⟩, hE⟩
def kLst (t : KA) : KE := fun σ G M R E => t σ G M (fun xs G M => xs.length ≤ sizeLine ∧ ∀ p, Fr G M p → R (.ref p) G ((p, .lst xs) :: M)) E
def kTup (t : KA) : KE := fun σ G M R E => t σ G M (fun xs G M => xs.length ≤ sizeLine ∧ ∀ p, Fr G M p → R (.ref p) (upd G p (.tup xs)) M) E
theorem je_lst {t : KA} (h : JA X W es t) : JE X W (.List es pos) (kLst t) :=
  pe_mono (pe_lst h) fun σ H Q ⟨G, M, R, E, hv, h, hR, hE⟩ => ⟨G, M, _, E, hv, h, fun xs G1 M1 H1 hv1 h1 => ⟨h1.1, fun p hp => hR _ G1 _ _ (hv1.newM hp) (h1.2 p (hv1.fr hp))⟩, hE⟩
theorem je_tup {t : KA} {k : Nat} (h : JA X W es t) : JE X W (.Tuple es k pos) (kTup t) :=
  pe_mono (pe_tup h) fun σ H Q ⟨G, M, R, E, hv, h, hR, hE⟩ => ⟨G, M, _, E, hv, h, fun xs G1 M1 H1 hv1 h1 => ⟨h1.1, fun p hp => hR _ _ M1 _ (hv1.newG hp) (h1.2 p (hv1.fr hp))⟩, hE⟩
/-! ### operators -/
def kAdd : KR2 := fun x y G M R => match x, y with
  | .int i, .int j => R (.int (i + j)) G M
  | .str i, .str j => i.length + j.length ≤ sizeLine ∧ R (.str (i ++ j)) G M
  | .ref a, .ref b => ∃ xs ys, At G M a (.lst xs) ∧ At G M b (.lst ys) ∧ xs.length + ys.length ≤ sizeLine ∧ ∀ p, Fr G M p → R (.ref p) G ((p, .lst (xs ++ ys)) :: M)
  | _, _ => False
theorem kop_add : KOp X (binaryOp .Add) kAdd := fun pins s σ H x y v u Q G M R I rx ry hv h hR => by
  cases x <;> cases y <;> first
    | exact op_add pins s σ H _ _ v u Q I rx ry ⟨_, _, rfl, rfl, hR _ G M H hv h⟩
    | exact op_add_str pins s σ H _ _ v u Q I rx ry ⟨_, _, rfl, rfl, h.1, hR _ G M H hv h.2⟩
    | (obtain ⟨xs, ys, h1, h2, h3, h4⟩ := h
       exact op_cat pins s σ H _ _ v u Q I rx ry ⟨_, _, xs, ys, rfl, rfl, hv.at h1, hv.at h2, h3, fun p hp => hR _ G _ _ (hv.newM hp) (h4 p (hv.fr hp))⟩)
    | exact h.elim
def kI (C : Int → Int → Prop) (g : Int → Int → V) : KR2 := fun x y G M R => match x, y with
  | .int i, .int j => C i j ∧ R (g i j) G M
  | _, _ => False
def kI0 (g : Int → Int → V) : KR2 := fun x y G M R => match x, y with
  | .int i, .int j => R (g i j) G M
  | _, _ => False
theorem kop_I {f : Value → Value → Sem Value} {C : Int → Int → Prop} {g : Int → Int → V} (h : OpR X f (rI C g)) : KOp X f (kI C g) := kop_of h fun x y G M R H Q hv h hR => by
  cases x <;> cases y <;> first
    | exact ⟨_, _, rfl, rfl, h.1, hR _ G M H hv h.2⟩
    | exact h.elim
theorem kop_I0 {f : Value → Value → Sem Value} {g : Int → Int → V} (h : OpR X f (rI0 g)) : KOp X f (kI0 g) := kop_of h fun x y G M R H Q hv h hR => by
  cases x <;> cases y <;> first
    | exact ⟨_, _, rfl, rfl, hR _ G M H hv h⟩
    | exact h.elim
/-- sizes of products, quotients -/
def MulOk (i j : Int) : Prop := CMul i j ∨ CMulW i j
theorem kop_sub : KOp X (binaryOp .Sub) (kI0 fun i j => .int (i - j)) := kop_I0 op_sub
/-- a product of ints, a list repeated -/
def kMul : KR2 := fun x y G M R => match x, y with
  | .int i, .int j => MulOk i j ∧ R (.int (i * j)) G M
  | .ref a, .int k => ∃ xs, At G M a (.lst xs) ∧ -(2 ^ 63) ≤ k ∧ k < 2 ^ 63 ∧ xs.length * k.toNat ≤ sizeLine ∧ ∀ p, Fr G M p → R (.ref p) G ((p, .lst (List.replicate k.toNat xs).flatten) :: M)
  | _, _ => False
theorem kop_mul : KOp X (binaryOp .Mult) kMul := fun pins s σ H x y v u Q G M R I rx ry hv h hR => by
  cases x <;> cases y <;> first
    | (obtain ⟨hc, h⟩ := h
       rcases hc with hc | hc
       · exact op_mul pins s σ H _ _ v u Q I rx ry ⟨_, _, rfl, rfl, hc, hR _ G M H hv h⟩
       · exact op_mulW pins s σ H _ _ v u Q I rx ry ⟨_, _, rfl, rfl, hc, hR _ G M H hv h⟩)
    | (obtain ⟨xs, h1, h2, h3, h4, h5⟩ := h
       exact op_rep pins s σ H _ _ v u Q I rx ry ⟨_, _, xs, rfl, rfl, hv.at h1, h2, h3, h4, fun p hp => hR _ G _ _ (hv.newM hp) (h5 p (hv.fr hp))⟩)
    | exact h.elim
theorem kop_mod : KOp X (binaryOp .Mod) (kI (fun _ j => 0 < j) fun i j => .int (i % j)) := kop_I op_mod
theorem kop_fdiv : KOp X (binaryOp .FloorDiv) (kI CDivW fun i j => .int (i / j)) := kop_I op_fdivW
theorem kop_pow : KOp X (binaryOp .Pow) (kI CPow fun i j => .int (i ^ j.toNat)) := kop_I op_pow
theorem kop_shl : KOp X (binaryOp .LShift) (kI CPow fun i j => .int (i * 2 ^ j.toNat)) := kop_I op_shl
theorem kop_shr : KOp X (binaryOp .RShift) (kI (fun _ j => 0 ≤ j) fun i j => .int (i / 2 ^ j.toNat)) := kop_I op_shr
theorem kop_lt : KOp X (compareOp .Lt) (kI0 fun i j => .bl (decide (i < j))) := kop_I0 op_lt
theorem kop_le : KOp X (compareOp .LtE) (kI0 fun i j => .bl (decide (i ≤ j))) := kop_I0 op_le
theorem kop_gt : KOp X (compareOp .Gt) (kI0 fun i j => .bl (decide (j < i))) := kop_I0 op_gt
theorem kop_ge : KOp X (compareOp .GtE) (kI0 fun i j => .bl (decide (j ≤ i))) := kop_I0 op_ge
/-- equality: of plain values at once, of data by what they hold -/
def kEqv (neg : Bool) (K : PySem.W.Frag) : KR2 := fun x y G M R =>
  match scal x y with
  | true => R (.bl (if neg then !decide (x = y) else decide (x = y))) G M
  | false => ∃ d e, DatAt K G M x d ∧ DatAt K G M y e ∧ SeqAt.shaped d = true ∧ SeqAt.shaped e = true ∧ R (.bl (if neg then !PyData.eqv d e else PyData.eqv d e)) G M
theorem kop_eq (hu : X.A.units + 64 < cLine) : KOp X (compareOp .Eq) (kEqv false X.K) := fun pins s σ H x y v u Q G M R I rx ry hv h hR => by
  unfold kEqv at h
  split at h
  · rename_i e
    exact op_eq pins s σ H _ _ v u Q I rx ry ⟨e, hR _ G M H hv h⟩
  · obtain ⟨d, e, h1, h2, h3, h4, h5⟩ := h
    exact op_eqD hu pins s σ H _ _ v u Q I rx ry ⟨d, e, hv.dat h1, hv.dat h2, h3, h4, hR _ G M H hv h5⟩
theorem kop_ne (hu : X.A.units + 64 < cLine) : KOp X (compareOp .NotEq) (kEqv true X.K) := fun pins s σ H x y v u Q G M R I rx ry hv h hR => by
  unfold kEqv at h
  split at h
  · rename_i e
    exact op_ne pins s σ H _ _ v u Q I rx ry ⟨e, hR _ G M H hv h⟩
  · obtain ⟨d, e, h1, h2, h3, h4, h5⟩ := h
    exact op_neD hu pins s σ H _ _ v u Q I rx ry ⟨d, e, hv.dat h1, hv.dat h2, h3, h4, hR _ G M H hv h5⟩
def kIs (neg : Bool) : KR2 := fun x y G M R => match y with
  | .non => R (.bl (if neg then !decide (x = .non) else decide (x = .non))) G M
  | _ => False
theorem kop_is : KOp X (compareOp .Is) (kIs false) := kop_of op_isN fun x y G M R H Q hv h hR => by
  cases y <;> first
    | exact ⟨rfl, hR _ G M H hv h⟩
    | exact h.elim
theorem kop_isnot : KOp X (compareOp .IsNot) (kIs true) := kop_of op_notN fun x y G M R H Q hv h hR => by
  cases y <;> first
    | exact ⟨rfl, hR _ G M H hv h⟩
    | exact h.elim
def kUn (k : V → Hp → Mem → KR → Prop) (t : KE) : KE := fun σ G M R E => t σ G M (fun x G M => k x G M R) E
def kNeg : V → Hp → Mem → KR → Prop := fun x G M R => match x with
  | .int i => R (.int (-i)) G M
  | _ => False
theorem je_neg {t : KE} (h : JE X W a t) : JE X W (.UnaryOp .USub a pos) (kUn kNeg t) :=
  pe_mono (pe_un un_neg h) fun σ H Q ⟨G, M, R, E, hv, h, hR, hE⟩ => ⟨G, M, _, E, hv, h, fun x G1 M1 H1 hv1 h1 => by
    cases x <;> first
      | exact ⟨_, rfl, hR _ G1 M1 H1 hv1 h1⟩
      | exact h1.elim, hE⟩
/-! ### subscripts, slices -/
def kIx (K : PySem.W.Frag) : KR2 := fun x y G M R => match x, y with
  | .ref a, .int i => ∃ xs v, SeqAt' K G M a xs ∧ atI xs i = some v ∧ R v G M
  | .str z, .int i => ∃ c, z.length ≤ sizeLine ∧ atI z.cps.toList i = some c ∧ R (.str ⟨#[c]⟩) G M
  | _, _ => False
theorem ix_k : IxR X (rUp (kIx X.K)) := fun value slice pins s σ H x y v u Q I rx ry ⟨G, M, R, hv, h, hR⟩ hs => by
  cases x <;> cases y <;> first
    | (obtain ⟨xs, w, h1, h2, h3⟩ := h
       rcases h1 with h1 | h1
       · exact ix_list value slice pins s σ H _ _ v u Q I rx ry ⟨_, xs, _, w, rfl, rfl, hv.lst h1, h2, hR _ G M H hv h3⟩ hs
       · exact ix_tup value slice pins s σ H _ _ v u Q I rx ry ⟨_, xs, _, w, rfl, rfl, hv.tup h1, h2, hR _ G M H hv h3⟩ hs)
    | (obtain ⟨c, h1, h2, h3⟩ := h
       exact ix_str value slice pins s σ H _ _ v u Q I rx ry ⟨_, _, c, rfl, rfl, h1, h2, hR _ G M H hv h3⟩ hs)
    | exact h.elim
theorem je_ix {ta tb : KE} (ha : JE X W a ta) (hb : JE X W b tb) (hs : PlainIx b := by exact fun _ _ => rfl) : JE X W (.Subscript a b pos) (kBin (kIx X.K) ta tb) :=
  pe_mono (pe_ix ix_k ha hb hs) fun _ _ _ h => bin_sim h
abbrev KO := KK (Option Int)
def JO (X : Cx) (W : WX) (e : Option Expr) (t : KO) : Prop := PO X e (upG W t)
theorem po_mono {X : Cx} {e : Option Expr} {t t' : TO} (h : PO X e t) (i : ∀ σ H Q, t' σ H Q → t σ H Q) : PO X e t' := ⟨fun pins s σ H Q I q => h.run pins s σ H Q I (i σ H Q q)⟩
def kNoP : KO := fun _ G M R _ => R none G M
def asI (R : Option Int → Hp → Mem → Prop) : KR := fun v G M => match v with
  | .int i => R (some i) G M
  | _ => False
def kPart (t : KE) : KO := fun σ G M R E => t σ G M (asI R) E
theorem jo_none : JO X W none kNoP := po_mono po_none fun σ H Q ⟨G, M, R, E, hv, h, hR, _⟩ => hR _ G M H hv h
theorem jo_some {t : KE} (h : JE X W e t) : JO X W (some e) (kPart t) := po_mono (po_some h) fun σ H Q ⟨G, M, R, E, hv, h, hR, hE⟩ => ⟨G, M, _, E, hv, h, fun v G1 M1 H1 hv1 h1 => by
    cases v <;> first
      | exact ⟨_, rfl, hR _ G1 M1 H1 hv1 h1⟩
      | exact h1.elim, hE⟩
/-- xs[lo:hi] of a list -/
def kSl (K : PySem.W.Frag) (t : KE) (tl th : KO) : KE := fun σ G M R E => t σ G M (fun x G M => tl σ G M (fun l G M => th σ G M (fun u G M => match x with
  | .ref a => ∃ xs, LstAt K G M a xs ∧ ∀ p, Fr G M p → R (.ref p) G ((p, .lst (cutV xs l u)) :: M)
  | _ => False) E) E) E
theorem je_slice {t : KE} {lo hi : Option Expr} {tl th : KO} {p2 : Pos} (he : JE X W e t) (hl : JO X W lo tl) (hu : JO X W hi th) : JE X W (.Subscript e (.Slice lo hi none p2) pos) (kSl X.K t tl th) :=
  pe_mono (pe_slice sl_list he hl hu) fun σ H Q ⟨G, M, R, E, hv, h, hR, hE⟩ => ⟨G, M, _, E, hv, h, fun x G1 M1 H1 hv1 h1 => ⟨G1, M1, _, E, hv1, h1, fun l G2 M2 H2 hv2 h2 => ⟨G2, M2, _, E, hv2, h2, fun u G3 M3 H3 hv3 h3 => by
    cases x <;> first
      | (obtain ⟨xs, q1, q2⟩ := h3
         exact ⟨_, xs, rfl, hv3.lst q1, fun p hp => hR _ G3 _ _ (hv3.newM hp) (q2 p (hv3.fr hp))⟩)
      | exact h3.elim, hE⟩, hE⟩, hE⟩
/-! ### calls of built-ins -/
abbrev KC := List V → Hp → Mem → KR → Prop
def rUpC (k : KC) : List V → Hp → VK → Prop := fun vs H Q => ∃ G M R, Hv G M H ∧ k vs G M R ∧ ∀ v G' M' H', Hv G' M' H' → R v G' M' → Q v H'
def kCB (k : KC) (t : KA) : KE := fun σ G M R E => t σ G M (fun vs G M => k vs G M R) E
def KCall (X : Cx) (f : Value) (k : KC) : Prop := CallR X f (rUpC k)
theorem kcall_of {f : Value} {r : List V → Hp → VK → Prop} {k : KC} (h : CallR X f r)
    (s : ∀ vs G M R H Q, Hv G M H → k vs G M R → (∀ v G' M' H', Hv G' M' H' → R v G' M' → Q v H') → r vs H Q) : KCall X f k :=
  fun pins st σ H xs us Q I rv ⟨G, M, R, hv, hk, hR⟩ => h pins st σ H xs us Q I rv (s xs G M R H Q hv hk hR)
theorem cb_sim {t : KA} {k : KC} {σ : St} {H : Hp} {Q : VK} (h : upG W (kCB k t) σ H Q) : tCB (rUpC k) (upG W t) σ H Q := by
  obtain ⟨G, M, R, E, hv, h, hR, hE⟩ := h
  exact ⟨G, M, _, E, hv, h, fun vs G1 M1 H1 hv1 h1 => ⟨G1, M1, R, hv1, h1, hR⟩, hE⟩
variable {x : Str} {p : Pos} {id T : String}
theorem je_callB {k : KC} {t : KA} (hc : KCall X (.builtin id) k) (hm : X.mg x = none) (ha : JA X W (e :: es) t) (hv : bootBuiltins x = some (.builtin id) := by decide +kernel) (hg : Gl X x := by rfl) (hn : x ≠ "__name__" := by decide) (hdb : (x == ("__debug__" : Str)) = false := by decide)
    (he : starEach (e :: es) X.env = (false, eval e X.env) :: starEach es X.env := by rfl) (hpl : (backTo pos (starEach es X.env)).any (·.1) = false := by rfl) : JE X W (.Call (.Name x p) (e :: es) [] pos) (kCB k t) :=
  pe_mono (pe_callB hc hg hm hv ha hn hdb he hpl) fun _ _ _ h => cb_sim h
theorem je_callTy {k : KC} {t : KA} (hc : KCall X (.type T) k) (hm : X.mg x = none) (ha : JA X W (e :: es) t) (hv : bootBuiltins x = some (.type T) := by decide +kernel) (hg : Gl X x := by rfl) (hn : x ≠ "__name__" := by decide) (hdb : (x == ("__debug__" : Str)) = false := by decide)
    (he : starEach (e :: es) X.env = (false, eval e X.env) :: starEach es X.env := by rfl) (hpl : (backTo pos (starEach es X.env)).any (·.1) = false := by rfl) : JE X W (.Call (.Name x p) (e :: es) [] pos) (kCB k t) :=
  pe_mono (pe_callTy hc hg hm hv ha hn hdb he hpl) fun _ _ _ h => cb_sim h
/-- a built-in type's name as a value -/
theorem je_ty {T : String} {x : Str} {pos : Pos} (hm : X.mg x = none) (hv : bootBuiltins x = some (.type T) := by decide +kernel) (hg : Gl X x := by rfl) (hn : x ≠ "__name__" := by decide) (hd : (x == ("__debug__" : Str)) = false := by decide) : JE X W (.Name x pos) (kC (.ty T)) :=
  je_c (pe_bltn hg hm hv rfl hn hd)
/-- a module's constant -/
theorem je_glob {x : Str} {v : V} {u : Value} {pos : Pos} (hm : X.mg x = some u) (r : RelV v u) (hg : Gl X x := by rfl) (hd : (x == ("__debug__" : Str)) = false := by decide) : JE X W (.Name x pos) (kC v) := je_c (pe_glob hg hm r hd)
def kLen (K : PySem.W.Frag) : KC := fun vs G M R => match vs with
  | [.ref a] => ∃ xs, SeqAt' K G M a xs ∧ R (.int xs.length) G M
  | _ => False
theorem kc_len : KCall X (.builtin "len") (kLen X.K) := kcall_of call_len_seq fun vs G M R H Q hv h hR => by
  match vs, h with
  | [.ref a], ⟨xs, h1, h2⟩ => exact ⟨a, xs, rfl, h1.elim (fun q => .inl (hv.lst q)) (fun q => .inr (hv.tup q)), hR _ G M H hv h2⟩
def kList (K : PySem.W.Frag) : KC := fun vs G M R => match vs with
  | [.ref a] => ∃ xs, SeqAt' K G M a xs ∧ ∀ p, Fr G M p → R (.ref p) G ((p, .lst xs) :: M)
  | _ => False
theorem kc_list : KCall X (.type "list") (kList X.K) := kcall_of call_list_of fun vs G M R H Q hv h hR => by
  match vs, h with
  | [.ref a], ⟨xs, h1, h2⟩ => exact ⟨a, xs, rfl, h1.elim (fun q => .inl (hv.lst q)) (fun q => .inr (hv.tup q)), fun p hp => hR _ G _ _ (hv.newM hp) (h2 p (hv.fr hp))⟩
def kMin2 : KC := fun vs G M R => match vs with
  | [.int i, .int j] => R (.int (min i j)) G M
  | _ => False
def kMax2 : KC := fun vs G M R => match vs with
  | [.int i, .int j] => R (.int (max i j)) G M
  | _ => False
theorem kc_min2 (hc : X.calm = true := by rfl) : KCall X (.builtin "min") kMin2 := kcall_of (call_min2 hc) fun vs G M R H Q hv h hR => by
  match vs, h with
  | [.int i, .int j], h =>
    refine ⟨i, j, rfl, ?_⟩
    have e : (if j < i then j else i) = min i j := by split <;> omega
    rw [e]
    exact hR _ G M H hv h
theorem kc_max2 (hc : X.calm = true := by rfl) : KCall X (.builtin "max") kMax2 := kcall_of (call_max2 hc) fun vs G M R H Q hv h hR => by
  match vs, h with
  | [.int i, .int j], h =>
    refine ⟨i, j, rfl, ?_⟩
    have e : (if j > i then j else i) = max i j := by split <;> omega
    rw [e]
    exact hR _ G M H hv h
def kInt : KC := fun vs G M R => match vs with
  | [.int i] => R (.int i) G M
  | [.bl k] => R (.int (if k then 1 else 0)) G M
  | _ => False
theorem kc_int : KCall X (.type "int") kInt := kcall_of call_int1 fun vs G M R H Q hv h hR => by
  match vs, h with
  | [.int i], h => exact .inl ⟨i, rfl, hR _ G M H hv h⟩
  | [.bl i], h => exact .inr ⟨i, rfl, hR _ G M H hv h⟩
/-- min(xs), max(xs) of ints -/
def kMinL (K : PySem.W.Frag) : KC := fun vs G M R => match vs with
  | [.ref a] => ∃ ns : List Int, LstAt K G M a (ns.map V.int) ∧ 0 < ns.length ∧ ∀ m, m ∈ ns → (∀ y, y ∈ ns → m ≤ y) → R (.int m) G M
  | _ => False
def kMaxL (K : PySem.W.Frag) : KC := fun vs G M R => match vs with
  | [.ref a] => ∃ ns : List Int, LstAt K G M a (ns.map V.int) ∧ 0 < ns.length ∧ ∀ m, m ∈ ns → (∀ y, y ∈ ns → y ≤ m) → R (.int m) G M
  | _ => False
theorem kc_minL (hc : X.calm = true := by rfl) : KCall X (.builtin "min") (kMinL X.K) := kcall_of (cr_min hc) fun vs G M R H Q hv h hR => by
  match vs, h with
  | [.ref a], ⟨ns, h1, h2, h3⟩ => exact ⟨a, ns, rfl, hv.lst h1, h2, fun m q1 q2 => hR _ G M H hv (h3 m q1 q2)⟩
theorem kc_maxL (hc : X.calm = true := by rfl) : KCall X (.builtin "max") (kMaxL X.K) := kcall_of (cr_max hc) fun vs G M R H Q hv h hR => by
  match vs, h with
  | [.ref a], ⟨ns, h1, h2, h3⟩ => exact ⟨a, ns, rfl, hv.lst h1, h2, fun m q1 q2 => hR _ G M H hv (h3 m q1 q2)⟩
def kAll (K : PySem.W.Frag) : KC := fun vs G M R => match vs with
  | [.ref a] => ∃ bs : List Bool, LstAt K G M a (bs.map V.bl) ∧ R (.bl (bs.all _root_.id)) G M
  | _ => False
theorem kc_all (hc : X.calm = true := by rfl) : KCall X (.builtin "all") (kAll X.K) := kcall_of (cr_all hc) fun vs G M R H Q hv h hR => by
  match vs, h with
  | [.ref a], ⟨ns, h1, h2⟩ => exact ⟨a, ns, rfl, hv.lst h1, hR _ G M H hv h2⟩
def kSum (K : PySem.W.Frag) : KC := fun vs G M R => match vs with
  | [.ref a] => ∃ ns : List Int, LstAt K G M a (ns.map V.int) ∧ R (.int ns.sum) G M
  | _ => False
theorem kc_sum (hc : X.calm = true := by rfl) : KCall X (.builtin "sum") (kSum X.K) := kcall_of (cr_sum hc) fun vs G M R H Q hv h hR => by
  match vs, h with
  | [.ref a], ⟨ns, h1, h2⟩ => exact ⟨a, ns, rfl, hv.lst h1, hR _ G M H hv h2⟩
/-- isinstance(x, c) -/
def kIsi (K : PySem.W.Frag) : KC := fun vs G M R => match vs with
  | [x, c] => ∃ (t u : Value) (b : Bool), ClsV c u ∧ (∀ H, Hv G M H → TyX K H x t) ∧ PySem.W.kitOne K t u = some b ∧ R (.bl b) G M
  | _ => False
theorem kc_isi : KCall X (.builtin "isinstance") (kIsi X.K) := kcall_of call_isi fun vs G M R H Q hv h hR => by
  match vs, h with
  | [x, c], ⟨t, u, b, h1, h2, h3, h4⟩ => exact ⟨x, c, t, u, b, rfl, h1, h2 H hv, h3, hR _ G M H hv h4⟩
/-! ### methods of built-in types -/
abbrev KM := V → List V → Hp → Mem → KR → Prop
def rUpM (k : KM) : V → List V → Hp → VK → Prop := fun x vs H Q => ∃ G M R, Hv G M H ∧ k x vs G M R ∧ ∀ v G' M' H', Hv G' M' H' → R v G' M' → Q v H'
def KMt (X : Cx) (id : String) (k : KM) : Prop := MtR X id (rUpM k)
theorem kmt_of {r : V → List V → Hp → VK → Prop} {k : KM} (h : MtR X id r)
    (s : ∀ x vs G M R H Q, Hv G M H → k x vs G M R → (∀ v G' M' H', Hv G' M' H' → R v G' M' → Q v H') → r x vs H Q) : KMt X id k :=
  fun pins st σ H x xs v us Q I rx rv ⟨G, M, R, hv, hk, hR⟩ => h pins st σ H x xs v us Q I rx rv (s x xs G M R H Q hv hk hR)
def kBM (K : PySem.W.Frag) (T : String) (k : KM) (to : KE) (t : KA) : KE := fun σ G M R E => to σ G M (fun x G M => (∀ H, Hv G M H → tyV K T x H) ∧ t σ G M (fun vs G M => k x vs G M R) E) E
def kBM0 (K : PySem.W.Frag) (T : String) (k : KM) (to : KE) : KE := fun σ G M R E => to σ G M (fun x G M => (∀ H, Hv G M H → tyV K T x H) ∧ k x [] G M R) E
variable {o : Expr} {name : Str} {apos cpos : Pos}
theorem je_bm {k : KM} {to : KE} {t : KA} (pa : PlainAttrs T) (slot : Slot T name id) (hty : typeOf (.builtin id) = pure (.type "method_descriptor")) (hm : KMt X id k) (ho : JE X W o to) (ha : JA X W (e :: es) t)
    (hbase : attributeBase o name X.env (eval o X.env) = eval o X.env := by rfl)
    (hfew : ((backTo cpos (starEach (e :: es) X.env)).all (fun x => !x.1) && (backToKw cpos (keywordEach [] X.env)).all (fun x => x.1.isSome)
      && decide ((e :: es).length + ([] : List Keyword).length + (if ([] : List Keyword).isEmpty then 0 else 1) < 30)) = true := by rfl)
    (hline : (apos.endLine == cpos.line) = true := by rfl) (hs : starEach (e :: es) X.env = (false, eval e X.env) :: starEach es X.env := by rfl) (hplain : (backTo cpos (starEach es X.env)).any (·.1) = false := by rfl) :
    JE X W (.Call (.Attribute o name apos) (e :: es) [] cpos) (kBM X.K T k to t) :=
  pe_mono (pe_bm pa slot hty hm ho ha hbase hfew hline hs hplain) fun σ H Q ⟨G, M, R, E, hv, h, hR, hE⟩ => ⟨G, M, _, E, hv, h, fun x G1 M1 H1 hv1 h1 => ⟨h1.1 H1 hv1, G1, M1, _, E, hv1, h1.2, fun vs G2 M2 H2 hv2 h2 => ⟨G2, M2, R, hv2, h2, hR⟩, hE⟩, hE⟩
theorem je_bm0 {k : KM} {to : KE} (pa : PlainAttrs T) (slot : Slot T name id) (hty : typeOf (.builtin id) = pure (.type "method_descriptor")) (hm : KMt X id k) (ho : JE X W o to)
    (hbase : attributeBase o name X.env (eval o X.env) = eval o X.env := by rfl) (hline : (apos.endLine == cpos.line) = true := by rfl) : JE X W (.Call (.Attribute o name apos) [] [] cpos) (kBM0 X.K T k to) :=
  pe_mono (pe_bm0 pa slot hty hm ho hbase hline) fun σ H Q ⟨G, M, R, E, hv, h, hR, hE⟩ => ⟨G, M, _, E, hv, h, fun x G1 M1 H1 hv1 h1 => ⟨h1.1 H1 hv1, G1, M1, R, hv1, h1.2, hR⟩, hE⟩
def kAppend : KM := fun x vs G M R => match x, vs with
  | .ref a, [y] => ∃ n xs, M[n]? = some (a, .lst xs) ∧ xs.length < sizeLine ∧ R .non G (M.set n (a, .lst (xs ++ [y])))
  | _, _ => False
theorem km_append : KMt X "list.append" kAppend := kmt_of mt_append fun x vs G M R H Q hv h hR => by
  match x, vs, h with
  | .ref a, [y], ⟨n, xs, h1, h2, h3⟩ => exact ⟨a, xs, y, rfl, rfl, hv.get h1, h2, hR _ G _ _ (hv.set h1) h3⟩
def kExtend : KM := fun x vs G M R => match x, vs with
  | .ref a, [.ref b] => ∃ n xs ys, M[n]? = some (a, .lst xs) ∧ At G M b (.lst ys) ∧ xs.length + ys.length ≤ sizeLine ∧ R .non G (M.set n (a, .lst (xs ++ ys)))
  | _, _ => False
theorem km_extend : KMt X "list.extend" kExtend := kmt_of mt_extend fun x vs G M R H Q hv h hR => by
  match x, vs, h with
  | .ref a, [.ref b], ⟨n, xs, ys, h1, h2, h3, h4⟩ => exact ⟨a, b, xs, ys, rfl, rfl, hv.get h1, hv.at h2, h3, hR _ G _ _ (hv.set h1) h4⟩
def kReverse : KM := fun x vs G M R => match x, vs with
  | .ref a, [] => ∃ n xs, M[n]? = some (a, .lst xs) ∧ R .non G (M.set n (a, .lst xs.reverse))
  | _, _ => False
theorem km_reverse : KMt X "list.reverse" kReverse := kmt_of mt_reverse fun x vs G M R H Q hv h hR => by
  match x, vs, h with
  | .ref a, [], ⟨n, xs, h1, h3⟩ => exact ⟨a, xs, rfl, rfl, hv.get h1, hR _ G _ _ (hv.set h1) h3⟩
end
/-! ### defs -/
abbrev KSp := List V → Hp → Mem → KR → KX → Prop
def lift (S : KSp) : Sp := fun vs H Q E => ∃ G M R X, Hv G M H ∧ S vs G M R X ∧ (∀ v G' M' H', Hv G' M' H' → R v G' M' → Q v H') ∧ (∀ c d G' M' H', Hv G' M' H' → X c d G' M' → E c d H')
def kCall (S : KSp) (t : KA) : KE := fun σ G M R E => t σ G M (fun vs G M => S vs G M R E) E
section
variable {X : Cx} {W : WX} {pos p : Pos} {e : Expr} {es : List Expr} {x : Str} {k : Nat} {f : Addr} {fd : FuncData} {ps : List Str} {S : KSp} {t : KA}
theorem je_call (F : FnOk X.prog X.w X.K X.mg X.base (L2.CX X.prog X.w) k f fd ps (lift S)) (hr : Room k X.A) (tk : Takes X W) (hm : X.mg x = some (.ref f)) (hk : PySem.W.keepIn X.K (.ref f) = true) (hb : Binds X.K fd ps []) (ha : JA X W (e :: es) t) (hg : Gl X x := by rfl)
    (hdb : (x == ("__debug__" : Str)) = false := by decide) (he : starEach (e :: es) X.env = (false, eval e X.env) :: starEach es X.env := by rfl) (hpl : (backTo pos (starEach es X.env)).any (·.1) = false := by rfl) :
    JE X W (.Call (.Name x p) (e :: es) [] pos) (kCall S t) :=
  pe_mono (pe_callS F hr hg hm hk hb (passAt tk) ha hdb he hpl) fun σ H Q ⟨G, M, R, E, hv, h, hR, hE⟩ =>
    ⟨G, M, _, E, hv, h, fun vs G1 M1 H1 hv1 h1 => ⟨G1, M1, R, E, hv1, h1, hR, hE⟩, hE⟩
end
end BT
set_option Elab.async false
set_option linter.all false
set_option maxRecDepth 100000
set_option maxHeartbeats 4000000
namespace BT
open PySem PySem.Spec L2
open PyProof.Rows hiding St
/-! ### statements -/
structure Kd where
  nx : St → Hp → Mem → Prop
  rt : KR
  bk : St → Hp → Mem → Prop := fun _ _ _ => False
  ct : St → Hp → Mem → Prop := fun _ _ _ => False
  xc : Value → Option Addr → St → Hp → Mem → Prop := fun _ _ _ _ _ => False
abbrev KS := Kd → St → Hp → Mem → Prop
structure EndsTo (W : WX) (d : Kd) (D : Ends) : Prop where
  nx : ∀ σ G M H, Hv G M H → d.nx σ G M → D.nx σ H
  rt : ∀ v G M H, Hv G M H → d.rt v G M → D.rt v H
  bk : ∀ σ G M H, Hv G M H → d.bk σ G M → D.bk σ H
  ct : ∀ σ G M H, Hv G M H → d.ct σ G M → D.ct σ H
  xc : ∀ c a σ G M H, Hv G M H → d.xc c a σ G M → W c a σ H
def upS (W : WX) (t : KS) : TS := fun D σ H => ∃ G M d, Hv G M H ∧ t d σ G M ∧ EndsTo W d D
def JS (X : Cx) (W : WX) (s : Stmt) (t : KS) : Prop := PS X s (upS W t)
def JSs (X : Cx) (W : WX) (s : List Stmt) (t : KS) : Prop := PSs X s (upS W t)
theorem ps_mono {X : Cx} {s : Stmt} {t t' : TS} (h : PS X s t) (i : ∀ D σ H, t' D σ H → t D σ H) : PS X s t' := ⟨fun pins st σ H D I q => h.run pins st σ H D I (i D σ H q)⟩
theorem pss_mono {X : Cx} {s : List Stmt} {t t' : TS} (h : PSs X s t) (i : ∀ D σ H, t' D σ H → t D σ H) : PSs X s t' := ⟨fun pins st σ H D I q => h.run pins st σ H D I (i D σ H q)⟩
def Kd.x (d : Kd) (σ : St) : KX := fun c a G M => d.xc c a σ G M
section
variable {X : Cx} {W : WX} {pos : Pos} {s : Stmt} {ss : List Stmt} {e : Expr} {t u : KS}
def kNext : KS := fun D σ G M => D.nx σ G M
def kSeq (t u : KS) : KS := fun D σ G M => ∃ G' M', Wk G M G' M' ∧ t { D with nx := u D } σ G' M'
def kNever : KS := fun _ _ _ _ => False
theorem jss_nil : JSs X W [] kNext := pss_mono pss_nil fun D σ H ⟨G, M, d, hv, h, en⟩ => en.nx σ G M H hv h
theorem jss_cons (h1 : JS X W s t) (h2 : JSs X W ss u) : JSs X W (s :: ss) (kSeq t u) := pss_mono (pss_cons h1 h2) fun D σ H ⟨G, M, d, hv, ⟨G', M', wk, h⟩, en⟩ =>
  ⟨G', M', _, wk H hv, h, ⟨fun σ' G2 M2 H2 hv2 q => ⟨G2, M2, d, hv2, q, en⟩, en.rt, en.bk, en.ct, en.xc⟩⟩
theorem js_never : JS X W s kNever := ps_mono ps_never fun D σ H ⟨G, M, d, hv, h, en⟩ => h
theorem js_pass : JS X W (.Pass pos) kNext := ps_mono ps_pass fun D σ H ⟨G, M, d, hv, h, en⟩ => en.nx σ G M H hv h
def kSet (i : Nat) (t : KE) : KS := fun D σ G M => t σ G M (fun v G M => D.nx (σ.set i (some v)) G M) (D.x σ)
theorem js_set {i : Nat} {x : Str} {t : KE} {pos' : Pos} (he : JE X W e t) (hN : X.N.Nodup) (hi : X.N[i]? = some x := by rfl) (hx : Loc X.env.scope x := by first | exact Or.inl rfl | exact Or.inr rfl)
    (hs : swapsWith e (some (.Name x pos')) pos.line X.env = pure false := by rfl) (hf : X.fn x = true ∨ X.env.scope.names.lookup x = some .local := by first | exact .inl rfl | exact .inr rfl | assumption) :
    JS X W (.Assign [.Name x pos'] e pos) (kSet i t) := ps_mono (ps_set hN hi hx he hs hf) fun D σ H ⟨G, M, d, hv, h, en⟩ =>
  ⟨G, M, _, _, hv, h, fun v G' M' H' hv' q => en.nx _ G' M' H' hv' q, fun c a G' M' H' hv' q => en.xc c a σ G' M' H' hv' q⟩
def kExpr (t : KE) : KS := fun D σ G M => t σ G M (fun _ G M => D.nx σ G M) (D.x σ)
theorem js_expr {t : KE} (he : JE X W e t) (hs : swapsWith e none pos.line X.env = pure false := by rfl) : JS X W (.Expr e pos) (kExpr t) := ps_mono (ps_expr he hs) fun D σ H ⟨G, M, d, hv, h, en⟩ =>
  ⟨G, M, _, _, hv, h, fun v G' M' H' hv' q => en.nx _ G' M' H' hv' q, fun c a G' M' H' hv' q => en.xc c a σ G' M' H' hv' q⟩
def kRet (t : KE) : KS := fun D σ G M => t σ G M D.rt (D.x σ)
theorem js_ret {t : KE} (he : JE X W e t) : JS X W (.Return (some e) pos) (kRet t) := ps_mono (ps_ret he) fun D σ H ⟨G, M, d, hv, h, en⟩ =>
  ⟨G, M, _, _, hv, h, fun v G' M' H' hv' q => en.rt _ G' M' H' hv' q, fun c a G' M' H' hv' q => en.xc c a σ G' M' H' hv' q⟩
def kRetN : KS := fun D σ G M => D.rt .non G M
theorem js_retN : JS X W (.Return none pos) kRetN := ps_mono ps_retN fun D σ H ⟨G, M, d, hv, h, en⟩ => en.rt _ G M H hv h
def kIf (c : KT) (t u : KS) : KS := fun D σ G M => c σ G M (fun b G M => if b = true then t D σ G M else u D σ G M) (D.x σ)
theorem js_if {c : Expr} {a b : List Stmt} {tc : KT} (hc : JT X W c tc) (ha : JSs X W a t) (hb : JSs X W b u) : JS X W (.If c a b pos) (kIf tc t u) := ps_mono (ps_if hc ha hb) fun D σ H ⟨G, M, d, hv, h, en⟩ =>
  ⟨G, M, _, _, hv, h, fun v G' M' H' hv' q => by
    cases v with
    | true => rw [if_pos rfl] at q ⊢; exact ⟨G', M', d, hv', q, en⟩
    | false => rw [if_neg Bool.false_ne_true] at q ⊢; exact ⟨G', M', d, hv', q, en⟩, fun c a G' M' H' hv' q => en.xc c a σ G' M' H' hv' q⟩
/-! ### targets -/
structure KG where
  val : V → St → Hp → Mem → (St → Hp → Mem → Prop) → Prop
  tup : List V → St → Hp → Mem → (St → Hp → Mem → Prop) → Prop
structure JG (X : Cx) (tg : Expr) (g : KG) (gr : TG) : Prop where
  pg : PG X tg gr
  val : ∀ v σ G M R H Q, Hv G M H → g.val v σ G M R → (∀ σ' G' M' H', Hv G' M' H' → R σ' G' M' → Q σ' H') → gr v σ H Q
  tup : ∀ T vs σ G M R H Q, Hv G M H → H T = none → g.tup vs σ G M R → (∀ σ' G' M' H', Hv G' M' H' → R σ' G' M' → Q σ' H') → gr (.ref T) σ (upd H T (.tup vs)) Q
def kgName (i : Nat) : KG := ⟨fun v σ G M R => R (σ.set i (some v)) G M, fun vs σ G M R => ∀ T, Fr G M T → R (σ.set i (some (.ref T))) (upd G T (.tup vs)) M⟩
theorem jg_name {i : Nat} {x : Str} (hN : X.N.Nodup) (hi : X.N[i]? = some x := by rfl) (hx : Loc X.env.scope x := by first | exact Or.inl rfl | exact Or.inr rfl) (hf : X.fn x = true ∨ X.env.scope.names.lookup x = some .local := by first | exact .inl rfl | exact .inr rfl | assumption) : JG X (.Name x pos) (kgName i) (gName i) :=
  ⟨pg_name hN hi hx hf, fun v σ G M R H Q hv h hR => hR _ G M H hv h, fun T vs σ G M R H Q hv hT h hR => hR _ _ M _ (hv.newG hT) (h T (hv.fr hT))⟩
/-- several targets at once -/
abbrev KGs := List V → St → Hp → Mem → (St → Hp → Mem → Prop) → Prop
def kgsNil : KGs := fun vs σ G M R => match vs with
  | [] => R σ G M
  | _ => False
def kgsCons (g : KG) (r : KGs) : KGs := fun vs σ G M R => match vs with
  | v :: vs => g.val v σ G M (fun σ G M => r vs σ G M R)
  | [] => False
structure JGs (X : Cx) (ts : List Expr) (g : KGs) (gr : TGs) : Prop where
  pgs : PGs X ts gr
  sim : ∀ vs σ G M R H Q, Hv G M H → g vs σ G M R → (∀ σ' G' M' H', Hv G' M' H' → R σ' G' M' → Q σ' H') → gr vs σ H Q
theorem jgs_nil : JGs X [] kgsNil gNil := ⟨pgs_nil, fun vs σ G M R H Q hv h hR => by
  match vs, h with
  | [], h => exact ⟨rfl, hR _ G M H hv h⟩⟩
theorem jgs_cons {tg : Expr} {ts : List Expr} {g : KG} {r : KGs} {gr : TG} {gs : TGs} (h1 : JG X tg g gr) (hr : JGs X ts r gs)
    (hs : (assignEach (tg :: ts) X.env).map (·.2) = assign tg X.env :: (assignEach ts X.env).map (·.2) := by rfl) : JGs X (tg :: ts) (kgsCons g r) (gCons gr gs) :=
  ⟨pgs_cons h1.pg hr.pgs hs, fun vs σ G M R H Q hv h hR => by
    match vs, h with
    | v :: vs, h => exact ⟨v, vs, rfl, h1.val v σ G M _ H _ hv h fun σ' G' M' H' hv' q => hr.sim vs σ' G' M' R H' Q hv' q hR⟩⟩
def onLen (n : Nat) (g : KGs) : KGs := fun vs σ G M R => match vs.length == n with
  | true => g vs σ G M R
  | false => False
theorem onLen_of {n : Nat} {g : KGs} {vs : List V} {σ : St} {G : Hp} {M : Mem} {R : St → Hp → Mem → Prop} (h : onLen n g vs σ G M R) : vs.length = n ∧ g vs σ G M R := by
  unfold onLen at h
  split at h
  · rename_i e; exact ⟨beq_iff_eq.mp e, h⟩
  · exact h.elim
def kgTup (K : PySem.W.Frag) (n : Nat) (g : KGs) : KG := ⟨fun v σ G M R => match v with
    | .ref a => ∃ xs, SqT K G a xs ∧ onLen n g xs σ G M R
    | _ => False, onLen n g⟩
theorem jg_tup {K : PySem.W.Frag} {ts : List Expr} {g : KGs} {gs : TGs} {n k : Nat} (hc : X.calm = true) (h : JGs X ts g gs) (hK : X.K = K := by rfl) (hn : (assignEach ts X.env).length = n := by rfl) (hst : (assignEach ts X.env).findIdx? (·.1) = none := by rfl) :
    JG X (.Tuple ts k pos) (kgTup K n g) (gTup K n gs) := by
  subst hK
  exact ⟨pg_tup hc h.pgs hn hst, fun v σ G M R H Q hv q hR => by
    match v, q with
    | .ref a, ⟨xs, q1, q2⟩ =>
      obtain ⟨e, q3⟩ := onLen_of q2
      exact ⟨a, xs, rfl, hv.tup q1, e, h.sim xs σ G M R H Q hv q3 hR⟩,
   fun T vs σ G M R H Q hv hT q hR => by
    obtain ⟨e, q3⟩ := onLen_of q
    exact ⟨T, vs, rfl, .inl (.inl upd_same), e, h.sim vs σ G M R _ Q (hv.junk hT) q3 hR⟩⟩
/-- nothing is raised -/
def W0 : WX := fun _ _ _ _ => False
/-- a place of a list as a target -/
def setL (o i v : V) (G : Hp) (M : Mem) (R : Hp → Mem → Prop) : Prop := match o, i with
  | .ref a, .int k => ∃ n xs j, M[n]? = some (a, .lst xs) ∧ ixN xs.length k = some j ∧ R G (M.set n (a, .lst (xs.set j v)))
  | _, _ => False
def kgIx (to ti : KE) : KG := ⟨fun v σ G M R => to σ G M (fun o G M => ti σ G M (fun i G M => setL o i v G M (fun G M => R σ G M)) (fun _ _ _ _ => False)) (fun _ _ _ _ => False), fun _ _ _ _ _ => False⟩
theorem jg_ix {o i : Expr} {to ti : KE} (ho : JE X W0 o to) (hi : JE X W0 i ti)
    (ha : ∀ v, assign (.Subscript o i pos) X.env v = (do
      let ov ← holding [v] (eval o X.env)
      let iv ← holding [v, ov] (eval i X.env)
      standAt pos
      holding [v, ov, iv] (setItem ov iv v)
      release [v, ov, iv] []) := by intro _; rfl) : JG X (.Subscript o i pos) (kgIx to ti) (gSub (upG W0 to) (upG W0 ti) rSetL) :=
  ⟨pg_sub ho hi set_list ha, fun v σ G M R H Q hv q hR => ⟨G, M, _, _, hv, q, fun ov G2 M2 H2 hv2 q2 => ⟨G2, M2, _, _, hv2, q2, fun iv G3 M3 H3 hv3 q3 => by
    match ov, iv, q3 with
    | .ref a, .int k, ⟨n, xs, j, e1, e2, q⟩ => exact ⟨a, xs, k, j, rfl, rfl, hv3.get e1, e2, hR σ G3 _ _ (hv3.set e1) q⟩, fun _ _ _ _ _ _ z => z.elim⟩, fun _ _ _ _ _ _ z => z.elim⟩,
   fun _ _ _ _ _ _ _ _ _ _ z => z.elim⟩
/-- a target of an assignment -/
def kAsg (t : KE) (g : KG) : KS := fun D σ G M => t σ G M (fun v G M => g.val v σ G M D.nx) (D.x σ)
theorem js_asg {tg : Expr} {t : KE} {g : KG} {gr : TG} (he : JE X W e t) (hg : JG X tg g gr) (hs : swapsWithSole [tg] e pos.line X.env = pure false := by rfl) (hw : swappedStores [tg] e X.env = pure none := by rfl)
    (h1 : (assignEach [tg] X.env).map (·.2) = [assign tg X.env] := by rfl) : JS X W (.Assign [tg] e pos) (kAsg t g) := ps_mono (ps_asg he hg.pg hs hw h1) fun D σ H ⟨G, M, d, hv, h, en⟩ =>
  ⟨G, M, _, _, hv, h, fun v G' M' H' hv' q => hg.val v σ G' M' _ H' _ hv' q fun σ' G2 M2 H2 hv2 q2 => en.nx _ G2 M2 H2 hv2 q2, fun c a G' M' H' hv' q => en.xc c a σ G' M' H' hv' q⟩
end
end BT
set_option Elab.async false
set_option linter.all false
set_option maxRecDepth 100000
set_option maxHeartbeats 4000000
namespace BT
open PySem PySem.Spec L2
open PyProof.Rows hiding St
/-! ### what is walked -/
structure Src where
  n : Nat
  get : Nat → V ⊕ List V
  ok : Hp → Mem → Prop
abbrev KI := KK Src
/-- an iterator that gives what the source says -/
structure Goes (src : Src) (J : It) : Prop where
  go : ∀ i G M H, Hv G M H → src.ok G M → i < src.n → J.go i H
  stop : ∀ i G M H, Hv G M H → src.ok G M → src.n ≤ i → J.stop i H
  yld : ∀ i G M H x H', Hv G M H → src.ok G M → i < src.n → J.yld i H x H' → match src.get i with
    | .inl v => x = v ∧ H' = H
    | .inr vs => ∃ T, x = .ref T ∧ H T = none ∧ H' = upd H T (.tup vs)
def upI (W : WX) (t : KI) : TI := fun σ H Q => ∃ G M R E, Hv G M H ∧ t σ G M R E ∧ (∀ src G' M' H', Hv G' M' H' → R src G' M' → ∀ J, Goes src J → Q J H') ∧ (∀ c d G' M' H', Hv G' M' H' → E c d G' M' → W c d σ H')
def JI (X : Cx) (W : WX) (tg it : Expr) (t : KI) : Prop := PI X tg it (upI W t)
theorem pi_mono {X : Cx} {tg it : Expr} {t t' : TI} (h : PI X tg it t) (i : ∀ σ H Q, t' σ H Q → t σ H Q) : PI X tg it t' := ⟨fun pins s σ H Q I q => h.run pins s σ H Q I (i σ H Q q)⟩
def srcL (K : PySem.W.Frag) (a : Addr) (xs : List V) : Src := ⟨xs.length, fun i => .inl (xs.getD i .non), fun G M => LstAt K G M a xs⟩
def srcT (K : PySem.W.Frag) (a : Addr) (xs : List V) : Src := ⟨xs.length, fun i => .inl (xs.getD i .non), fun G M => SqT K G a xs⟩
def srcR (lo : Int) (n : Nat) : Src := ⟨n, fun i => .inl (.int (lo + i)), fun _ _ => True⟩
def srcC (lo c : Int) (n : Nat) : Src := ⟨n, fun i => .inl (.int (lo + (i : Nat) * c)), fun _ _ => True⟩
def srcE (K : PySem.W.Frag) (a : Addr) (xs : List V) : Src := ⟨xs.length, fun i => .inr [.int i, xs.getD i .non], fun G M => LstAt K G M a xs⟩
def srcZ (K : PySem.W.Frag) (a b : Addr) (xs ys : List V) : Src := ⟨min xs.length ys.length, fun i => .inr [xs.getD i .non, ys.getD i .non], fun G M => LstAt K G M a xs ∧ LstAt K G M b ys⟩
def srcV (K : PySem.W.Frag) (a : Addr) (xs : List V) : Src := ⟨xs.length, fun i => .inl (xs.getD (xs.length - 1 - i) .non), fun G M => LstAt K G M a xs⟩
theorem getD_of {xs : List V} {i : Nat} {x : V} (h : xs[i]? = some x) : xs.getD i .non = x := by
  rw [List.getD_eq_getElem?_getD, h]; rfl
theorem get_lt {xs : List V} {i : Nat} (h : i < xs.length) : xs[i]? = some (xs.getD i .non) := by
  rw [List.getD_eq_getElem?_getD, List.getElem?_eq_getElem h]; rfl
theorem goes_L {K : PySem.W.Frag} {a : Addr} {xs : List V} : Goes (srcL K a xs) (Itl K a) where
  go := fun i G M H hv ok hi => ⟨xs, _, hv.lst ok, get_lt hi⟩
  stop := fun i G M H hv ok hi => ⟨xs, hv.lst ok, hi⟩
  yld := fun i G M H x H' hv ok hi y => ⟨(getD_of (y.2 xs (hv.lst ok))).symm, y.1⟩
theorem goes_T {K : PySem.W.Frag} {a : Addr} {xs : List V} : Goes (srcT K a xs) (Itt K a) where
  go := fun i G M H hv ok hi => ⟨xs, _, hv.tup ok, get_lt hi⟩
  stop := fun i G M H hv ok hi => ⟨xs, hv.tup ok, hi⟩
  yld := fun i G M H x H' hv ok hi y => ⟨(getD_of (y.2 xs (hv.tup ok))).symm, y.1⟩
theorem goes_R {lo : Int} {n : Nat} : Goes (srcR lo n) (Itr lo n) where
  go := fun i G M H hv ok hi => hi
  stop := fun i G M H hv ok hi => hi
  yld := fun i G M H x H' hv ok hi y => ⟨y.2, y.1⟩
theorem goes_C {lo c : Int} {n : Nat} : Goes (srcC lo c n) (Itc lo c n) where
  go := fun i G M H hv ok hi => hi
  stop := fun i G M H hv ok hi => hi
  yld := fun i G M H x H' hv ok hi y => ⟨y.2, y.1⟩
theorem goes_E {K : PySem.W.Frag} {a : Addr} {xs : List V} : Goes (srcE K a xs) (Ite K a) where
  go := fun i G M H hv ok hi => ⟨xs, _, hv.lst ok, get_lt hi⟩
  stop := fun i G M H hv ok hi => ⟨xs, hv.lst ok, hi⟩
  yld := fun i G M H x H' hv ok hi y => by
    obtain ⟨T, z, e1, e2, e3, e4⟩ := y
    have e5 := getD_of (e4 xs (hv.lst ok))
    exact ⟨T, e1, e2, by rw [e3, ← e5]⟩
theorem goes_Z {K : PySem.W.Frag} {a b : Addr} {xs ys : List V} : Goes (srcZ K a b xs ys) (Itz K a b) where
  go := fun i G M H hv ok hi => ⟨xs, ys, _, _, hv.lst ok.1, hv.lst ok.2, get_lt (Nat.lt_of_lt_of_le hi (Nat.min_le_left _ _)), get_lt (Nat.lt_of_lt_of_le hi (Nat.min_le_right _ _))⟩
  stop := fun i G M H hv ok hi => ⟨xs, ys, hv.lst ok.1, hv.lst ok.2, by
    have hi : min xs.length ys.length ≤ i := hi
    omega⟩
  yld := fun i G M H x H' hv ok hi y => by
    obtain ⟨T, z, w, e1, e2, e3, e4, e5⟩ := y
    have e6 := getD_of (e4 xs (hv.lst ok.1))
    have e7 := getD_of (e5 ys (hv.lst ok.2))
    exact ⟨T, e1, e2, by rw [e3, ← e6, ← e7]⟩
theorem goes_V {K : PySem.W.Frag} {a : Addr} {xs : List V} : Goes (srcV K a xs) (Itv K a xs.length) where
  go := fun i G M H hv ok hi => ⟨hi, xs, _, hv.lst ok, get_lt (by have hi : i < xs.length := hi; omega)⟩
  stop := fun i G M H hv ok hi => hi
  yld := fun i G M H x H' hv ok hi y => ⟨(getD_of (y.2 xs (hv.lst ok))).symm, y.1⟩
section
variable {X : Cx} {W : WX} {pos p tpos : Pos} {e e2 a b c : Expr} {es : List Expr} {tg : Expr}
def kiSeq (K : PySem.W.Frag) (t : KE) : KI := fun σ G M R E => t σ G M (fun x G M => match x with
  | .ref a => ∃ xs, LstAt K G M a xs ∧ R (srcL K a xs) G M
  | _ => False) E
def kiTup (K : PySem.W.Frag) (t : KE) : KI := fun σ G M R E => t σ G M (fun x G M => match x with
  | .ref a => ∃ xs, SqT K G a xs ∧ R (srcT K a xs) G M
  | _ => False) E
theorem ji_list {t : KE} (h : JE X W e t) : JI X W tg e (kiSeq X.K t) := pi_mono (pi_list h) fun σ H Q ⟨G, M, R, E, hv, h, hR, hE⟩ => ⟨G, M, _, E, hv, h, fun x G1 M1 H1 hv1 q => by
    match x, q with
    | .ref a, ⟨xs, q1, q2⟩ => exact ⟨a, rfl, ⟨xs, hv1.lst q1⟩, hR _ G1 M1 H1 hv1 q2 _ goes_L⟩, hE⟩
theorem ji_tup {t : KE} (h : JE X W e t) : JI X W tg e (kiTup X.K t) := pi_mono (pi_tup h) fun σ H Q ⟨G, M, R, E, hv, h, hR, hE⟩ => ⟨G, M, _, E, hv, h, fun x G1 M1 H1 hv1 q => by
    match x, q with
    | .ref a, ⟨xs, q1, q2⟩ => exact ⟨a, rfl, ⟨xs, hv1.tup q1⟩, hR _ G1 M1 H1 hv1 q2 _ goes_T⟩, hE⟩
/-- range(n), range(a, b), range(a, b, c) -/
def kiR1 (t : KA) : KI := fun σ G M R E => t σ G M (fun vs G M => match vs with
  | [.int j] => (-(2 ^ 62) ≤ j ∧ j < 2 ^ 62) ∧ R (srcR 0 j.toNat) G M
  | _ => False) E
def kiR2 (t : KA) : KI := fun σ G M R E => t σ G M (fun vs G M => match vs with
  | [.int i, .int j] => (-(2 ^ 62) ≤ i ∧ i < 2 ^ 62 ∧ -(2 ^ 62) ≤ j ∧ j < 2 ^ 62) ∧ R (srcR i (j - i).toNat) G M
  | _ => False) E
def kiR3 (t : KA) : KI := fun σ G M R E => t σ G M (fun vs G M => match vs with
  | [.int i, .int j, .int c] => ∃ n, RgC i j c n ∧ R (srcC i c n) G M
  | _ => False) E
theorem ji_range1 {t : KA} (hm : X.mg "range" = none) (ha : JA X W [a] t) (hg : Gl X "range" := by rfl) (hs : starEach [a] X.env = [(false, eval a X.env)] := by rfl) : JI X W tg (.Call (.Name "range" p) [a] [] pos) (kiR1 t) :=
  pi_mono (pi_range1 hg hm ha hs) fun σ H Q ⟨G, M, R, E, hv, h, hR, hE⟩ => ⟨G, M, _, E, hv, h, fun vs G1 M1 H1 hv1 q => by
    match vs, q with
    | [.int j], ⟨⟨q1, q2⟩, q3⟩ => exact ⟨j, rfl, q1, q2, hR _ G1 M1 H1 hv1 q3 _ goes_R⟩, hE⟩
theorem ji_range2 {t : KA} (hm : X.mg "range" = none) (ha : JA X W [a, b] t) (hg : Gl X "range" := by rfl) (hs : starEach [a, b] X.env = [(false, eval a X.env), (false, eval b X.env)] := by rfl) (hs2 : starEach [b] X.env = [(false, eval b X.env)] := by rfl) : JI X W tg (.Call (.Name "range" p) [a, b] [] pos) (kiR2 t) :=
  pi_mono (pi_range2 hg hm ha hs hs2) fun σ H Q ⟨G, M, R, E, hv, h, hR, hE⟩ => ⟨G, M, _, E, hv, h, fun vs G1 M1 H1 hv1 q => by
    match vs, q with
    | [.int i, .int j], ⟨q1, q3⟩ => exact ⟨i, j, rfl, q1, hR _ G1 M1 H1 hv1 q3 _ goes_R⟩, hE⟩
theorem ji_range3 {t : KA} (hm : X.mg "range" = none) (ha : JA X W [a, b, c] t) (hg : Gl X "range" := by rfl) (hs : starEach [a, b, c] X.env = (false, eval a X.env) :: starEach [b, c] X.env := by rfl) (hpl : (backTo pos (starEach [b, c] X.env)).any (·.1) = false := by rfl) : JI X W tg (.Call (.Name "range" p) [a, b, c] [] pos) (kiR3 t) :=
  pi_mono (pi_range3 hg hm ha hs hpl) fun σ H Q ⟨G, M, R, E, hv, h, hR, hE⟩ => ⟨G, M, _, E, hv, h, fun vs G1 M1 H1 hv1 q => by
    match vs, q with
    | [.int i, .int j, .int c], ⟨n, q1, q3⟩ => exact ⟨i, j, c, n, rfl, q1, hR _ G1 M1 H1 hv1 q3 _ goes_C⟩, hE⟩
def kiEnum (K : PySem.W.Frag) (t : KA) : KI := fun σ G M R E => t σ G M (fun vs G M => match vs with
  | [.ref a] => ∃ xs, LstAt K G M a xs ∧ R (srcE K a xs) G M
  | _ => False) E
def kiRev (K : PySem.W.Frag) (t : KA) : KI := fun σ G M R E => t σ G M (fun vs G M => match vs with
  | [.ref a] => ∃ xs, LstAt K G M a xs ∧ R (srcV K a xs) G M
  | _ => False) E
def kiZip (K : PySem.W.Frag) (t : KA) : KI := fun σ G M R E => t σ G M (fun vs G M => match vs with
  | [.ref a, .ref b] => ∃ xs ys, LstAt K G M a xs ∧ LstAt K G M b ys ∧ R (srcZ K a b xs ys) G M
  | _ => False) E
variable {elts : List Expr} {kk : Nat}
theorem ji_enum {t : KA} (hm : X.mg "enumerate" = none) (ha : JA X W [e] t) (hg : Gl X "enumerate" := by rfl) (hs : starEach [e] X.env = [(false, eval e X.env)] := by rfl) : JI X W (.Tuple elts kk tpos) (.Call (.Name "enumerate" p) [e] [] pos) (kiEnum X.K t) :=
  pi_mono (pi_enum hg hm ha hs) fun σ H Q ⟨G, M, R, E, hv, h, hR, hE⟩ => ⟨G, M, _, E, hv, h, fun vs G1 M1 H1 hv1 q => by
    match vs, q with
    | [.ref a], ⟨xs, q1, q3⟩ => exact ⟨a, xs, rfl, hv1.lst q1, hR _ G1 M1 H1 hv1 q3 _ goes_E⟩, hE⟩
theorem ji_rev {t : KA} (hm : X.mg "reversed" = none) (ha : JA X W [e] t) (hg : Gl X "reversed" := by rfl) (hs : starEach [e] X.env = [(false, eval e X.env)] := by rfl) : JI X W tg (.Call (.Name "reversed" p) [e] [] pos) (kiRev X.K t) :=
  pi_mono (pi_reversed hg hm ha hs) fun σ H Q ⟨G, M, R, E, hv, h, hR, hE⟩ => ⟨G, M, _, E, hv, h, fun vs G1 M1 H1 hv1 q => by
    match vs, q with
    | [.ref a], ⟨xs, q1, q3⟩ => exact ⟨a, xs, rfl, hv1.lst q1, hR _ G1 M1 H1 hv1 q3 _ goes_V⟩, hE⟩
theorem ji_zip {t : KA} (hm : X.mg "zip" = none) (ha : JA X W [e, e2] t) (hg : Gl X "zip" := by rfl) (hs : starEach [e, e2] X.env = (false, eval e X.env) :: starEach [e2] X.env := by rfl) (hpl : (backTo pos (starEach [e2] X.env)).any (·.1) = false := by rfl) :
    JI X W (.Tuple elts kk tpos) (.Call (.Name "zip" p) [e, e2] [] pos) (kiZip X.K t) :=
  pi_mono (pi_zip hg hm ha hs hpl) fun σ H Q ⟨G, M, R, E, hv, h, hR, hE⟩ => ⟨G, M, _, E, hv, h, fun vs G1 M1 H1 hv1 q => by
    match vs, q with
    | [.ref a, .ref b], ⟨xs, ys, q1, q2, q3⟩ => exact ⟨a, b, xs, ys, rfl, hv1.lst q1, hv1.lst q2, hR _ G1 M1 H1 hv1 q3 _ goes_Z⟩, hE⟩
/-! ### for -/
def asg (g : KG) (w : V ⊕ List V) : St → Hp → Mem → (St → Hp → Mem → Prop) → Prop := match w with
  | .inl v => g.val v
  | .inr vs => g.tup vs
def wk1 (Pv : St → Hp → Mem → Prop) : St → Hp → Mem → Prop := fun σ G M => ∃ G' M', Wk G M G' M' ∧ Pv σ G' M'
def kFor (ti : KI) (g : KG) (tb : KS) : KS := fun D σ G M => ti σ G M (fun src G M => ∃ Pv : Nat → St → Hp → Mem → Prop, Pv 0 σ G M ∧ (∀ i σ G M, i ≤ src.n → Pv i σ G M → src.ok G M) ∧
  (∀ i σ G M, i < src.n → Pv i σ G M → asg g (src.get i) σ G M (fun σ G M => tb { D with nx := wk1 (Pv (i + 1)), ct := wk1 (Pv (i + 1)), bk := D.nx } σ G M)) ∧ (∀ σ G M, Pv src.n σ G M → D.nx σ G M)) (D.x σ)
theorem asg_sim {g : KG} {gr : TG} (hg : JG X tg g gr) {w : V ⊕ List V} {σ : St} {G : Hp} {M : Mem} {R : St → Hp → Mem → Prop} {H H' : Hp} {x : V} {Q : St → Hp → Prop} (hv : Hv G M H)
    (y : match w with | .inl v => x = v ∧ H' = H | .inr vs => ∃ T, x = .ref T ∧ H T = none ∧ H' = upd H T (.tup vs)) (h : asg g w σ G M R) (hR : ∀ σ' G' M' H', Hv G' M' H' → R σ' G' M' → Q σ' H') : gr x σ H' Q := by
  cases w with
  | inl v =>
    obtain ⟨rfl, rfl⟩ := y
    exact hg.val _ σ G M R _ Q hv h hR
  | inr vs =>
    obtain ⟨T, rfl, hT, rfl⟩ := y
    exact hg.tup T vs σ G M R H Q hv hT h hR
theorem js_for {it : Expr} {body : List Stmt} {ti : KI} {g : KG} {gr : TG} {tb : KS} (hp : PassesOwn (model X.prog X.w) X.A X.env X.xe) (hc : X.calm = true) (hi : JI X W tg it ti) (hg : JG X tg g gr) (hb : JSs X W body tb)
    (hs : ∀ x, foldedSetIterable it X.env x = pure x := by intro _; rfl) : JS X W (.For tg it body [] pos) (kFor ti g tb) := ps_mono (ps_for hp hc hi hg.pg hb hs) fun D σ H ⟨G, M, d, hv, h, en⟩ => by
  refine ⟨G, M, _, _, hv, h, fun src G1 M1 H1 hv1 q J go => ?_, fun c a G' M' H' hv' q => en.xc c a σ G' M' H' hv' q⟩
  obtain ⟨Pv, p0, pok, pst, pend⟩ := q
  refine ⟨fun i m σ H => m = src.n - i ∧ i ≤ src.n ∧ ∃ G M, Hv G M H ∧ Pv i σ G M, ⟨src.n, by simp, Nat.zero_le _, G1, M1, hv1, p0⟩, ?_⟩
  rintro i m σ2 H2 ⟨rfl, hi2, G2, M2, hv2, p2⟩
  have ok := pok i σ2 G2 M2 hi2 p2
  by_cases hlt : i < src.n
  · refine .inr ⟨go.go i G2 M2 H2 hv2 ok hlt, fun σ' H' => ∃ G M, Hv G M H' ∧ Pv (i + 1) σ' G M, fun σ' H' ⟨G3, M3, hv3, p3⟩ => ⟨src.n - (i + 1), by omega, rfl, hlt, G3, M3, hv3, p3⟩, fun x H' y => ?_⟩
    refine asg_sim hg hv2 (go.yld i G2 M2 H2 x H' hv2 ok hlt y) (pst i σ2 G2 M2 hlt p2) fun σ3 G3 M3 H3 hv3 q3 => ?_
    have e1 : ∀ σ G M H, Hv G M H → wk1 (Pv (i + 1)) σ G M → ∃ G M, Hv G M H ∧ Pv (i + 1) σ G M := fun σ G M H hv ⟨G', M', wk, q⟩ => ⟨G', M', wk H hv, q⟩
    exact ⟨G3, M3, _, hv3, q3, ⟨e1, en.rt, en.nx, e1, en.xc⟩⟩
  · have e : i = src.n := by omega
    subst e
    exact .inl ⟨go.stop _ G2 M2 H2 hv2 ok (Nat.le_refl _), en.nx _ G2 M2 H2 hv2 (pend σ2 G2 M2 p2)⟩
/-! ### while -/
def kWhile (c : KT) (tb : KS) : KS := fun D σ G M => ∃ Pv : Nat → St → Hp → Mem → Prop, (∃ m, Pv m σ G M) ∧ ∀ m σ G M, Pv m σ G M →
  c σ G M (fun b G M => if b = true then tb { D with nx := fun σ G M => ∃ m', m' < m ∧ wk1 (Pv m') σ G M, ct := fun σ G M => ∃ m', m' < m ∧ wk1 (Pv m') σ G M, bk := D.nx } σ G M else D.nx σ G M) (D.x σ)
theorem js_while {c : Expr} {body : List Stmt} {tc : KT} {tb : KS} (hp : PassesOwn (model X.prog X.w) X.A X.env X.xe) (hc : JT X W c tc) (hb : JSs X W body tb) : JS X W (.While c body [] pos) (kWhile tc tb) := ps_mono (ps_while hp hc hb) fun D σ H ⟨G, M, d, hv, ⟨Pv, ⟨m0, p0⟩, st⟩, en⟩ => by
  refine ⟨fun m σ H => ∃ G M, Hv G M H ∧ Pv m σ G M, ⟨m0, G, M, hv, p0⟩, ?_⟩
  rintro m σ1 H1 ⟨G1, M1, hv1, p1⟩
  refine ⟨G1, M1, _, _, hv1, st m σ1 G1 M1 p1, fun b G2 M2 H2 hv2 q2 => ?_, fun c a G' M' H' hv' q => en.xc c a σ1 G' M' H' hv' q⟩
  cases b with
  | true =>
    rw [if_pos rfl] at q2 ⊢
    refine ⟨fun σ' H' => ∃ m', m' < m ∧ ∃ G M, Hv G M H' ∧ Pv m' σ' G M, fun σ' H' h => h, ?_⟩
    have e1 : ∀ σ G M H, Hv G M H → (∃ m', m' < m ∧ wk1 (Pv m') σ G M) → ∃ m', m' < m ∧ ∃ G M, Hv G M H ∧ Pv m' σ G M := fun σ G M H hv ⟨m', l, G', M', wk, q⟩ => ⟨m', l, G', M', wk H hv, q⟩
    exact ⟨G2, M2, _, hv2, q2, ⟨e1, en.rt, en.nx, e1, en.xc⟩⟩
  | false =>
    rw [if_neg Bool.false_ne_true] at q2 ⊢
    exact en.nx _ G2 M2 H2 hv2 q2
/-! ### list comprehensions -/
def E0 : KX := fun _ _ _ _ => False
def kYes : KT := fun _ G M R _ => R true G M
def JTs (X : Cx) (W : WX) (es : List Expr) (t : KT) : Prop := PTs X es (upG W t)
theorem jts_nil : JTs X W [] kYes := ⟨fun pins s σ H Q I ⟨G, M, R, E, hv, h, hR, _⟩ => pts_nil.run pins s σ H Q I (hR _ G M H hv h)⟩
theorem jts_one {t : KT} (h : JT X W c t) : JTs X W [c] t := pts_one h
def kComp (ti : KI) (g : KG) (tt : KT) (te : KE) (own : List Nat) : KE := fun σ G M R E => ti σ G M (fun src G M => src.n ≤ sizeLine ∧ ∃ Pv : Nat → List V → Hp → Mem → Prop, Pv 0 [] G M ∧ (∀ i acc G M, i ≤ src.n → Pv i acc G M → src.ok G M) ∧
  (∀ i acc G M D, i < src.n → acc.length ≤ i → Pv i acc G M → Fr G M D → asg g (src.get i) (wipe σ own) G ((D, .lst acc) :: M) (fun σ2 G M => wipe σ2 own = wipe σ own ∧ tt σ2 G M (fun b G M =>
    if b = true then te σ2 G M (fun y G M => ∃ G' M', Wk G M G' ((D, .lst acc) :: M') ∧ Pv (i + 1) (acc ++ [y]) G' M') E0 else ∃ G' M', Wk G M G' ((D, .lst acc) :: M') ∧ Pv (i + 1) acc G' M') E0)) ∧
  (∀ acc G M p, Pv src.n acc G M → acc.length ≤ src.n → Fr G M p → R (.ref p) G ((p, .lst acc) :: M))) E
theorem comp_sim {K : PySem.W.Frag} {ti : KI} {g : KG} {gr : TG} {tt : KT} {te : KE} {own : List Nat} {σ : St} {H : Hp} {Q : VK}
    (hgv : ∀ v σ G M R H Q, Hv G M H → g.val v σ G M R → (∀ σ' G' M' H', Hv G' M' H' → R σ' G' M' → Q σ' H') → gr v σ H Q)
    (hgt : ∀ T vs σ G M R H Q, Hv G M H → H T = none → g.tup vs σ G M R → (∀ σ' G' M' H', Hv G' M' H' → R σ' G' M' → Q σ' H') → gr (.ref T) σ (upd H T (.tup vs)) Q)
    (h : upG W (kComp ti g tt te own) σ H Q) : tLc (upI W ti) gr (upG W0 tt) (upG W0 te) own σ H Q := by
  obtain ⟨G, M, R, E, hv, h, hR, hE⟩ := h
  refine ⟨G, M, _, E, hv, h, fun src G1 M1 H1 hv1 q J go => ?_, hE⟩
  obtain ⟨hn, Pv, p0, pok, pst, pend⟩ := q
  intro D hD
  refine ⟨fun i m H => m = src.n - i ∧ i ≤ src.n ∧ ∃ acc G M, acc.length ≤ i ∧ Hv G ((D, .lst acc) :: M) H ∧ Pv i acc G M, ⟨src.n, by simp, Nat.zero_le _, [], G1, M1, Nat.le_refl _, hv1.newM hD, p0⟩, ?_⟩
  rintro i m H2 ⟨rfl, hi2, acc, G2, M2, hacc, hv2, p2⟩
  have hv2' : Hv G2 M2 H2 := Wk.drop0 H2 hv2
  have ok := pok i acc G2 M2 hi2 p2
  have fD : Fr G2 M2 D := by
    refine ⟨hv2.dj (D, .lst acc) List.mem_cons_self, fun x hx e => ?_⟩
    have nd := hv2.nd
    rw [List.map_cons, List.nodup_cons] at nd
    exact nd.1 (by rw [← e]; exact List.mem_map.mpr ⟨x, hx, rfl⟩)
  by_cases hlt : i < src.n
  · refine .inr ⟨go.go i G2 M2 H2 hv2' ok hlt, fun H' => ∃ acc G M, acc.length ≤ i + 1 ∧ Hv G ((D, .lst acc) :: M) H' ∧ Pv (i + 1) acc G M, fun H' ⟨acc', G3, M3, l3, hv3, p3⟩ => ⟨src.n - (i + 1), by omega, rfl, hlt, acc', G3, M3, l3, hv3, p3⟩, fun x H' y => ?_⟩
    have step := pst i acc G2 M2 D hlt hacc p2 fD
    have yy := go.yld i G2 M2 H2 x H' hv2' ok hlt y
    have fin : ∀ σ3 G3 M3 H3, Hv G3 M3 H3 → (wipe σ3 own = wipe σ own ∧ tt σ3 G3 M3 (fun b G M =>
        if b = true then te σ3 G M (fun y G M => ∃ G' M', Wk G M G' ((D, .lst acc) :: M') ∧ Pv (i + 1) (acc ++ [y]) G' M') E0 else ∃ G' M', Wk G M G' ((D, .lst acc) :: M') ∧ Pv (i + 1) acc G' M') E0) →
        (wipe σ3 own = wipe σ own ∧ upG W0 tt σ3 H3 fun b H3 => if b = true then upG W0 te σ3 H3 fun y H4 => ∃ acc, H4 D = some (.lst acc) ∧ acc.length < sizeLine ∧ (∃ acc' G M, acc'.length ≤ i + 1 ∧ Hv G ((D, .lst acc') :: M) (upd H4 D (.lst (acc ++ [y]))) ∧ Pv (i + 1) acc' G M) else ∃ acc' G M, acc'.length ≤ i + 1 ∧ Hv G ((D, .lst acc') :: M) H3 ∧ Pv (i + 1) acc' G M) := by
      rintro σ3 G3 M3 H3 hv3 ⟨ew, q3⟩
      refine ⟨ew, G3, M3, _, _, hv3, q3, fun b G4 M4 H4 hv4 q4 => ?_, fun _ _ _ _ _ _ z => z.elim⟩
      cases b with
      | true =>
        rw [if_pos rfl] at q4 ⊢
        refine ⟨G4, M4, _, _, hv4, q4, fun y G5 M5 H5 hv5 ⟨G6, M6, wk, p6⟩ => ?_, fun _ _ _ _ _ _ z => z.elim⟩
        have hv6 := wk H5 hv5
        refine ⟨acc, hv6.mu (D, .lst acc) List.mem_cons_self, by omega, acc ++ [y], G6, M6, by rw [List.length_append]; exact Nat.succ_le_succ hacc, ?_, p6⟩
        exact hv6.set (n := 0) (o' := .lst (acc ++ [y])) rfl
      | false =>
        rw [if_neg Bool.false_ne_true] at q4 ⊢
        obtain ⟨G6, M6, wk, p6⟩ := q4
        exact ⟨acc, G6, M6, by omega, wk H4 hv4, p6⟩
    revert yy step
    cases src.get i with
    | inl v =>
      rintro step ⟨rfl, rfl⟩
      exact hgv _ _ G2 _ _ _ _ hv2 step fin
    | inr vs =>
      rintro step ⟨T, rfl, hT, rfl⟩
      exact hgt T vs _ G2 _ _ _ _ hv2 hT step fin
  · have e : i = src.n := by omega
    subst e
    exact .inl ⟨go.stop _ G2 M2 H2 hv2' ok (Nat.le_refl _), hR _ _ _ _ hv2 (pend acc G2 M2 D p2 hacc fD)⟩
variable {elt it : Expr} {ifs : List Expr} {scope : Scope} {own : List (Str × Nat)} {spos py : Pos}
theorem je_comp {ti : KI} {g : KG} {gr : TG} {tt : KT} {te : KE} (hc : X.calm = true) (hN : X.N.Nodup) (hi : JI X W tg it ti) (ok : BlkOk X.N X.env.scope scope own)
    (hg : ∀ (s : Shared) (H : Hp) (C : Addr) (cl : List (Str × Addr)) (fp : List Addr), JG (X.blk s H scope (compEnvC scope cl C X.env) fp) tg g gr) (ht : ∀ (s : Shared) (H : Hp) (C : Addr) (cl : List (Str × Addr)) (fp : List Addr), JTs (X.blk s H scope (compEnvC scope cl C X.env) fp) W0 ifs tt)
    (he : ∀ (s : Shared) (H : Hp) (C : Addr) (cl : List (Str × Addr)) (fp : List Addr), JE (X.blk s H scope (compEnvC scope cl C X.env) fp) W0 elt te) (hs : ∀ x, foldedSetIterable it X.env x = pure x := by intro _; rfl) :
    JE X W (.ListComp elt [⟨tg, it, ifs, 0⟩] scope pos) (kComp ti g tt te (own.map (·.2))) :=
  pe_mono (pe_lc hc hN hi ok (fun s H C cl fp => (hg s H C cl fp).pg) ht he hs) fun σ H Q h =>
    comp_sim (K := X.K) (fun v σ G M R H Q hv => ((hg X.s_0 H 0 [] []).val v σ G M R H Q hv)) (fun T vs σ G M R H Q hv => ((hg X.s_0 H 0 [] []).tup T vs σ G M R H Q hv)) h
theorem js_setComp {i : Nat} {y : Str} {ti : KI} {g : KG} {gr : TG} {tt : KT} {te : KE} (hc : X.calm = true) (hN : X.N.Nodup) (hsw : swapsWith (.ListComp elt [⟨tg, it, ifs, 0⟩] scope pos) (some (.Name y py)) spos.line X.env = pure true) (hi : JI X W tg it ti) (ok : BlkOk X.N X.env.scope scope own)
    (hg : ∀ (s : Shared) (H : Hp) (C : Addr) (cl : List (Str × Addr)) (fp : List Addr), JG (X.blk s H scope (compEnvC scope cl C X.env) fp) tg g gr) (ht : ∀ (s : Shared) (H : Hp) (C : Addr) (cl : List (Str × Addr)) (fp : List Addr), JTs (X.blk s H scope (compEnvC scope cl C X.env) fp) W0 ifs tt)
    (he : ∀ (s : Shared) (H : Hp) (C : Addr) (cl : List (Str × Addr)) (fp : List Addr), JE (X.blk s H scope (compEnvC scope cl C X.env) fp) W0 elt te) (hy : X.N[i]? = some y := by rfl) (hyl : X.env.scope.names.lookup y = some .local := by rfl) (hs : ∀ x, foldedSetIterable it X.env x = pure x := by intro _; rfl) :
    JS X W (.Assign [.Name y py] (.ListComp elt [⟨tg, it, ifs, 0⟩] scope pos) spos) (kSet i (kComp ti g tt te (own.map (·.2)))) :=
  ps_mono (ps_setLc hc hN hy hyl hsw hi ok (fun s H C cl fp => (hg s H C cl fp).pg) ht he hs) fun D σ H ⟨G, M, d, hv, h, en⟩ =>
    comp_sim (K := X.K) (fun v σ G M R H Q hv => ((hg X.s_0 H 0 [] []).val v σ G M R H Q hv)) (fun T vs σ G M R H Q hv => ((hg X.s_0 H 0 [] []).tup T vs σ G M R H Q hv))
      ⟨G, M, _, _, hv, h, fun v G' M' H' hv' q => en.nx _ G' M' H' hv' q, fun c a G' M' H' hv' q => en.xc c a σ G' M' H' hv' q⟩
end
/-! ### a def -/
/-- what is known may be weakened at the end -/
def wkR (R : KR) : KR := fun v G M => ∀ H, Hv G M H → ∃ G' M', Hv G' M' H ∧ R v G' M'
def wkX (Z : KX) : KX := fun c d G M => ∃ G' M', Wk G M G' M' ∧ Z c d G' M'
theorem ret0 {R : KR} {v : V} {G : Hp} {M : Mem} (h : R v G M) : wkR R v G M := fun _ hv => ⟨G, M, hv, h⟩
theorem retW {R : KR} {v : V} {G G' : Hp} {M M' : Mem} (w : Wk G M G' M') (h : R v G' M') : wkR R v G M := fun H hv => ⟨G', M', w H hv, h⟩
theorem wkR_wk {R : KR} {v : V} {G G' : Hp} {M M' : Mem} (w : Wk G M G' M') (h : wkR R v G' M') : wkR R v G M := fun H hv => h H (w H hv)
section
variable {P : Program} {w : World} {K : PySem.W.Frag} {mg : Str → Option Value} {base : Heap}
theorem fn_ok {x qual : Str} {st : Stmt} {f : Addr} {fd : FuncData} {N ps : List Str} {k : Nat} {S : KSp} (F : Fun K x qual st f fd) (sc : FnScope N ps (defScope st)) (len : ∀ vs G M R X, S vs G M R X → vs.length = ps.length)
    (hbody : ∀ (cdv : Value) (A : Around) (outer : List Env) (s : Shared) (H : Hp) (E : XK), Room k (A.deeper (envOfC qual (defScope st) s.heap.objs.size f cdv)) →
      ∃ t, JSs (cxOf (L2.CX P w) P w K mg base N qual (defScope st) f cdv A outer s H E) (fun c d _ H => E c d H) (defBody st) t ∧
        ∀ vs G M R Z, S vs G M R Z → t { nx := fun _ G M => wkR R .non G M, rt := wkR R, xc := fun c d _ G M => wkX Z c d G M } (start N vs) G M) : FnOk P w K mg base (L2.CX P w) (k + 1) f fd ps (lift S) := by
  refine F.okX sc (fun vs H Q E ⟨G, M, R, Z, _, h, _⟩ => len vs G M R Z h) fun cdv A outer s H vs Q E hr ⟨G, M, R, Z, hv, h, hR, hZ⟩ => ?_
  obtain ⟨t, j, q⟩ := hbody cdv A outer s H E hr
  exact ⟨_, j, G, M, _, hv, q vs G M R Z h, ⟨fun σ G M H hv h => (h H hv).elim fun G' h => h.elim fun M' h => hR _ G' M' H h.1 h.2, fun v G M H hv h => (h H hv).elim fun G' h => h.elim fun M' h => hR _ G' M' H h.1 h.2, fun _ _ _ _ _ z => z.elim, fun _ _ _ _ _ z => z.elim, fun c a σ G M H hv ⟨G', M', w, q⟩ => hZ c a G' M' H (w H hv) q⟩⟩
/-- a def that keeps its promise -/
structure Def (P : Program) (w : World) (K : PySem.W.Frag) (mg : Str → Option Value) (base : Heap) (lev : Nat) (x : Str) (ps : List Str) (S : KSp) : Prop where
  ex : ∃ f fd, FnOk P w K mg base (L2.CX P w) lev f fd ps (lift S) ∧ mg x = some (.ref f) ∧ PySem.W.keepIn K (.ref f) = true ∧ Binds K fd ps []
end
section
variable {X : Cx} {W : WX} {pos p : Pos} {e : Expr} {es : List Expr} {x : Str} {k lev : Nat} {ps : List Str} {S : KSp} {t : KA}
theorem je_callD (D : Def X.prog X.w X.K X.mg X.base lev x ps S) (hr : Room k X.A) (tk : Takes X W) (ha : JA X W (e :: es) t) (hl : lev ≤ k := by decide) (hg : Gl X x := by rfl)
    (hdb : (x == ("__debug__" : Str)) = false := by decide) (he : starEach (e :: es) X.env = (false, eval e X.env) :: starEach es X.env := by rfl) (hpl : (backTo pos (starEach es X.env)).any (·.1) = false := by rfl) :
    JE X W (.Call (.Name x p) (e :: es) [] pos) (kCall S t) := by
  obtain ⟨f, fd, F, hm, hk, hb⟩ := D.ex
  exact je_call (F.mono hl) hr tk hm hk hb ha hg hdb he hpl
end
end BT
set_option Elab.async false
set_option linter.all false
set_option maxRecDepth 100000
set_option maxHeartbeats 4000000
namespace BT
open PySem PySem.Spec L2
open PyProof.Rows hiding St
/-! ### promises by the number of arguments -/
def sp1 (f : V → Hp → Mem → KR → KX → Prop) : KSp := fun vs G M R Z => match vs with
  | [x] => f x G M R Z
  | _ => False
def sp2 (f : V → V → Hp → Mem → KR → KX → Prop) : KSp := fun vs G M R Z => match vs with
  | [x, y] => f x y G M R Z
  | _ => False
def sp3 (f : V → V → V → Hp → Mem → KR → KX → Prop) : KSp := fun vs G M R Z => match vs with
  | [x, y, z] => f x y z G M R Z
  | _ => False
def sp4 (f : V → V → V → V → Hp → Mem → KR → KX → Prop) : KSp := fun vs G M R Z => match vs with
  | [x, y, z, u] => f x y z u G M R Z
  | _ => False
def sp5 (f : V → V → V → V → V → Hp → Mem → KR → KX → Prop) : KSp := fun vs G M R Z => match vs with
  | [x, y, z, u, t] => f x y z u t G M R Z
  | _ => False
section
variable {vs : List V} {G : Hp} {M : Mem} {R : KR} {Z : KX}
theorem sp1_of {f} (h : sp1 f vs G M R Z) : ∃ x, vs = [x] ∧ f x G M R Z := by
  match vs, h with
  | [x], h => exact ⟨x, rfl, h⟩
theorem sp2_of {f} (h : sp2 f vs G M R Z) : ∃ x y, vs = [x, y] ∧ f x y G M R Z := by
  match vs, h with
  | [x, y], h => exact ⟨x, y, rfl, h⟩
theorem sp3_of {f} (h : sp3 f vs G M R Z) : ∃ x y z, vs = [x, y, z] ∧ f x y z G M R Z := by
  match vs, h with
  | [x, y, z], h => exact ⟨x, y, z, rfl, h⟩
theorem sp4_of {f} (h : sp4 f vs G M R Z) : ∃ x y z u, vs = [x, y, z, u] ∧ f x y z u G M R Z := by
  match vs, h with
  | [x, y, z, u], h => exact ⟨x, y, z, u, rfl, h⟩
theorem sp5_of {f} (h : sp5 f vs G M R Z) : ∃ x y z u t, vs = [x, y, z, u, t] ∧ f x y z u t G M R Z := by
  match vs, h with
  | [x, y, z, u, t], h => exact ⟨x, y, z, u, t, rfl, h⟩
theorem sp_len1 {f} (h : sp1 f vs G M R Z) : vs.length = 1 := by obtain ⟨_, rfl, _⟩ := sp1_of h; rfl
theorem sp_len2 {f} (h : sp2 f vs G M R Z) : vs.length = 2 := by obtain ⟨_, _, rfl, _⟩ := sp2_of h; rfl
theorem sp_len3 {f} (h : sp3 f vs G M R Z) : vs.length = 3 := by obtain ⟨_, _, _, rfl, _⟩ := sp3_of h; rfl
theorem sp_len4 {f} (h : sp4 f vs G M R Z) : vs.length = 4 := by obtain ⟨_, _, _, _, rfl, _⟩ := sp4_of h; rfl
theorem sp_len5 {f} (h : sp5 f vs G M R Z) : vs.length = 5 := by obtain ⟨_, _, _, _, _, rfl, _⟩ := sp5_of h; rfl
end
/-- what a body has at its ends -/
abbrev ends (R : KR) (Z : KX) : Kd := { nx := fun _ G M => wkR R .non G M, rt := wkR R, xc := fun c d _ G M => wkX Z c d G M }
/-! ### small helps -/
section
variable {K : PySem.W.Frag} {G : Hp} {M : Mem} {a p : Addr} {xs : List V} {o : HO} {n : Nat}
theorem lst_n (h : M[n]? = some (a, .lst xs)) : SeqAt' K G M a xs := .inl (.inl (List.mem_of_getElem? h))
theorem lat_n (h : M[n]? = some (a, .lst xs)) : LstAt K G M a xs := .inl (List.mem_of_getElem? h)
theorem lst_g (h : SqL K G a xs) : SeqAt' K G M a xs := .inl (.inr h)
theorem lat_g (h : SqL K G a xs) : LstAt K G M a xs := .inr h
theorem tup_g (h : SqT K G a xs) : SeqAt' K G M a xs := .inr h
theorem at_n (h : M[n]? = some (a, o)) : At G M a o := .inl (List.mem_of_getElem? h)
theorem set_n {x : Addr × HO} (h : M[n]? = some (p, o)) : (M.set n x)[n]? = some x := List.getElem?_set_self (List.getElem?_eq_some_iff.mp h).1
theorem sqt_new {xs : List V} : SqT K (upd G p (.tup xs)) p xs := .inl (.inl upd_same)
theorem sql_new {xs : List V} : SqL K (upd G p (.lst xs)) p xs := .inl (.inl upd_same)
theorem ite2' {c : Bool} {A B : Prop} (h1 : c = true → A) (h2 : c = false → B) : if c = true then A else B := by
  cases c with
  | true => rw [if_pos rfl]; exact h1 rfl
  | false => rw [if_neg Bool.false_ne_true]; exact h2 rfl
theorem sz {n : Nat} (h : n ≤ 16777216) : n ≤ sizeLine := h
theorem tyl_n (h : M[n]? = some (a, .lst xs)) : ∀ H, Hv G M H → tyV K "list" (.ref a) H := fun H hv => .inl ⟨rfl, xs, .inl (.inl (hv.get h))⟩
theorem tyl_g (h : SqL K G a xs) : ∀ H, Hv G M H → tyV K "list" (.ref a) H := fun H hv => .inl ⟨rfl, xs, ex_l hv.exx h⟩
end
/-! ### the law's pool of numbers -/
def pool (c s : Int) : HO := .lst [.int c, .int s]
def PoolOk (s : Int) : Prop := 0 ≤ s ∧ s < 2147483647
def S_law_take (K : PySem.W.Frag) : KSp := sp2 fun x y G M R Z => ∃ (p : Addr) (m : Int) (n : Nat) (c s : Int), x = .ref p ∧ y = .int m ∧ M[n]? = some (p, pool c s) ∧ PoolOk s ∧ 0 < m ∧ m < 2 ^ 200 ∧
  ∀ r c' s', 0 ≤ r → r < m → PoolOk s' → R (.int r) G (M.set n (p, pool c' s'))
def S_law_pool (K : PySem.W.Frag) : KSp := sp2 fun x y G M R Z => ∃ (a : Addr) (ns : List Int) (k : Int), x = .ref a ∧ y = .int k ∧ SqL K G a (ns.map V.int) ∧ 0 ≤ k ∧ k ≤ 100 ∧ ns.length ≤ 63 ∧
  ∀ p c s, Fr G M p → PoolOk s → R (.ref p) G ((p, pool c s) :: M)
end BT
set_option Elab.async false
set_option linter.all false
set_option maxRecDepth 100000
set_option maxHeartbeats 4000000
namespace BT
open PySem PySem.Spec L2
open PyProof.Rows hiding St
/-! ### shapes of data -/
inductive Shp : Nat → PyData → Prop
  | non {n} : Shp n .none
  | bl {n b} : Shp n (.bool b)
  | int {n i} : Shp n (.int i)
  | str {n x} : PyData.strOk x = true → Shp n (.str x)
  | list {n ds} : (∀ d, d ∈ ds → Shp n d) → Shp (n + 1) (.list ds)
  | tuple {n ds} : (∀ d, d ∈ ds → Shp n d) → Shp (n + 1) (.tuple ds)
theorem shp_all {n : Nat} (ih : ∀ d, Shp n d → d.canLay0 = true ∧ d.depth ≤ n) : ∀ ds : List PyData, (∀ d, d ∈ ds → Shp n d) → PyData.canLayAll0 ds = true ∧ PyData.depthAll ds ≤ n
  | [], _ => by
    refine ⟨by simp [PyData.canLayAll0], by simp [PyData.depthAll]⟩
  | d :: ds, h => by
    obtain ⟨a, b⟩ := ih d (h d List.mem_cons_self)
    obtain ⟨c, e⟩ := shp_all ih ds fun x hx => h x (List.mem_cons_of_mem _ hx)
    refine ⟨by simp [PyData.canLayAll0, a, c], ?_⟩
    show max d.depth (PyData.depthAll ds) ≤ n
    omega
theorem shp_of : ∀ (n : Nat) (d : PyData), Shp n d → d.canLay0 = true ∧ d.depth ≤ n
  | n, _, .non => by refine ⟨by simp [PyData.canLay0], by simp [PyData.depth]⟩
  | n, _, .bl => by refine ⟨by simp [PyData.canLay0], by simp [PyData.depth]⟩
  | n, _, .int => by refine ⟨by simp [PyData.canLay0], by simp [PyData.depth]⟩
  | n, _, .str h => by refine ⟨by simp [PyData.canLay0, h], by simp [PyData.depth]⟩
  | n + 1, .list ds, .list h => by
    obtain ⟨a, b⟩ := shp_all (shp_of n) ds h
    refine ⟨by simp [PyData.canLay0, a], ?_⟩
    show PyData.depthAll ds + 1 ≤ n + 1
    omega
  | n + 1, .tuple ds, .tuple h => by
    obtain ⟨a, b⟩ := shp_all (shp_of n) ds h
    refine ⟨by simp [PyData.canLay0, a], ?_⟩
    show PyData.depthAll ds + 1 ≤ n + 1
    omega
theorem Shp.shaped {n : Nat} {d : PyData} (h : Shp n d) (hn : n ≤ 64) : SeqAt.shaped d = true := by
  obtain ⟨a, b⟩ := shp_of n d h
  unfold SeqAt.shaped
  rw [a, decide_eq_true (Nat.le_trans b hn)]; rfl
theorem Shp.refl {n : Nat} {d : PyData} (h : Shp n d) : PyData.eqv d d = true := by
  obtain ⟨a, b⟩ := shp_of n d h
  exact SeqAt.eqv_refl d a
theorem shp_ints {n : Nat} (ns : List Int) : Shp (n + 1) (.list (ns.map .int)) := .list fun d hd => by
  obtain ⟨i, _, rfl⟩ := List.mem_map.mp hd
  exact .int
/-! ### data known -/
section
variable {K : PySem.W.Frag} {G G' : Hp} {M : Mem} {a : Addr} {v : V} {d : PyData} {vs : List V} {ds : List PyData}
def DatAll (K : PySem.W.Frag) (G : Hp) (M : Mem) (vs : List V) (ds : List PyData) : Prop := ∀ H, Hv G M H → DpAll K H vs ds
theorem dat_g (h : Dp K G v d) : DatAt K G M v d := fun H hv => ex_d hv.exx d h
theorem dats_g (h : DpAll K G vs ds) : DatAll K G M vs ds := fun H hv => ex_ds hv.exx ds h
theorem dat_list (h : LstAt K G M a vs) (hs : DatAll K G M vs ds) : DatAt K G M (.ref a) (.list ds) := fun H hv => .lst (hv.lst h) (hs H hv)
theorem dat_tup (h : SqT K G a vs) (hs : DatAll K G M vs ds) : DatAt K G M (.ref a) (.tuple ds) := fun H hv => .tup (hv.tup h) (hs H hv)
theorem dat_int {i : Int} : DatAt K G M (.int i) (.int i) := fun H hv => .int i
theorem dat_bl {i : Bool} : DatAt K G M (.bl i) (.bool i) := fun H hv => .bl i
theorem dat_non : DatAt K G M .non .none := fun H hv => .non
theorem dat_str {i : Str} : DatAt K G M (.str i) (.str i) := fun H hv => .str i
theorem dats_nil : DatAll K G M [] [] := fun H hv => .nil
theorem dats_cons (h : DatAt K G M v d) (hs : DatAll K G M vs ds) : DatAll K G M (v :: vs) (d :: ds) := fun H hv => .cons (h H hv) (hs H hv)
theorem dpall_ints : ∀ ns : List Int, DpAll K G (ns.map V.int) (ns.map PyData.int)
  | [] => .nil
  | n :: ns => .cons (.int n) (dpall_ints ns)
theorem dats_ints {ns : List Int} : DatAll K G M (ns.map V.int) (ns.map PyData.int) := fun H hv => dpall_ints ns
theorem dat_ints {ns : List Int} (h : LstAt K G M a (ns.map V.int)) : DatAt K G M (.ref a) (.list (ns.map .int)) := dat_list h dats_ints
theorem dp_ints {ns : List Int} (h : SqL K G a (ns.map V.int)) : Dp K G (.ref a) (.list (ns.map .int)) := .lst h (dpall_ints ns)
theorem dpall_snoc : ∀ {vs : List V} {ds : List PyData}, DpAll K G vs ds → Dp K G v d → DpAll K G (vs ++ [v]) (ds ++ [d])
  | _, _, .nil, h => .cons h .nil
  | _, _, .cons a b, h => .cons a (dpall_snoc b h)
theorem dpall_len : ∀ {vs : List V} {ds : List PyData}, DpAll K G vs ds → vs.length = ds.length
  | _, _, .nil => rfl
  | _, _, .cons _ b => by simp [dpall_len b]
theorem dpall_get : ∀ {vs : List V} {ds : List PyData} {i : Nat} {d : PyData}, DpAll K G vs ds → ds[i]? = some d → ∃ v, vs[i]? = some v ∧ Dp K G v d
  | _, _, _, _, .nil, e => by simp at e
  | _, _, 0, _, .cons a _, e => by
    rw [List.getElem?_cons_zero] at e
    cases e; exact ⟨_, rfl, a⟩
  | _, _, i + 1, d, .cons _ b, e => by
    obtain ⟨v, h1, h2⟩ := dpall_get (i := i) (d := d) b (by simpa using e)
    exact ⟨v, by simpa using h1, h2⟩
theorem dpall_get' : ∀ {vs : List V} {ds : List PyData} {i : Nat} {v : V}, DpAll K G vs ds → vs[i]? = some v → ∃ d, ds[i]? = some d ∧ Dp K G v d
  | _, _, _, _, .nil, e => by simp at e
  | _, _, 0, _, .cons a _, e => by
    rw [List.getElem?_cons_zero] at e
    cases e; exact ⟨_, rfl, a⟩
  | _, _, i + 1, d, .cons _ b, e => by
    obtain ⟨v, h1, h2⟩ := dpall_get' (i := i) (v := d) b (by simpa using e)
    exact ⟨v, by simpa using h1, h2⟩
theorem dpall_one {x : V} {i : PyData} (h : DpAll K G [x] [i]) : Dp K G x i := by
  cases h with
  | cons a b => exact a
theorem dp_int_inv {i : Int} (h : Dp K G v (.int i)) : v = .int i := by cases h; rfl
theorem dp_tup_inv (h : Dp K G v (.tuple ds)) : ∃ t xs, v = .ref t ∧ SqT K G t xs ∧ DpAll K G xs ds := by
  cases h with
  | tup s a => exact ⟨_, _, rfl, s, a⟩
theorem dp_list_inv (h : Dp K G v (.list ds)) : ∃ t xs, v = .ref t ∧ SqL K G t xs ∧ DpAll K G xs ds := by
  cases h with
  | lst s a => exact ⟨_, _, rfl, s, a⟩
theorem dpall_ints_inv : ∀ {vs : List V} {ns : List Int}, DpAll K G vs (ns.map .int) → vs = ns.map V.int
  | _, [], h => by cases h; rfl
  | _, n :: ns, h => by
    cases h with
    | cons a b =>
      have e := dp_int_inv a
      subst e
      rw [dpall_ints_inv b]; rfl
end
/-! ### pairs of ints -/
def prD (p : Int × Int) : PyData := .tuple [.int p.1, .int p.2]
theorem dp_pr_inv {K : PySem.W.Frag} {G : Hp} {v : V} {p : Int × Int} (h : Dp K G v (prD p)) : ∃ t, v = .ref t ∧ SqT K G t [.int p.1, .int p.2] := by
  obtain ⟨t, xs, rfl, s, a⟩ := dp_tup_inv h
  have e : xs = [V.int p.1, V.int p.2] := dpall_ints_inv (ns := [p.1, p.2]) a
  rw [e] at s
  exact ⟨t, rfl, s⟩
theorem dp_pr {K : PySem.W.Frag} {G : Hp} {t : Addr} {a b : Int} (h : SqT K G t [.int a, .int b]) : Dp K G (.ref t) (prD (a, b)) := .tup h (.cons (.int a) (.cons (.int b) .nil))
theorem shp_prs {n : Nat} (ps : List (Int × Int)) : Shp (n + 2) (.list (ps.map prD)) := .list fun d hd => by
  obtain ⟨p, _, rfl⟩ := List.mem_map.mp hd
  refine .tuple fun d hd => ?_
  rcases List.mem_cons.mp hd with rfl | hd
  · exact .int
  · rcases List.mem_cons.mp hd with rfl | hd
    · exact .int
    · cases hd
/-! ### lists of ints by place -/
section
theorem atI_int {ns : List Int} {k : Int} (h0 : 0 ≤ k) (h1 : k < ns.length) : atI (ns.map V.int) k = some (.int (ns.getD k.toNat 0)) := by
  obtain ⟨j, rfl⟩ : ∃ j : Nat, k = j := ⟨k.toNat, by omega⟩
  have hj : j < ns.length := by omega
  refine atI_nat ?_
  rw [List.getElem?_map, List.getElem?_eq_getElem hj, Int.toNat_natCast, List.getD_eq_getElem?_getD, List.getElem?_eq_getElem hj]; rfl
theorem ixN_int {n : Nat} {k : Int} (h0 : 0 ≤ k) (h1 : k < n) : ixN n k = some k.toNat := by
  unfold ixN
  rw [if_pos h0, if_pos h1]
theorem map_set_int {ns : List Int} {j : Nat} {i : Int} : (ns.map V.int).set j (.int i) = (ns.set j i).map V.int := by rw [List.map_set]
theorem lat_cons {K : PySem.W.Frag} {G : Hp} {M : Mem} {a : Addr} {xs : List V} {x : Addr × HO} (h : LstAt K G M a xs) : LstAt K G (x :: M) a xs := by
  rcases h with h | h
  · exact .inl (List.mem_cons_of_mem _ h)
  · exact .inr h
theorem lat_ex {K : PySem.W.Frag} {G G' : Hp} {M : Mem} {a : Addr} {xs : List V} (e : Ex G G') (h : LstAt K G M a xs) : LstAt K G' M a xs := by
  rcases h with h | h
  · exact .inl h
  · exact .inr (ex_l e h)
theorem lat_0 {K : PySem.W.Frag} {G : Hp} {M : Mem} {a : Addr} {xs : List V} : LstAt K G ((a, .lst xs) :: M) a xs := .inl List.mem_cons_self
theorem seq_0 {K : PySem.W.Frag} {G : Hp} {M : Mem} {a : Addr} {xs : List V} : SeqAt' K G ((a, .lst xs) :: M) a xs := .inl lat_0
theorem isi_list {K : PySem.W.Frag} {G : Hp} {M : Mem} {a : Addr} {xs : List V} {R : KR} {n : Nat} (h : M[n]? = some (a, .lst xs)) (q : R (.bl true) G M) : kIsi K [.ref a, .ty "list"] G M R :=
  ⟨.type "list", .type "list", true, .ty "list", fun H hv => .base (.lst (hv.get h)), kit_ty (by decide +kernel), q⟩
theorem mul_l {i j : Int} (h0 : -(2 ^ 64) < i) (h1 : i < 2 ^ 64) : MulOk i j := .inl (.inl ⟨h0, h1⟩)
theorem mul_r {i j : Int} (h0 : -(2 ^ 64) < j) (h1 : j < 2 ^ 64) : MulOk i j := .inl (.inr ⟨h0, h1⟩)
theorem divW {m : Int} (h0 : 0 < m) (h1 : m < 2 ^ 200) (c : Int) : CDivW c m := wide_div (b := 200) h0 (by omega) (by decide) (by decide)
theorem sz0 : (0 : Nat) ≤ sizeLine := by decide
theorem sz1 : (1 : Nat) ≤ sizeLine := by decide
theorem sz2 : (2 : Nat) ≤ sizeLine := by decide
theorem sz3 : (3 : Nat) ≤ sizeLine := by decide
theorem sz4 : (4 : Nat) ≤ sizeLine := by decide
theorem sz5 : (5 : Nat) ≤ sizeLine := by decide
theorem sz6 : (6 : Nat) ≤ sizeLine := by decide
theorem sz7 : (7 : Nat) ≤ sizeLine := by decide
theorem sz8 : (8 : Nat) ≤ sizeLine := by decide
theorem pow10_18 : CPow 10 18 := ⟨by decide, by decide, by decide⟩
end
end BT
namespace BT
open PySem PySem.Spec L2
section
variable {K : PySem.W.Frag} {G : Hp} {M : Mem} {a b : Addr} {vs ws : List V} {i : Nat} {v u : V} {g : KG} {σ : St} {R : St → Hp → Mem → Prop}
theorem asg_L (h : vs[i]? = some v) (q : g.val v σ G M R) : asg g ((srcL K a vs).get i) σ G M R := by
  show g.val (vs.getD i .non) σ G M R
  rw [getD_of h]; exact q
theorem asg_T (h : vs[i]? = some v) (q : g.val v σ G M R) : asg g ((srcT K a vs).get i) σ G M R := by
  show g.val (vs.getD i .non) σ G M R
  rw [getD_of h]; exact q
theorem asg_V (h : vs[vs.length - 1 - i]? = some v) (q : g.val v σ G M R) : asg g ((srcV K a vs).get i) σ G M R := by
  show g.val (vs.getD (vs.length - 1 - i) .non) σ G M R
  rw [getD_of h]; exact q
theorem asg_E (h : vs[i]? = some v) (q : g.tup [.int i, v] σ G M R) : asg g ((srcE K a vs).get i) σ G M R := by
  show g.tup [.int i, vs.getD i .non] σ G M R
  rw [getD_of h]; exact q
theorem asg_Z (h : vs[i]? = some v) (h2 : ws[i]? = some u) (q : g.tup [v, u] σ G M R) : asg g ((srcZ K a b vs ws).get i) σ G M R := by
  show g.tup [vs.getD i .non, ws.getD i .non] σ G M R
  rw [getD_of h, getD_of h2]; exact q
theorem dpall_at {ds : List PyData} {d : PyData} (h : DpAll K G vs ds) (e : ds[i]? = some d) : ∃ v, vs[i]? = some v ∧ Dp K G v d := dpall_get h e
end
end BT
namespace BT
open PySem PySem.Spec L2
/-- a cell becomes frozen -/
theorem frz {G : Hp} {M : Mem} {p : Addr} (o : HO) (h : Fr G M p) : ∃ G', Ex G G' ∧ G' p = some o ∧ Wk G ((p, o) :: M) G' M ∧ ∀ q M0, Fr G M0 q → q ≠ p → Fr G' M0 q :=
  ⟨upd G p o, Ex.new h, upd_same, Wk.frz0, fun q M0 f hq => ⟨by rw [upd_ne hq]; exact f.1, f.2⟩⟩
theorem Wk.nil' {G : Hp} {M : Mem} : Wk G M G [] := fun H h => ⟨h.ex, fun _ z => (nomatch z), List.nodup_nil, fun _ z => (nomatch z)⟩
theorem sql_of {K : PySem.W.Frag} {G : Hp} {a : Addr} {xs : List V} (h : G a = some (.lst xs)) : SqL K G a xs := .inl (.inl h)
theorem sqt_of {K : PySem.W.Frag} {G : Hp} {a : Addr} {xs : List V} (h : G a = some (.tup xs)) : SqT K G a xs := .inl (.inl h)
theorem Fr.cons {G : Hp} {M : Mem} {p : Addr} {x : Addr × HO} (h : Fr G (x :: M) p) : Fr G M p := ⟨h.1, fun y hy => h.2 y (List.mem_cons_of_mem _ hy)⟩
end BT
set_option Elab.async false
set_option linter.all false
set_option maxRecDepth 100000
set_option maxHeartbeats 4000000
namespace BT
open PySem PySem.Spec L2
open PyProof.Rows hiding St
/-- the slots at a body's start -/
def sta (n : Nat) (vs : List V) : St := vs.map some ++ List.replicate (n - vs.length) none
/-! ### ranges with a step -/
theorem rg_up {i j c : Int} (hc : 0 < c) (hc2 : c < 1000000) (hi : -1000000000000 < i) (hi2 : i < 1000000000000) (hj : -1000000000000 < j) (hj2 : j < 1000000000000) :
    RgC i j c (if i < j then ((j - i - 1) / c + 1).toNat else 0) := by
  have e : Builtin.Range.rangeSize i j c = if i < j then (j - i - 1) / c + 1 else 0 := by
    unfold Builtin.Range.rangeSize
    rw [if_pos hc]
  have hb : 0 ≤ (j - i - 1) / c ∨ ¬ i < j := by
    by_cases h : i < j
    · exact .inl (Int.ediv_nonneg (by omega) (by omega))
    · exact .inr h
  have hb2 : (j - i - 1) / c ≤ 2000000000000 ∨ ¬ i < j := by
    by_cases h : i < j
    · left
      have := Int.ediv_le_self c (show 0 ≤ j - i - 1 by omega)
      omega
    · exact .inr h
  refine ⟨by omega, by omega, ?_, ?_⟩
  · unfold Builtin.Range.small
    rw [e]
    simp only [Builtin.Range.rangeFitsLong, Bool.and_eq_true, Bool.or_eq_true, decide_eq_true_eq, beq_iff_eq, hc, gt_iff_lt, if_true]
    by_cases h : i < j
    · rw [if_pos h]; omega
    · rw [if_neg h]; omega
  · rw [e]
    by_cases h : i < j
    · rw [if_pos h, if_pos h]; omega
    · rw [if_neg h, if_neg h]; rfl
theorem rg_down {i j : Int} (hi : -1000000000000 < i) (hi2 : i < 1000000000000) (hj : -1000000000000 < j) (hj2 : j < 1000000000000) : RgC i j (-1) (i - j).toNat :=
  RgC.neg (by omega) (by omega) (by omega) (by omega)
section
variable {X : Cx} {W : WX} {pos : Pos} {a b c e : Expr} {es : List Expr}
/-! ### sorted, xs[::-1] -/
def kSorted (K : PySem.W.Frag) : KC := fun vs G M R => match vs with
  | [.ref a] => ∃ ns : List Int, LstAt K G M a (ns.map V.int) ∧ ∀ (ns' : List Int) (p : Addr), ns'.Perm ns → ns'.Pairwise (· ≤ ·) → Fr G M p → R (.ref p) G ((p, .lst (ns'.map V.int)) :: M)
  | _ => False
theorem kc_sorted : KCall X (.builtin "sorted") (kSorted X.K) := kcall_of cr_sortedI fun vs G M R H Q hv h hR => by
  match vs, h with
  | [.ref a], ⟨ns, h1, h2⟩ => exact ⟨a, ns, rfl, hv.lst h1, fun ns' p q1 q2 q3 => hR _ G _ _ (hv.newM q3) (h2 ns' p q1 q2 (hv.fr q3))⟩
def kRevL (K : PySem.W.Frag) : V → Hp → Mem → KR → Prop := fun x G M R => match x with
  | .ref a => ∃ xs, LstAt K G M a xs ∧ ∀ p, Fr G M p → R (.ref p) G ((p, .lst xs.reverse) :: M)
  | _ => False
theorem je_revl {t : KE} {k : Nat} {p1 p2 p3 : Pos} (he : JE X W e t) : JE X W (.Subscript e (.Slice none none (some (.UnaryOp .USub (.Constant (.int 1) k p1) p2)) p3) pos) (kUn (kRevL X.K) t) :=
  pe_mono (pe_revL he) fun σ H Q ⟨G, M, R, E, hv, h, hR, hE⟩ => ⟨G, M, _, E, hv, h, fun x G1 M1 H1 hv1 h1 => by
    match x, h1 with
    | .ref a, ⟨xs, q1, q2⟩ => exact ⟨a, xs, rfl, hv1.lst q1, fun p hp => hR _ G1 _ _ (hv1.newM hp) (q2 p (hv1.fr hp))⟩, hE⟩
/-! ### in, not in: flat things in a list or a tuple -/
def kIn (neg : Bool) (K : PySem.W.Frag) : KR2 := fun x y G M R => match y with
  | .ref a => ∃ xs, SeqAt' K G M a xs ∧ flatV x = true ∧ xs.all flatV = true ∧ R (.bl (if neg then !inV x xs else inV x xs)) G M
  | _ => False
theorem kop_in : KOp X (compareOp .In) (kIn false X.K) := kop_of op_in_seq fun x y G M R H Q hv h hR => by
  match y, h with
  | .ref a, ⟨xs, h1, h2, h3, h4⟩ => exact ⟨a, xs, rfl, h1.elim (fun q => .inl (hv.lst q)) (fun q => .inr (hv.tup q)), h2, h3, hR _ G M H hv h4⟩
theorem kop_notin : KOp X (compareOp .NotIn) (kIn true X.K) := kop_of op_notIn_seq fun x y G M R H Q hv h hR => by
  match y, h with
  | .ref a, ⟨xs, h1, h2, h3, h4⟩ => exact ⟨a, xs, rfl, h1.elim (fun q => .inl (hv.lst q)) (fun q => .inr (hv.tup q)), h2, h3, hR _ G M H hv h4⟩
/-! ### list.index, list.insert, tuple(xs), bool(x), list(range) -/
def kIndex (K : PySem.W.Frag) : KM := fun x vs G M R => match x, vs with
  | .ref a, [y] => ∃ ys j z, LstAt K G M a ys ∧ flatV y = true ∧ ys.all flatV = true ∧ ys[j]? = some z ∧ eqV z y = true ∧ (∀ m z', m < j → ys[m]? = some z' → eqV z' y = false) ∧ R (.int (j : Nat)) G M
  | _, _ => False
end
end BT
namespace BT
open PySem PySem.Spec L2
open PyProof.Rows hiding St
theorem rg_mul {i c : Int} {n : Nat} (hc : 0 < c) (hc2 : c < 1000000) (hi : -1000000000 < i) (hi2 : i < 1000000000) (hn : n < 100000) : RgC i (i + c * n) c n := by
  have hm : c * n < 100000000000 := by
    have h1 : c * (n : Int) ≤ 1000000 * (n : Int) := Int.mul_le_mul_of_nonneg_right (by omega) (by omega)
    omega
  have hm0 : 0 ≤ c * n := Int.mul_nonneg (by omega) (by omega)
  have q := rg_up (i := i) (j := i + c * n) hc hc2 (by omega) (by omega) (by omega) (by omega)
  have e : (if i < i + c * n then ((i + c * n - i - 1) / c + 1).toNat else 0) = n := by
    cases n with
    | zero => rw [if_neg (by simp)]
    | succ k =>
      have hk : 0 < c * ((k + 1 : Nat) : Int) := Int.mul_pos hc (by omega)
      rw [if_pos (by omega)]
      have e1 : i + c * ((k + 1 : Nat) : Int) - i - 1 = (c - 1) + c * (k : Int) := by
        rw [show ((k + 1 : Nat) : Int) = (k : Int) + 1 by omega, Int.mul_add]; omega
      rw [e1, ((Int.ediv_emod_unique hc).mpr ⟨rfl, by omega, by omega⟩).1]
      omega
  rw [e] at q
  exact q
theorem fn_false {P : Program} {w : World} {K : PySem.W.Frag} {mg : Str → Option Value} {base : Heap} {CX : CXT} {k : Nat} {f : Addr} {fd : FuncData} {ps : List Str} {S : KSp} (h : ∀ vs G M R Z, ¬ S vs G M R Z) : FnOk P w K mg base CX k f fd ps (lift S) :=
  ⟨fun vs H Q E ⟨G, M, R, Z, _, q, _⟩ => (h vs G M R Z q).elim, fun A outer s H args us vs Q E _ _ _ _ ⟨G, M, R, Z, _, q, _⟩ => (h vs G M R Z q).elim⟩
theorem cx_none {P : Program} {w : World} {l : List Env} {H : Hp} {s : Shared} {e : Value} {s' : Shared} (h : L2.CX P w l H s (fun _ _ _ => False) e s') : False := by
  obtain ⟨_, _, _, _, _, _, _, _, _, _, _, _, z⟩ := h
  exact z.elim
/-- a law's promise -/
def S_law (K : PySem.W.Frag) : KSp := sp1 fun x G M R Z => ∃ (a : Addr) (ns : List Int), x = .ref a ∧ SqL K G a (ns.map V.int) ∧ ns.length ≤ 63 ∧ ∀ G' M', R (.bl true) G' M'
theorem law_start {K : PySem.W.Frag} {H : Hp} {a : Addr} {ns : List Int} (hl : ns.length ≤ 63) (hS : SqL K H a (ns.map V.int)) : lift (S_law K) [.ref a] H (fun v _ => v = .bl true) fun _ _ _ => False :=
  ⟨H, [], fun v _ _ => v = .bl true, fun _ _ _ _ => False, Hv.self H, ⟨a, ns, rfl, hS, hl, fun _ _ => rfl⟩, fun _ _ _ _ _ h => h, fun _ _ _ _ _ _ z => z⟩
end BT
namespace BT
open PySem PySem.Spec L2
open PyProof.Rows hiding St
/-! ### is of None and of truths -/
def kIs2 (neg : Bool) : KR2 := fun x y G M R => match x, y with
  | .bl a, .bl b => R (.bl (if neg then !decide (a = b) else decide (a = b))) G M
  | x, .non => R (.bl (if neg then !decide (x = .non) else decide (x = .non))) G M
  | _, _ => False
theorem kop_is2 {X : Cx} : KOp X (compareOp .Is) (kIs2 false) := fun pins s σ H x y v u Q G M R I rx ry hv h hR => by
  cases y <;> cases x <;> first
    | exact op_isBl pins s σ H _ _ v u Q I rx ry ⟨_, _, rfl, rfl, hR _ G M H hv h⟩
    | exact op_isN pins s σ H _ _ v u Q I rx ry ⟨rfl, hR _ G M H hv h⟩
    | exact h.elim
theorem kop_isnot2 {X : Cx} : KOp X (compareOp .IsNot) (kIs2 true) := fun pins s σ H x y v u Q G M R I rx ry hv h hR => by
  cases y <;> cases x <;> first
    | exact op_notBl pins s σ H _ _ v u Q I rx ry ⟨_, _, rfl, rfl, hR _ G M H hv h⟩
    | exact op_notN pins s σ H _ _ v u Q I rx ry ⟨rfl, hR _ G M H hv h⟩
    | exact h.elim
/-! ### types of values -/
inductive PT | int | bool | non | str | list | tuple | dict
  deriving DecidableEq
def PT.name : PT → String
  | .int => "int" | .bool => "bool" | .non => "NoneType" | .str => "str" | .list => "list" | .tuple => "tuple" | .dict => "dict"
def TyK (K : PySem.W.Frag) (G : Hp) (M : Mem) (x : V) (T : PT) : Prop := ∀ H, Hv G M H → TyX K H x (.type T.name)
section
variable {K : PySem.W.Frag} {G : Hp} {M : Mem} {a : Addr} {xs : List V} {n : Nat}
theorem ty_int {i : Int} : TyK K G M (.int i) .int := fun H hv => .base (.int i)
theorem ty_bl {i : Bool} : TyK K G M (.bl i) .bool := fun H hv => .base (.bl i)
theorem ty_non : TyK K G M .non .non := fun H hv => .base .non
theorem ty_str {i : Str} : TyK K G M (.str i) .str := fun H hv => .base (.str i)
theorem ty_lst (h : LstAt K G M a xs) : TyK K G M (.ref a) .list := fun H hv => by
  rcases hv.lst h with (z | ⟨o, z⟩) | ⟨o, its, m, z1, z2, _⟩
  · exact .base (.lst z)
  · exact .base (.frz z)
  · exact .kList z1 z2
theorem ty_tup (h : SqT K G a xs) : TyK K G M (.ref a) .tuple := fun H hv => by
  rcases hv.tup h with (z | ⟨o, z⟩) | ⟨o, its, m, z1, z2, _⟩
  · exact .base (.tup z)
  · exact .fTuple z
  · exact .kTuple z1 z2
theorem ty_dict {kvs : List (Key × V)} (h : At G M a (.dK kvs)) : TyK K G M (.ref a) .dict := fun H hv => .base (.dK (hv.at h))
/-- isinstance(x, T): both answers -/
def isaB (T U : PT) : Bool := T == U || (T == .bool && U == .int)
theorem kit_pt (T U : PT) : PySem.W.kitOne K (.type T.name) (.type U.name) = some (isaB T U) := by
  cases T <;> cases U <;> exact kit_ty (by decide +kernel)
theorem isi_pt {x : V} {T : PT} {R : KR} (U : PT) (h : TyK K G M x T) (q : R (.bl (isaB T U)) G M) : kIsi K [x, .ty U.name] G M R :=
  ⟨.type T.name, .type U.name, _, .ty U.name, h, kit_pt T U, q⟩
end
end BT
namespace BT
open PySem PySem.Spec L2
/-! ### steps by name -/
section
variable {D : Kd} {σ : St} {G : Hp} {M : Mem} {i : Nat} {te ta tb : KE}
theorem kset_of (h : te σ G M (fun v G M => D.nx (σ.set i (some v)) G M) (D.x σ)) : kSet i te D σ G M := h
theorem kret_of (h : te σ G M D.rt (D.x σ)) : kRet te D σ G M := h
theorem kexpr_of (h : te σ G M (fun _ G M => D.nx σ G M) (D.x σ)) : kExpr te D σ G M := h
theorem kbin_of {β : Type} {k : V → V → Hp → Mem → (β → Hp → Mem → Prop) → Prop} {R : β → Hp → Mem → Prop} {E : KX} (h : ta σ G M (fun x G M => tb σ G M (fun y G M => k x y G M R) E) E) : kBin k ta tb σ G M R E := h
theorem kcb_of {k : KC} {t : KA} {R : KR} {E : KX} (h : t σ G M (fun vs G M => k vs G M R) E) : kCB k t σ G M R E := h
theorem kcons_of {t : KE} {u : KA} {R : List V → Hp → Mem → Prop} {E : KX} (h : t σ G M (fun x G M => u σ G M (fun xs G M => R (x :: xs) G M) E) E) : kCons t u σ G M R E := h
end
end BT
set_option Elab.async false
set_option linter.all false
set_option maxRecDepth 100000
set_option maxHeartbeats 4000000
namespace BT
open PySem PySem.Spec L2
open PyProof.Rows hiding St
/-! ### own errors: raised, caught, held -/
/-- the address of a class, by its name -/
def cl (K : PySem.W.Frag) (x : Str) : Addr := match PySem.W.nsIn K mainGlobals x with
  | some (some (.ref a)) => a
  | _ => 0
theorem cl_of {K : PySem.W.Frag} {x : Str} {C : Addr} (a : PySem.W.nsIn K mainGlobals x = some (some (.ref C))) : cl K x = C := by
  unfold cl
  rw [a]
/-- a class that is known -/
structure XG (K : PySem.W.Frag) (mg : Str → Option Value) (x : Str) : Prop where
  g : mg x = some (.ref (cl K x))
  k : PySem.W.keepIn K (.ref (cl K x)) = true
/-- a class without own __init__ under ValueError, to be raised -/
structure XR (K : PySem.W.Frag) (x : Str) : Prop where
  n : PySem.W.excIn K (cl K x) [.type "ValueError", .type "Exception", .type "BaseException", .type "object"] "ValueError.__new__" = true
  b : PySem.W.subIn K (.ref (cl K x)) (.type "BaseException") = some true
  t : PySem.W.typeIn K (.ref (cl K x)) = some (.type "type")
theorem xg_mk {K : PySem.W.Frag} {mg : Str → Option Value} {h : Heap} {x : Str} {C : Addr} (X : K.In h) (G : h.Ns mainGlobals mg) (a : PySem.W.nsIn K mainGlobals x = some (some (.ref C))) (k : PySem.W.keepIn K (.ref C) = true) : XG K mg x := by
  have e := cl_of a
  exact ⟨by rw [e]; exact PySem.W.mg_of X G a, by rw [e]; exact k⟩
theorem xr_mk {K : PySem.W.Frag} {x : Str} {C : Addr} (a : PySem.W.nsIn K mainGlobals x = some (some (.ref C)))
    (q : PySem.W.excIn K C [.type "ValueError", .type "Exception", .type "BaseException", .type "object"] "ValueError.__new__" = true)
    (b : PySem.W.subIn K (.ref C) (.type "BaseException") = some true) (t : PySem.W.typeIn K (.ref C) = some (.type "type")) : XR K x := by
  have e := cl_of a
  exact ⟨by rw [e]; exact q, by rw [e]; exact b, by rw [e]; exact t⟩
theorem xe_mk {K : PySem.W.Frag} {x : Str} {C : Addr} (a : PySem.W.nsIn K mainGlobals x = some (some (.ref C))) (q : ExcC K C) : ExcC K (cl K x) := by
  rw [cl_of a]
  exact q
section
variable {X : Cx} {W : WX} {pos : Pos}
/-- raise C('m') -/
def kRaise (K : PySem.W.Frag) (x : Str) : KS := fun D σ G M => D.xc (.ref (cl K x)) none σ G M
theorem js_raise {x m : Str} {j : Nat} {p p2 pos2 : Pos} (g : XG X.K X.mg x) (r : XR X.K x) (tk : Takes X W) (hc : X.calm = true := by rfl) (hg : Gl X x := by rfl) (hdb : (x == ("__debug__" : Str)) = false := by decide) :
    JS X W (.Raise (some (.Call (.Name x p) [.Constant (.str m) j p2] [] pos2)) none pos) (kRaise X.K x) :=
  ps_mono (ps_raise hc tk (pmk_own PySem.F.excBase_ValueError r.n g.g g.k (raises_own r.b r.t) hg hdb)) fun D σ H ⟨G, M, d, hv, h, en⟩ => en.xc _ _ _ _ _ _ hv h

/-- a caught error that is held: its class and its dict -/
def ExT (cls : Value) (d : Option Addr) (a : Addr) : HO := .ext fun h => ∃ (oe : Obj) (vs : Array Value), h.get? a = some oe ∧ Zc cls d oe ∧ oe.data = .fields vs
theorem exT_ok {P : Program} {w : World} {H : Hp} {h : Heap} {a : Addr} {cls : Value} {d : Option Addr} {oe : Obj} {vs : Array Value} (e : h.get? a = some oe) (z : Zc cls d oe) (q : oe.data = .fields vs) : ObjOk P w H h a (ExT cls d a) :=
  ⟨⟨oe, vs, e, z, q⟩, ⟨oe, e⟩, fun _ _ ⟨o, v, q, r⟩ k => ⟨o, v, k o q, r⟩⟩
/-- an object that nobody tracked is tracked from here on -/
theorem inv_track {pins : List (Addr × Obj)} {σ : St} {H : Hp} {s : Shared} {a : Addr} {o : HO} (I : Inv X pins σ H s) (n : H a = none) (n0 : X.s_0.heap.get? a = none) (nl : a ≠ X.env.locals)
    (nc : ∀ y c, X.env.cells.lookup y = some c → c ≠ a) (np : ∀ p ∈ X.pn ++ pins, p.1 ≠ a) (new : ObjOk X.prog X.w (upd H a o) s.heap a o) : Inv X pins σ (upd H a o) s := by
  have ne : ∀ b u, H b = some u → b ≠ a := fun b u e z => by
    rw [z, n] at e
    cases e
  refine ⟨I.ok, I.os, I.bare, ⟨I.base.keep, I.base.slot, fun b u e m x => ?_, I.base.there, fun b xs e => ?_, fun b u v e => ?_, fun b ps e => ?_⟩, I.loc, I.cell, ?_, fun y c e => ?_, fun p hp => ?_, fun b u e => ?_, I.len⟩
  · rw [upd_ne (fun z => by rw [z, n0] at e; cases e)]
    exact I.base.free b u e m x
  · have q := I.base.tups b xs e
    rw [upd_ne (ne b _ q)]
    exact q
  · have q := I.base.frzs b u v e
    rw [upd_ne (ne b _ q)]
    exact q
  · obtain ⟨m, q⟩ := I.base.tbls b ps e
    exact ⟨m, by rw [upd_ne (ne b _ q)]; exact q⟩
  · rw [upd_ne (Ne.symm nl)]
    exact I.free
  · rw [upd_ne (nc y c e)]
    exact I.freeC y c e
  · obtain ⟨p1, p2, p3, p4, p5⟩ := I.pin p hp
    exact ⟨p1, by rw [upd_ne (np p hp)]; exact p2, p3, p4, p5⟩
  · by_cases hb : b = a
    · subst hb
      rw [upd_same] at e
      cases e
      exact new
    · rw [upd_ne hb] at e
      exact (I.hok b u e).stay (fun c v _ q => q) (fun c q => by rw [upd_ne (ne c _ q)]; exact q) fun c xs q => by rw [upd_ne (ne c _ q)]; exact q
end

/-- what 'except x as n: y = n' wishes of an error of the body -/
def wKeep (K : PySem.W.Frag) (c : Value) (i j : Nat) (Wout : WX) (D : Ends) : WX := fun cls d σ H => ∃ b, PySem.W.exmOne K cls c = some b ∧
  (b = true → ∀ a, H a = none → D.nx (((σ.set i (some (.ref a))).set j (some (.ref a))).set i none) (upd H a (ExT cls d a))) ∧ (b = false → Wout cls d σ H)
section
variable {X : Cx} {x n y : Str} {c : Value} {i j : Nat} {body : List Stmt} {np pos pos' q1 q2 q3 : Pos} {tb : WX → TS} {Wout : WX}
theorem ps_try_keep (hs : X.stack = X.env :: X.outer) (hf : X.env.frame = some X.env.locals) (hx : X.ex = []) (hN : X.N.Nodup) (hi : X.N[i]? = some n) (hj : X.N[j]? = some y) (hln : X.env.kindOf n = some .local) (hlj : Loc X.env.scope y) (hij : i ≠ j)
    (hfy : X.fn y = true ∨ X.env.scope.names.lookup y = some .local) (hdn : (n == ("__debug__" : Str)) = false) (hcn : (n == ("__classdict__" : Str)) = false)
    (hsw : swapsWith (.Name n q2) (some (.Name y q1)) q3.line X.env = pure false) (hc : Names X x c) (tk : Takes X Wout)
    (hb : ∀ (W : WX) (pn : List (Addr × Obj)) (xe : Value → Shared → Prop), Takes (X.tr pn xe) W → PassesOwn (model X.prog X.w) X.A X.env xe → PSs (X.tr pn xe) body (tb W)) :
    PS X (.Try body [.ExceptHandler (some (.Name x np)) (some n) [.Assign [.Name y q1] (.Name n q2) q3] pos'] [] [] pos) (fun D σ H => tb (wKeep X.K c i j Wout D) D σ H) := by
  refine ⟨fun pins s σ H D I h => ?_⟩
  have ok := I.ok
  have fr0 : X.A.frames = some (X.env :: X.outer) := by rw [ok.frames, hs]
  refine wpAny_Try_except ?_
  refine wpAny_mono ((hb (wKeep X.K c i j Wout D) (X.pn ++ pins) _ (fun u s' xx => ?_) PassesOwn.looking).run [] s σ H D (I.toTry _) h) (fun f s1 hsp => ?_) (fun e s1 he => he)
  · obtain ⟨a, B, sI, pins', σ', H', cls, d, rfl, J', nb, up, sky, na, os, ag, b, hb1, hyes, hno⟩ := xx
    have J : Inv X pins σ' H' sI := J'.ofTry ok
    have sky2 : Sky B (X.env :: X.outer) a (Zc cls d) X.env.locals s'.heap := by
      rw [← hs]
      exact sky
    show wpAny (model X.prog X.w) X.A (noteFrame (.ref a) X.env) _ _ _
    refine Sky.land Zc.steady fr0 hf sky2 fun h3 fl3 up3 => ?_
    have J3 : Inv X pins σ' H' { s' with heap := h3 } := J.landed nb fl3.1 (up.trans up3) os ag
    obtain ⟨oe3, vs3, he3, hz3, hd3⟩ := fl3.there
    have nfr : a ∉ frs (X.env :: X.outer) := fun hm => by
      obtain ⟨_, o', e', hnf⟩ := fl3.2.2.1.mem hm
      rw [he3] at e'
      cases e'
      exact hnf _ hd3
    have nL : a ≠ X.env.locals := fun z => nfr (List.mem_filterMap.mpr ⟨X.env, List.mem_cons_self, by rw [hf, z]⟩)
    have nF : a ∉ X.fs := fun hm => by
      obtain ⟨e, he, q⟩ := List.mem_filterMap.mp hm
      exact nfr (List.mem_filterMap.mpr ⟨e, List.mem_cons_of_mem _ he, q⟩)
    have nI : sI.heap.get? a = none := by
      cases e : sI.heap.get? a with
      | none => rfl
      | some o =>
        have z := nb a o e (by rw [hs]; exact nfr)
        rw [fl3.2.1] at z
        cases z
    have n0 : X.s_0.heap.get? a = none := by
      cases e : X.s_0.heap.get? a with
      | none => rfl
      | some o =>
        obtain ⟨o', z⟩ := J.base.there a o e (by rw [hx]; exact fun z => nomatch z)
        rw [nI] at z
        cases z
    have nc : ∀ w c, X.env.cells.lookup w = some c → c ≠ a := fun w c e z => by
      obtain ⟨v, o, ho, _⟩ := J.cell w c e
      rw [z, nI] at ho
      cases ho
    have npn : ∀ p ∈ X.pn ++ pins, p.1 ≠ a := fun p hp z => by
      obtain ⟨q, _⟩ := J.pin p hp
      rw [z, nI] at q
      cases q
    have S3 := J3.suite he3 hd3 na nL nF
    refine wpAny_handleBy_cons (codeAny_handlers_test ?_) (by intro q; cases q)
    have LT : PySem.W.Looks (model X.prog X.w) h3 (typeOf (.ref a)) cls := fun A Q E s k q => wpAny_typeOf_ref (k _ _ he3) (by rw [hz3.1]; exact q)
    have LM := PySem.W.exm_one (M := model X.prog X.w) (J3.kIn) LT hb1
    have look : ∀ {Q : Value → Shared → Prop} {E : Value → Shared → Prop}, Q c { s' with heap := h3 } → wpAny (model X.prog X.w) (X.A.mark (some (.ref a))) (eval (.Name x np) X.env) Q E { s' with heap := h3 } := fun {Q E} q => by
      obtain ⟨hg, hdbg, hm | ⟨hm, hv, hnn⟩⟩ := hc
      · exact ld_glob (X := X.suite a ((a, oe3) :: (X.pn ++ pins))) S3 hg hm q hdbg
      · exact ld_blt (X := X.suite a ((a, oe3) :: (X.pn ++ pins))) S3 hg hm hv q hnn hdbg
    refine look (LM.here ?_)
    cases b with
    | true =>
      refine codeAny_handlers_suite_as ?_
      refine HandSPX.lands_againZ fl3 fun h4 fl4 up4 => ?_
      have J4 : Inv X pins σ' H' { s' with heap := h4 } := J.landed nb fl4.1 ((up.trans up3).trans up4) os ag
      obtain ⟨oe4, vs4, he4, hz4, hd4⟩ := fl4.there
      have S4 := J4.suite he4 hd4 na nL nF
      refine store_ok (X := X.suite a ((a, oe4) :: (X.pn ++ pins))) (v := .ref a) S4 hN hi (.inl hln) rfl (fun s5 S5 => ?_) (.inr hln)
      have lenσ : σ'.length = X.N.length := J.len
      have hiσ : i < σ'.length := by
        rw [lenσ]
        exact (List.getElem?_eq_some_iff.mp hi).1
      have P1 : PSs (X.suite a ((a, oe4) :: (X.pn ++ pins))) [.Assign [.Name y q1] (.Name n q2) q3] (tSeq (tAsg (tVar i) (gName j)) tNext) :=
        pss_cons (ps_set hN hj hlj (pe_var hi (.inl hln) hdn hcn) hsw hfy) pss_nil
      refine wpAny_mono (P1.run [] s5 (σ'.set i (some (.ref a))) H' { nx := fun σ6 H6 => σ6 = (σ'.set i (some (.ref a))).set j (some (.ref a)) ∧ H6 = H', rt := fun _ _ => False, bk := fun _ _ => False, ct := fun _ _ => False } S5 ?_) (fun f s6 hsp => ?_) (fun _ _ z => False.elim z)
      · exact ⟨.ref a, by rw [List.getElem?_set_self hiσ], rfl, rfl⟩
      · cases f with
        | next =>
          obtain ⟨σ6, H6, S6, rfl, rfl⟩ := hsp
          refine gone_ok (X := X.suite a ((a, oe4) :: (X.pn ++ pins))) S6 hN hi hln fun s7 S7 => ?_
          obtain ⟨k1, k2, _⟩ := S7.pin (a, oe4) (List.mem_append.mpr (.inl List.mem_cons_self))
          exact ⟨_, _, inv_track (S7.unsuite ok) na n0 nL nc npn (exT_ok k1 hz4 hd4), hyes rfl a na⟩
        | brk => obtain ⟨_, _, _, z⟩ := hsp; exact z.elim
        | cont => obtain ⟨_, _, _, z⟩ := hsp; exact z.elim
        | ret u => obtain ⟨_, _, _, _, _, z⟩ := hsp; exact z.elim
    | false =>
      show wpAny _ X.A (handleBy (.ref a) X.env []) _ _ _
      refine wpAny_handleBy_nil ?_
      obtain ⟨k1, k2, k3, oe, vs, T, oT, ts', he, hz, hd, h1, hr⟩ := id fl3
      unfold PySem.passOn
      refine wpAny_bind (wpAny_field he hd h1 ?_)
      rw [if_neg (show ¬ ((Value.ref T == Value.none) = true) from by simp)]
      have fin : wpAny (model X.prog X.w) X.A (setFlight (.ref a) X.env.frame) (fun _ s4 => wpAny (model X.prog X.w) X.A (throw (.ref a) : Sem Flow) (SP X pins D) X.xe s4) X.xe { s' with heap := h3 } := by
        rw [hf]
        refine HandSPX.setFlight_upZ fl3 fun h4 hh4 up4 => wpAny_throw (tk _ _ ?_)
        exact ⟨a, B, sI, pins, σ', H', cls, d, rfl, J, nb, (up.trans up3).trans up4, .inr (.inr (by rw [hs]; exact hh4)), na, os, ag, hno rfl⟩
      first
        | exact wpAny_bind (wpAny_pure (wpAny_bind fin))
        | exact wpAny_bind fin
  · cases f with
    | next => obtain ⟨σ', H', J', q⟩ := hsp; exact wpAny_execs_nil ⟨σ', H', J'.ofTry ok, q⟩
    | brk => obtain ⟨σ', H', J', q⟩ := hsp; exact ⟨σ', H', J'.ofTry ok, q⟩
    | cont => obtain ⟨σ', H', J', q⟩ := hsp; exact ⟨σ', H', J'.ofTry ok, q⟩
    | ret u => obtain ⟨v, σ', H', J', r, q⟩ := hsp; exact ⟨v, σ', H', J'.ofTry ok, r, q⟩
end
/-! ### the readings -/
/-- an error of the class named x, held at a -/
def ErA (K : PySem.W.Frag) (x : Str) (d : Option Addr) (a : Addr) : HO := ExT (.ref (cl K x)) d a
/-- try: t, except C as n (slot i): y = n (slot j); the classes that the law knows, and whether they stand under C -/
def kTry (K : PySem.W.Frag) (tab : List (Str × Bool)) (i j : Nat) (t : KS) : KS := fun D σ G M => t { D with xc := fun c d σ' G' M' => ∃ p ∈ tab, c = .ref (cl K p.1) ∧
  (if p.2 = true then ∀ a, Fr G' M' a → D.nx (((σ'.set i (some (.ref a))).set j (some (.ref a))).set i none) (upd G' a (ErA K p.1 d a)) M' else D.xc c d σ' G' M') } σ G M
section
variable {X : Cx} {W : WX} {pos : Pos}
theorem js_try {K : PySem.W.Frag} {x n y : Str} {i j : Nat} {tab : List (Str × Bool)} {body : List Stmt} {t : KS} {np pos' q1 q2 q3 : Pos} (g : XG X.K X.mg x) (ht : ∀ p ∈ tab, PySem.W.exmOne X.K (.ref (cl X.K p.1)) (.ref (cl X.K x)) = some p.2) (hN : X.N.Nodup) (tk : Takes X W)
    (hb : ∀ (W : WX) (pn : List (Addr × Obj)) (xe : Value → Shared → Prop), Takes (X.tr pn xe) W → PassesOwn (model X.prog X.w) X.A X.env xe → JSs (X.tr pn xe) W body t)
    (hK : X.K = K := by rfl) (hs : X.stack = X.env :: X.outer := by rfl) (hf : X.env.frame = some X.env.locals := by rfl) (hx : X.ex = [] := by rfl) (hi : X.N[i]? = some n := by rfl) (hj : X.N[j]? = some y := by rfl)
    (hln : X.env.kindOf n = some .local := by rfl) (hlj : Loc X.env.scope y := by first | exact Or.inl rfl | exact Or.inr rfl) (hij : i ≠ j := by decide)
    (hfy : X.fn y = true ∨ X.env.scope.names.lookup y = some .local := by first | exact .inl rfl | exact .inr rfl) (hdn : (n == ("__debug__" : Str)) = false := by decide) (hcn : (n == ("__classdict__" : Str)) = false := by decide)
    (hsw : swapsWith (.Name n q2) (some (.Name y q1)) q3.line X.env = pure false := by rfl) (hg : Gl X x := by rfl) (hxd : (x == ("__debug__" : Str)) = false := by decide) :
    JS X W (.Try body [.ExceptHandler (some (.Name x np)) (some n) [.Assign [.Name y q1] (.Name n q2) q3] pos'] [] [] pos) (kTry K tab i j t) := by
  subst hK
  refine ps_mono (ps_try_keep (c := .ref (cl X.K x)) (tb := fun W => upS W t) hs hf hx hN hi hj hln hlj hij hfy hdn hcn hsw ⟨hg, hxd, .inl g.g⟩ tk hb) fun D σ H ⟨G, M, d, hv, h, en⟩ => ?_
  refine ⟨G, M, _, hv, h, ⟨en.nx, en.rt, en.bk, en.ct, fun c e σ' G' M' H' hv' q => ?_⟩⟩
  obtain ⟨p, hp, rfl, q⟩ := q
  refine ⟨p.2, ht p hp, fun hb a na => ?_, fun hb => ?_⟩
  · rw [if_pos hb] at q
    exact en.nx _ _ _ _ (hv'.newG na) (q a (hv'.fr na))
  · rw [if_neg (by rw [hb]; exact Bool.false_ne_true)] at q
    exact en.xc _ _ _ _ _ _ hv' q
/-- isinstance(v, C), where v is an error that is held, or None -/
def kIsX (K : PySem.W.Frag) (c : V) (tab : List (Str × Bool)) : KC := fun vs G M R => match vs with
  | [.non, c'] => c' = c ∧ R (.bl false) G M
  | [.ref a, c'] => c' = c ∧ ∃ p ∈ tab, At G M a (ErA K p.1 none a) ∧ R (.bl p.2) G M
  | _ => False
theorem kc_isX {tab : List (Str × Bool)} {c : V} {cv : Value} (hcv : ClsV c cv) (hn : PySem.W.kitOne X.K (.type "NoneType") cv = some false)
    (ht : ∀ p ∈ tab, ExcC X.K (cl X.K p.1) ∧ PySem.W.kitOne X.K (.ref (cl X.K p.1)) cv = some p.2) : KCall X (.builtin "isinstance") (kIsX X.K c tab) := by
  intro pins s σ H xs us Q I r h
  obtain ⟨G, M, R, hv, h, hR⟩ := h
  match xs, h with
  | [.non, c'], h2 =>
    obtain ⟨rfl, h3⟩ := h2
    exact (call_isi (X := X)) pins s σ H [.non, c'] _ Q I r ⟨_, _, .type "NoneType", _, false, rfl, hcv, .base .non, hn, hR _ _ _ _ hv h3⟩
  | [.ref a, c'], h2 =>
    obtain ⟨rfl, p, hp, ha, h3⟩ := h2
    cases r with
    | cons rx rr =>
      cases rr with
      | cons rt rr =>
        cases rr
        have ec := hcv.eq rt
        subst ec
        cases rx
        obtain ⟨C, e⟩ := ht p hp
        have hH : H a = some (ErA X.K p.1 none a) := hv.at ha
        obtain ⟨⟨oe, vs, hget, hz, hd⟩, _, _⟩ := I.hok a _ hH
        have J : PySem.W.InstAt s.heap a oe (cl X.K p.1) none := by
          obtain ⟨oc, od, oda, osl⟩ := oe
          obtain ⟨h1, h2⟩ := hz
          dsimp only at h1 h2 hd
          subst h1 h2 hd
          exact ⟨hget, rfl, rfl, trivial⟩
        exact PySem.W.kia_one (PySem.W.handS_kitx_exc C.hg C.hk C.hs C.hd C.ha C.hn C.ht C.hm) I.kIn J e (fun z => nomatch z) fun tk => ⟨.bl p.2, H, I.kept (t' := tk) fun _ _ z => z, rfl, hR _ _ _ _ hv h3⟩
/-- the name of an own class -/
theorem je_cls {K : PySem.W.Frag} {x : Str} {pos : Pos} (g : XG X.K X.mg x) (hK : X.K = K := by rfl) (hg : Gl X x := by rfl) (hd : (x == ("__debug__" : Str)) = false := by decide) : JE X W (.Name x pos) (kC (.ref (cl K x))) := by
  subst hK
  exact je_glob g.g rfl hg hd
end
theorem kop_shlW {X : Cx} : KOp X (binaryOp .LShift) (kI CShl fun i j => .int (i * 2 ^ j.toNat)) := kop_I op_shlW
theorem excX {R : KR} {Z : KX} {c : Value} {d : Option Addr} {σ : St} {G : Hp} {M : Mem} (h : Z c d G M) : (ends R Z).xc c d σ G M := ⟨G, M, Wk.refl, h⟩
theorem kit_ref {K : PySem.W.Frag} {t : Value} {C : Addr} {b : Bool} (hc : PySem.W.hasDictIn K C = true) (ht : PySem.W.typeIn K (.ref C) = some (.type "type")) (hs : PySem.W.subIn K (.ref C) (.ref C) = some true) (h : PySem.W.subIn K t (.ref C) = some b) :
    PySem.W.kitOne K t (.ref C) = some b := by
  unfold PySem.W.kitOne
  by_cases e : (t == .ref C) = true
  · rw [if_pos e]
    have e2 : t = .ref C := beq_iff_eq.mp e
    rw [e2, hs] at h
    exact h
  · rw [if_neg e]
    obtain ⟨cd, hcd, _⟩ := PySem.W.any_some hc
    have e1 : ((PySem.W.clsIn K C).isSome && PySem.W.typeIn K (.ref C) == some (.type "type")) = true := by rw [hcd, ht] <;> rfl
    show (if ((PySem.W.clsIn K C).isSome && PySem.W.typeIn K (.ref C) == some (.type "type")) = true then PySem.W.subIn K t (.ref C) else none) = some b
    rw [if_pos e1]
    exact h
theorem kit_tyV {K : PySem.W.Frag} {t : Value} {T : String} {b : Bool} (hm : PySem.W.kitMeta T = true) (hne : (t == .type T) = false) (h : PySem.W.subIn K t (.type T) = some b) : PySem.W.kitOne K t (.type T) = some b := by
  unfold PySem.W.kitOne
  rw [if_neg (by rw [hne]; exact Bool.false_ne_true)]
  show (if PySem.W.kitMeta T = true then PySem.W.subIn K t (.type T) else none) = some b
  rw [if_pos hm]
  exact h
end BT
set_option Elab.async false
set_option linter.all false
set_option maxRecDepth 100000
set_option maxHeartbeats 4000000
namespace BT
open PySem PySem.Spec L2
open PyProof.Rows hiding St
section
variable {X : Cx} {W : WX} {pos p : Pos} {a b : Expr}
/-! ### list(range(..)) -/
def rgL (i j : Int) (G : Hp) (M : Mem) (R : KR) : Prop := RgOk i j ∧ ∀ q, Fr G M q → R (.ref q) G ((q, .lst (rgV i j)) :: M)
def kListR1 (t : KE) : KE := fun σ G M R E => t σ G M (fun x G M => match x with
  | .int n => rgL 0 n G M R
  | _ => False) E
def kListR2 (t u : KE) : KE := fun σ G M R E => t σ G M (fun x G M => u σ G M (fun y G M => match x, y with
  | .int i, .int j => rgL i j G M R
  | _, _ => False) E) E
theorem je_listR1 {t : KE} {p2 pos2 : Pos} (hl : X.mg "list" = none) (hr : X.mg "range" = none) (ha : JE X W a t) (hc : X.calm = true := by rfl) (h1 : Gl X "list" := by rfl) (h2 : Gl X "range" := by rfl)
    (na : starEach [a] X.env = (false, eval a X.env) :: starEach [] X.env := by rfl) (nb : starEach [.Call (.Name "range" p2) [a] [] pos2] X.env = (false, eval (.Call (.Name "range" p2) [a] [] pos2) X.env) :: starEach [] X.env := by rfl) :
    JE X W (.Call (.Name "list" p) [.Call (.Name "range" p2) [a] [] pos2] [] pos) (kListR1 t) :=
  pe_mono (pe_listRg hc h1 hl (prg_1 h2 hr ha na) nb) fun σ H Q ⟨G, M, R, E, hv, h, hR, hE⟩ => ⟨G, M, _, E, hv, h, fun x G1 M1 H1 hv1 q => by
    match x, q with
    | .int n, ⟨q1, q2⟩ => exact ⟨n, rfl, q1, fun w hw => hR _ G1 _ _ (hv1.newM hw) (q2 w (hv1.fr hw))⟩, hE⟩
theorem je_listR2 {t u : KE} {p2 pos2 : Pos} (hl : X.mg "list" = none) (hr : X.mg "range" = none) (ha : JE X W a t) (hb : JE X W b u) (hc : X.calm = true := by rfl) (h1 : Gl X "list" := by rfl) (h2 : Gl X "range" := by rfl)
    (na : starEach [a, b] X.env = (false, eval a X.env) :: starEach [b] X.env := by rfl) (nb : starEach [b] X.env = (false, eval b X.env) :: starEach [] X.env := by rfl) (hp : (backTo pos2 (starEach [b] X.env)).any (·.1) = false := by rfl)
    (nc : starEach [.Call (.Name "range" p2) [a, b] [] pos2] X.env = (false, eval (.Call (.Name "range" p2) [a, b] [] pos2) X.env) :: starEach [] X.env := by rfl) :
    JE X W (.Call (.Name "list" p) [.Call (.Name "range" p2) [a, b] [] pos2] [] pos) (kListR2 t u) :=
  pe_mono (pe_listRg hc h1 hl (prg_2 h2 hr ha hb na nb hp) nc) fun σ H Q ⟨G, M, R, E, hv, h, hR, hE⟩ => ⟨G, M, _, E, hv, h, fun x G1 M1 H1 hv1 q => ⟨G1, M1, _, E, hv1, q, fun y G2 M2 H2 hv2 q => by
    match x, y, q with
    | .int i, .int j, ⟨q1, q2⟩ => exact ⟨i, j, rfl, rfl, q1, fun w hw => hR _ G2 _ _ (hv2.newM hw) (q2 w (hv2.fr hw))⟩, hE⟩, hE⟩
/-! ### an empty dict -/
def kDNew : KE := fun _ G M R _ => ∀ q, Fr G M q → R (.ref q) G ((q, .dK []) :: M)
theorem je_dnew : JE X W (.Dict [] [] pos) kDNew := pe_mono pe_dnewK fun σ H Q ⟨G, M, R, E, hv, h, hR, hE⟩ => fun w hw => hR _ G _ _ (hv.newM hw) (h w (hv.fr hw))
/-! ### constants of the module -/
theorem je_const {x : Str} {v : V} (h : ∃ u, X.mg x = some u ∧ RelV v u) (hg : Gl X x := by rfl) (hd : (x == ("__debug__" : Str)) = false := by decide) : JE X W (.Name x pos) (kC v) := by
  obtain ⟨u, hm, r⟩ := h
  exact je_glob hm r hg hd
/-- a tuple of texts that the module holds -/
def kConT (K : PySem.W.Frag) (x : Str) (xs : List V) : KE := fun _ G M R _ => (∀ H, SqT K H (cl K x) xs) → R (.ref (cl K x)) G M
structure XT (K : PySem.W.Frag) (mg : Str → Option Value) (x : Str) (xs : List V) : Prop where
  g : mg x = some (.ref (cl K x))
  s : ∀ H, SqT K H (cl K x) xs
theorem je_conT {K : PySem.W.Frag} {x : Str} {xs : List V} (h : XT X.K X.mg x xs) (hK : X.K = K := by rfl) (hg : Gl X x := by rfl) (hd : (x == ("__debug__" : Str)) = false := by decide) : JE X W (.Name x pos) (kConT K x xs) := by
  subst hK
  exact pe_mono (je_glob (W := W) (v := .ref (cl X.K x)) h.g rfl hg hd) fun σ H Q ⟨G, M, R, E, hv, q, hR, hE⟩ => ⟨G, M, R, E, hv, q h.s, hR, hE⟩
end
theorem vals_abs : ∀ {us : List Value} {xs : List V}, us.map absV = xs.map some → (∀ x, x ∈ xs → (∃ i, x = .int i) ∨ ∃ s, x = .str s) → Vals xs us
  | [], [], _, _ => .nil
  | [], _ :: _, h, _ => by cases h
  | _ :: _, [], h, _ => by cases h
  | u :: us, x :: xs, h, hx => by
    rw [List.map_cons, List.map_cons] at h
    injection h with h1 h2
    refine .cons ?_ (vals_abs h2 fun y hy => hx y (List.mem_cons_of_mem _ hy))
    rcases hx x List.mem_cons_self with ⟨i, rfl⟩ | ⟨s, rfl⟩
    · cases u <;> simp only [absV] at h1 <;> first | (cases h1; done) | (injection h1 with h1; first | (cases h1; exact ⟨_, rfl⟩) | cases h1)
    · cases u <;> simp only [absV] at h1 <;> first | (cases h1; done) | (injection h1 with h1; first | (cases h1; exact ⟨_, rfl⟩) | cases h1)
theorem xt_mk {K : PySem.W.Frag} {mg : Str → Option Value} {h : Heap} {x : Str} {C : Addr} {xs : List V} {od : Option Addr} {its : Array Value} {n : Nat} {sl : Array (Option Value)} (X : K.In h) (G : h.Ns mainGlobals mg) (a : PySem.W.nsIn K mainGlobals x = some (some (.ref C)))
    (l : K.lookup C = some ⟨.type "tuple", od, .seq its n, sl⟩) (e : its.toList.map absV = xs.map some) (hx : ∀ x, x ∈ xs → (∃ i, x = .int i) ∨ ∃ s, x = .str s) (hs : its.size ≤ 1000) : XT K mg x xs := by
  have ec := cl_of a
  refine ⟨by rw [ec]; exact PySem.W.mg_of X G a, fun H => ?_⟩
  rw [ec]
  exact .inr ⟨_, its, n, l, rfl, rfl, Nat.le_trans hs (by decide), vals_abs e hx⟩
/-! ### sum of a tuple -/
section
variable {prog : Program} {w : World} {A : Around} {E : Value → Shared → Prop} {s : Shared} {l : Addr} {its : List Value} {ns : List Int} {Q : Value → Shared → Prop}
theorem sum_tupT (hh : A.handled = none) (hl : s.heap.IsTuple l its.toArray) (hi : IntsAre its ns)
    (h : ∀ h' tk t', (∀ b o, s.heap.get? b = some o → h'.get? b = some o) → Q (.int ns.sum t') { s with heap := h', toks := tk }) : wpAny (model prog w) A (call (.builtin "sum") [.ref l]) Q E s := by
  obtain ⟨xs, e⟩ := hi.allInts.items
  have hn : numsOf (intItems xs).toList = ns := by rw [← e]; exact hi.numsOf
  rw [nums_intItems] at hn
  rw [e] at hl
  have hlt : l < s.heap.objs.size := by obtain ⟨_, e, _⟩ := hl; exact Heap.lt_size e
  refine call_sum_walkG (wpAny_pyIter_tuple hl ?_)
  refine ⟨_, _, _, _, _, _, numAt xs, rfl, Walks.tuple (A := A.in1) hh _ l (Nat.ne_of_lt hlt) (intItems xs), ⟨⟨_, Heap.get?_push_size _ rfl, rfl, rfl⟩, hl.push _⟩, fun b hb => ?_, (fun _ _ => intItems_at), fun h' tk t' hk => ?_⟩
  · show b < (s.heap.push _).objs.size
    rw [Heap.size_push]
    simp only [List.mem_cons, List.not_mem_nil, or_false] at hb
    rcases hb with z | z
    · rw [z]; exact Nat.lt_succ_self _
    · rw [z]; exact Nat.lt_succ_of_lt hlt
  · have := h h' tk t' fun b o eb => hk b o (fun hm => absurd (Heap.lt_size eb) ((List.mem_singleton.mp hm) ▸ Nat.lt_irrefl _)) (Heap.get?_push_of_some _ eb)
    have e2 : preSum (numAt xs) (intItems xs).size = ns.sum := by
      rw [preSum_eq, List.take_of_length_le (by simp [intItems]), hn]
    rw [e2]; exact this
end
section
variable {X : Cx}
def kSumS (K : PySem.W.Frag) : KC := fun vs G M R => match vs with
  | [.ref a] => ∃ ns : List Int, SeqAt' K G M a (ns.map V.int) ∧ R (.int ns.sum) G M
  | _ => False
theorem kc_sumS (hc : X.calm = true := by rfl) : KCall X (.builtin "sum") (kSumS X.K) := by
  intro pins s σ H vs us Q I r h
  obtain ⟨G, M, R, hv, h, hR⟩ := h
  match vs, h with
  | [.ref a], ⟨ns, h1, h2⟩ =>
    rcases h1 with h1 | h1
    · exact cr_sum hc pins s σ H [.ref a] us Q I r ⟨a, ns, rfl, hv.lst h1, hR _ _ _ _ hv h2⟩
    · obtain ⟨its, rv, ht, _⟩ := I.tuple (ex_t hv.exx h1)
      rw [Vals.ref1 r]
      exact sum_tupT (I.ok.hd hc) ht rv.ints fun h' tk t' hk => ⟨.int _, H, I.kept hk, ⟨_, rfl⟩, hR _ _ _ _ hv h2⟩
end
end BT
set_option Elab.async false
set_option linter.all false
set_option maxRecDepth 100000
set_option maxHeartbeats 4000000
namespace BT
open PySem PySem.Spec L2
open PyProof.Rows hiding St
/-! ### len(set(xs)) of ints -/
theorem dedup_len : ∀ (l acc : List Int), (l.foldl step_dedup acc).length ≤ acc.length + l.length
  | [], acc => Nat.le_refl _
  | x :: l, acc => by
    have h := dedup_len l (step_dedup acc x)
    rw [step_length] at h
    rw [List.foldl_cons, List.length_cons]
    split at h <;> omega
theorem dedup_eq : ∀ (l acc : List Int), (l.foldl step_dedup acc).length = acc.length + l.length ↔ (l.Nodup ∧ ∀ x, x ∈ l → x ∉ acc)
  | [], acc => by simp
  | x :: l, acc => by
    rw [List.foldl_cons, List.length_cons]
    by_cases hx : acc.any (· == x) = true
    · have hm : x ∈ acc := by simpa using hx
      have h := dedup_len l (step_dedup acc x)
      rw [step_length, if_pos hx] at h
      constructor
      · intro e; omega
      · intro e; exact absurd hm (e.2 x List.mem_cons_self)
    · have hm : x ∉ acc := by simpa using hx
      have e1 : step_dedup acc x = acc ++ [x] := by unfold step_dedup; rw [if_neg hx]
      have ih := dedup_eq l (acc ++ [x])
      rw [List.length_append, List.length_singleton] at ih
      rw [e1, show acc.length + (l.length + 1) = acc.length + 1 + l.length by omega, ih, List.nodup_cons]
      constructor
      · rintro ⟨a, b⟩
        refine ⟨⟨fun z => b x z (by simp), a⟩, fun y hy => ?_⟩
        rcases List.mem_cons.mp hy with rfl | hy
        · exact hm
        · exact fun z => b y hy (List.mem_append.mpr (.inl z))
      · rintro ⟨⟨a, b⟩, c⟩
        refine ⟨b, fun y hy z => ?_⟩
        rcases List.mem_append.mp z with z | z
        · exact c y (List.mem_cons_of_mem _ hy) z
        · have : y = x := by simpa using z
          subst this; exact a hy
theorem range_getD (ns : List Int) : (List.range ns.length).map (fun i => ns.getD i 0) = ns := by
  apply List.ext_getElem (by simp)
  intro i h1 h2
  simp [List.getD_eq_getElem?_getD, List.getElem?_eq_getElem h2]
section
variable {X : Cx} {W : WX}
def kLenSet (K : PySem.W.Frag) (t : KE) : KE := fun σ G M R E => t σ G M (fun x G M => match x with
  | .ref a => ∃ ns : List Int, LstAt K G M a (ns.map V.int) ∧ ns.length ≤ 4000 ∧ ∀ m : Nat, m ≤ ns.length → (m = ns.length ↔ ns.Nodup) → R (.int m) G M
  | _ => False) E
theorem je_lenSet {a : Expr} {ta : KE} {p p2 q pos : Pos} (hm : X.mg "len" = none) (hm2 : X.mg "set" = none) (ha : JE X W a ta) (hc : X.calm = true := by rfl) (hg : Gl X "len" := by rfl) (hg2 : Gl X "set" := by rfl)
    (na : starEach [a] X.env = (false, eval a X.env) :: starEach [] X.env := by rfl) : JE X W (.Call (.Name "len" p) [.Call (.Name "set" p2) [a] [] q] [] pos) (kLenSet X.K ta) := by
  refine ⟨fun pins s σ H Q I ⟨G, M, R, E, hv, h, hR, hE⟩ => ?_⟩
  refine Call_ (ld_blt I hg hm PySem.boot_len ?_)
  refine PyProof.Rows.callWith_builtin1 (PyProof.Rows.args_cons ?_ rfl) rfl rfl
  refine Call_ (ld_blt I hg2 hm2 PyProof.Rows.boot_set ?_)
  refine PyProof.Rows.callWith_type1 (PyProof.Rows.args_cons (thn (ha.run pins s σ H (fun x H1 => ∃ (l : Addr) (ns : List Int), x = V.ref l ∧ SqL X.K H1 l (ns.map V.int) ∧ ns.length ≤ 4000 ∧ ∀ m : Nat, m ≤ ns.length → (m = ns.length ↔ ns.Nodup) → Q (.int m) H1) I ?_) fun v s1 ⟨x, H1, I1, r1, q1⟩ => PyProof.Rows.args_nil ?_) na) na rfl
  · refine ⟨G, M, _, E, hv, h, fun x G1 M1 H1 hv1 q => ?_, hE⟩
    match x, q with
    | .ref a, ⟨ns, q1, q2, q3⟩ => exact ⟨a, ns, rfl, hv1.lst q1, q2, fun m e1 e2 => hR _ G1 M1 H1 hv1 (q3 m e1 e2)⟩
  obtain ⟨l, ns, rfl, hq, h1, q1⟩ := q1
  cases r1
  obtain ⟨its, r, pl, hz⟩ := I1.list hq
  have hl : its.toArray.size = ns.length := by rw [List.size_toArray, ← r.length, List.length_map]
  refine call_set_list (I1.ok.hd hc) pl.isList (ns := ns) (by simpa using r.ints) (by unfold scanBound; omega) fun h' tk hS hk => ?_
  rw [hl] at hS
  have em : firstMet (fun i => ns.getD i 0) ns.length = ns.foldl step_dedup [] := by
    unfold firstMet; rw [range_getD]
  rw [em] at hS
  have hle := dedup_len ns []
  have heq := dedup_eq ns []
  rw [List.length_nil, Nat.zero_add] at hle heq
  refine PyProof.Rows.args_nil ?_
  obtain ⟨o, es, ep, t, ho, hex, hd, _, _, _, hf, hn⟩ := hS
  have I2 : Inv X pins σ H1 { s1 with heap := h', toks := tk } := I1.kept fun b o e => hk b o (Heap.lt_size e) e
  refine call_len_set ho hex hd hf (by rw [hn] <;> omega) ⟨.int _, H1, I2.tok _, ⟨_, by rw [hn]⟩, q1 _ hle (heq.trans ⟨fun z => z.1, fun z => ⟨z, fun x _ => by simp⟩⟩)⟩
/-! ### reversed(range(..)) -/
def revR (i j : Int) (R : Src → Hp → Mem → Prop) (G : Hp) (M : Mem) : Prop := (-(2 ^ 62) ≤ i ∧ i < 2 ^ 62 ∧ -(2 ^ 62) ≤ j ∧ j < 2 ^ 62) ∧ R (srcC (i + (((j - i).toNat : Nat) : Int) - 1) (-1) (j - i).toNat) G M
def kiRv1 (t : KE) : KI := fun σ G M R E => t σ G M (fun x G M => match x with
  | .int n => revR 0 n R G M
  | _ => False) E
def kiRv2 (t u : KE) : KI := fun σ G M R E => t σ G M (fun x G M => u σ G M (fun y G M => match x, y with
  | .int i, .int j => revR i j R G M
  | _, _ => False) E) E
theorem ji_rv1 {a tg : Expr} {t : KE} {p p2 pos pos2 : Pos} (hv : X.mg "reversed" = none) (hr : X.mg "range" = none) (ha : JE X W a t) (h1 : Gl X "reversed" := by rfl) (h2 : Gl X "range" := by rfl)
    (na : starEach [a] X.env = (false, eval a X.env) :: starEach [] X.env := by rfl) (nb : starEach [.Call (.Name "range" p2) [a] [] pos2] X.env = (false, eval (.Call (.Name "range" p2) [a] [] pos2) X.env) :: starEach [] X.env := by rfl) :
    JI X W tg (.Call (.Name "reversed" p) [.Call (.Name "range" p2) [a] [] pos2] [] pos) (kiRv1 t) :=
  pi_mono (pi_revR h1 hv (prg_1 h2 hr ha na) nb) fun σ H Q ⟨G, M, R, E, hv, h, hR, hE⟩ => ⟨G, M, _, E, hv, h, fun x G1 M1 H1 hv1 q => by
    match x, q with
    | .int n, ⟨⟨q1, q2, q3, q4⟩, q5⟩ => exact ⟨n, rfl, q1, q2, q3, q4, hR _ G1 M1 H1 hv1 q5 _ goes_C⟩, hE⟩
theorem ji_rv2 {a b tg : Expr} {t u : KE} {p p2 pos pos2 : Pos} (hv : X.mg "reversed" = none) (hr : X.mg "range" = none) (ha : JE X W a t) (hb : JE X W b u) (h1 : Gl X "reversed" := by rfl) (h2 : Gl X "range" := by rfl)
    (na : starEach [a, b] X.env = (false, eval a X.env) :: starEach [b] X.env := by rfl) (nb : starEach [b] X.env = (false, eval b X.env) :: starEach [] X.env := by rfl) (hp : (backTo pos2 (starEach [b] X.env)).any (·.1) = false := by rfl)
    (nc : starEach [.Call (.Name "range" p2) [a, b] [] pos2] X.env = (false, eval (.Call (.Name "range" p2) [a, b] [] pos2) X.env) :: starEach [] X.env := by rfl) :
    JI X W tg (.Call (.Name "reversed" p) [.Call (.Name "range" p2) [a, b] [] pos2] [] pos) (kiRv2 t u) :=
  pi_mono (pi_revR h1 hv (prg_2 h2 hr ha hb na nb hp) nc) fun σ H Q ⟨G, M, R, E, hv, h, hR, hE⟩ => ⟨G, M, _, E, hv, h, fun x G1 M1 H1 hv1 q => ⟨G1, M1, _, E, hv1, q, fun y G2 M2 H2 hv2 q => by
    match x, y, q with
    | .int i, .int j, ⟨⟨q1, q2, q3, q4⟩, q5⟩ => exact ⟨i, j, rfl, rfl, q1, q2, q3, q4, hR _ G2 M2 H2 hv2 q5 _ goes_C⟩, hE⟩, hE⟩
/-! ### index, insert, pop, clear, tuple(), bool() -/
theorem km_index : KMt X "list.index" (kIndex X.K) := kmt_of mt_index fun x vs G M R H Q hv h hR => by
  match x, vs, h with
  | .ref a, [y], ⟨ys, j, z, h1, h2, h3, h4, h5, h6, h7⟩ => exact ⟨a, ys, y, j, z, rfl, rfl, hv.lst h1, h2, h3, h4, h5, h6, hR _ G M H hv h7⟩
def kInsert : KM := fun x vs G M R => match x, vs with
  | .ref a, [.int i, y] => ∃ n xs, M[n]? = some (a, .lst xs) ∧ xs.length < sizeLine ∧ 0 ≤ i ∧ i < 2 ^ 63 ∧ R .non G (M.set n (a, .lst (xs.take i.toNat ++ [y] ++ xs.drop i.toNat)))
  | _, _ => False
theorem km_insert : KMt X "list.insert" kInsert := kmt_of mt_insert fun x vs G M R H Q hv h hR => by
  match x, vs, h with
  | .ref a, [.int i, y], ⟨n, xs, h1, h2, h3, h4, h5⟩ => exact ⟨a, xs, i, y, rfl, rfl, hv.get h1, h2, h3, h4, hR _ G _ _ (hv.set h1) h5⟩
def kTuple (K : PySem.W.Frag) : KC := fun vs G M R => match vs with
  | [.ref a] => (∃ xs, LstAt K G M a xs ∧ ∀ p, Fr G M p → R (.ref p) (upd G p (.tup xs)) M) ∨ ∃ xs, SqT K G a xs ∧ R (.ref a) G M
  | _ => False
theorem kc_tuple : KCall X (.type "tuple") (kTuple X.K) := kcall_of call_tuple_of fun vs G M R H Q hv h hR => by
  match vs, h with
  | [.ref a], .inl ⟨xs, h1, h2⟩ => exact ⟨a, xs, rfl, .inl ⟨hv.lst h1, fun p hp => hR _ _ M _ (hv.newG hp) (h2 p (hv.fr hp))⟩⟩
  | [.ref a], .inr ⟨xs, h1, h2⟩ => exact ⟨a, xs, rfl, .inr ⟨hv.tup h1, hR _ G M H hv h2⟩⟩
def kBool : KC := fun vs G M R => match vs with
  | [.int i] => R (.bl (i != 0)) G M
  | [.bl k] => R (.bl k) G M
  | _ => False
theorem kc_bool : KCall X (.type "bool") kBool := kcall_of call_bool1 fun vs G M R H Q hv h hR => by
  match vs, h with
  | [.int i], h => exact .inl ⟨i, rfl, hR _ G M H hv h⟩
  | [.bl i], h => exact .inr ⟨i, rfl, hR _ G M H hv h⟩
def kPopAt : KM := fun x vs G M R => match x, vs with
  | .ref a, [.int i] => ∃ n xs k y, M[n]? = some (a, .lst xs) ∧ -(2 ^ 63) ≤ i ∧ i < 2 ^ 63 ∧ seqIndex? i xs.length = some k ∧ xs[k]? = some y ∧ R y G (M.set n (a, .lst (xs.eraseIdx k)))
  | _, _ => False
def kPop : KM := fun x vs G M R => match x, vs with
  | .ref a, [] => ∃ n xs y, M[n]? = some (a, .lst xs) ∧ xs[xs.length - 1]? = some y ∧ R y G (M.set n (a, .lst xs.dropLast))
  | _, _ => False
def kClear : KM := fun x vs G M R => match x, vs with
  | .ref a, [] => ∃ n xs, M[n]? = some (a, .lst xs) ∧ R .non G (M.set n (a, .lst []))
  | _, _ => False
theorem km_popAt : KMt X "list.pop" kPopAt := kmt_of mt_popAt fun x vs G M R H Q hv h hR => by
  match x, vs, h with
  | .ref a, [.int i], ⟨n, xs, k, y, h1, h2, h3, h4, h5, h6⟩ => exact ⟨a, xs, i, k, y, rfl, rfl, hv.get h1, h2, h3, h4, h5, hR _ G _ _ (hv.set h1) h6⟩
theorem km_pop : KMt X "list.pop" kPop := kmt_of mt_pop fun x vs G M R H Q hv h hR => by
  match x, vs, h with
  | .ref a, [], ⟨n, xs, y, h1, h2, h3⟩ => exact ⟨a, xs, y, rfl, rfl, hv.get h1, h2, hR _ G _ _ (hv.set h1) h3⟩
theorem km_clear : KMt X "list.clear" kClear := kmt_of mt_clear fun x vs G M R H Q hv h hR => by
  match x, vs, h with
  | .ref a, [], ⟨n, xs, h1, h3⟩ => exact ⟨a, xs, rfl, rfl, hv.get h1, hR _ G _ _ (hv.set h1) h3⟩
/-! ### {k: v, ..} -/
def kPairs : List (KE × KE) → St → Hp → Mem → (List (V × V) → Hp → Mem → Prop) → KX → Prop
  | [], _, G, M, R, _ => R [] G M
  | (tk, tv) :: r, σ, G, M, R, E => tk σ G M (fun x G M => tv σ G M (fun y G M => kPairs r σ G M (fun ps G M => R ((x, y) :: ps) G M) E) E) E
def kDisp (trs : List (KE × KE)) : KE := fun σ G M R E => ∀ p, Fr G M p → kPairs trs σ G ((p, .dK []) :: M) (fun ps G M => ∃ (n : Nat) (kvs : List (Key × V)), M[n]? = some (p, .dK []) ∧ ps = kvs.map (fun kv => (kV kv.1, kv.2)) ∧ kvs.length ≤ 15 ∧ R (.ref p) G (M.set n (p, .dK (mergeK [] kvs)))) E
def JPs (X : Cx) (W : WX) (pos : Pos) (keys : List (Option Expr)) (values : List Expr) (trs : List (KE × KE)) : Prop := PPs X pos keys values (trs.map fun p => (upG W p.1, upG W p.2))
theorem jps_nil {pos : Pos} : JPs X W pos [] [] [] := pps_nil
theorem jps_cons {pos : Pos} {k v : Expr} {ks : List (Option Expr)} {vs : List Expr} {tk tv : KE} {trs : List (KE × KE)} (hk : JE X W k tk) (hv : JE X W v tv) (hr : JPs X W pos ks vs trs) : JPs X W pos (some k :: ks) (v :: vs) ((tk, tv) :: trs) := pps_cons hk hv hr
theorem pairs_sim {σ : St} {E : KX} (hE : ∀ c d G' M' H', Hv G' M' H' → E c d G' M' → W c d σ H') : ∀ (trs : List (KE × KE)) (G : Hp) (M : Mem) (R : List (V × V) → Hp → Mem → Prop) (H : Hp) (Q : List (V × V) → Hp → Prop), Hv G M H → kPairs trs σ G M R E →
    (∀ v G' M' H', Hv G' M' H' → R v G' M' → Q v H') → tPairs (trs.map fun p => (upG W p.1, upG W p.2)) σ H Q
  | [], G, M, R, H, Q, hv, h, hR => hR _ G M H hv h
  | (tk, tv) :: r, G, M, R, H, Q, hv, h, hR => ⟨G, M, _, E, hv, h, fun x G1 M1 H1 hv1 q1 => ⟨G1, M1, _, E, hv1, q1, fun y G2 M2 H2 hv2 q2 => pairs_sim hE r G2 M2 _ H2 _ hv2 q2 fun v G' M' H' hv' q => hR _ G' M' H' hv' q, hE⟩, hE⟩
theorem je_disp {pos : Pos} {keys : List (Option Expr)} {values : List Expr} {trs : List (KE × KE)} (h : JPs X W pos keys values trs) (hall : keys.all (·.isSome) = true := by rfl) (hl : keys.length = values.length := by rfl) (h0 : keys ≠ [] := by exact fun z => nomatch z) (h15 : keys.length ≤ 15 := by decide) :
    JE X W (.Dict keys values pos) (kDisp trs) := pe_mono (pe_disp h hall hl h0 h15) fun σ H Q ⟨G, M, R, E, hv, h, hR, hE⟩ => fun p hp =>
  pairs_sim hE trs G _ _ _ _ (hv.newM hp) (h p (hv.fr hp)) fun ps G' M' H' hv' ⟨n, kvs, q1, q2, q3, q4⟩ => ⟨hv'.get q1, kvs, q2, q3, hR _ G' _ _ (hv'.set q1) q4⟩
end
end BT
namespace BT
open PySem PySem.Spec L2
/-- what is walked, behind which something may be forgotten -/
def kiW (t : KI) : KI := fun σ G M R E => t σ G M (fun src G M => ∃ G' M', Wk G M G' M' ∧ R src G' M') E
theorem ji_w {X : Cx} {W : WX} {tg it : Expr} {t : KI} (h : JI X W tg it t) : JI X W tg it (kiW t) := pi_mono h fun σ H Q ⟨G, M, R, E, hv, h, hR, hE⟩ =>
  ⟨G, M, _, E, hv, h, fun src G1 M1 H1 hv1 ⟨G2, M2, w, q⟩ J go => hR src G2 M2 H1 (w H1 hv1) q J go, hE⟩
end BT
set_option Elab.async false
set_option linter.all false
set_option maxRecDepth 100000
set_option maxHeartbeats 4000000
namespace BT
open PySem PySem.Spec L2
open PyProof.Rows hiding St
/-! ### objects: the program's classes by number, their attributes by place -/
def clsN : Nat → Str × List Str
  | 0 => ("Plain", ["words"])
  | 1 => ("Keeper", ["log"])
  | 2 => ("Shelf", ["keeper", "number", "things"])
  | 3 => ("Scan", ["cells", "limit", "draws", "keeper", "made", "shelf"])
  | 4 => ("Spare", ["cells", "limit", "draws", "keeper", "made", "side", "order", "shelf", "hand"])
  | 5 => ("Stairs", ["cells", "limit", "draws", "keeper", "made", "climb", "hand", "shelves", "orders"])
  | 6 => ("Tree", ["cells", "limit", "draws", "keeper", "made", "body", "table"])
  | 7 => ("Grove", ["cells", "limit", "draws", "keeper", "made", "highs", "bodies", "start", "table"])
  | 8 => ("Body", ["shelf", "high", "firsts", "hand"])
  | 9 => ("Climb", ["cells", "last", "full", "drawn", "home", "held"])
  | 10 => ("Runner", ["program", "slates", "place"])
  | _ => ("Desk", ["stores"])
theorem cls_all {P : Str × List Str → Prop} (h : ∀ k, k < 12 → P (clsN k)) : ∀ k, P (clsN k) := fun k => by
  by_cases e : k < 12
  · exact h k e
  · have : clsN k = clsN 11 := by
      unfold clsN
      split <;> first | omega | rfl
    rw [this]; exact h 11 (by decide)
theorem cls_nodup : ∀ k, (clsN k).2.Nodup := cls_all (P := fun x => x.2.Nodup) (by decide +kernel)
theorem cls_few : ∀ k, (clsN k).2.length < 20 := cls_all (P := fun x => x.2.length < 20) (by decide +kernel)
def Ob (K : PySem.W.Frag) (k : Nat) (dx : Addr) (vs : List V) : HO := .ins (cl K (clsN k).1) dx ((clsN k).2.zip vs)
def putV : Nat → V → List V → List V
  | 0, y, [] => [y]
  | 0, y, _ :: r => y :: r
  | n + 1, y, x :: r => x :: putV n y r
  | _ + 1, _, [] => []
theorem zip_lookup : ∀ (ns : List Str) (vs : List V) (i : Nat) (f : Str), ns.Nodup → ns[i]? = some f → (ns.zip vs).lookup f = vs[i]?
  | [], _, _, _, _, h => by simp at h
  | n :: ns, [], i, f, _, _ => by simp
  | n :: ns, v :: vs, 0, f, _, h => by
    have e : n = f := by simpa using h
    subst e
    simp [List.zip_cons_cons, List.lookup]
  | n :: ns, v :: vs, i + 1, f, hn, h => by
    rw [List.nodup_cons] at hn
    have h2 : ns[i]? = some f := by simpa using h
    have ne : (f == n) = false := by
      rw [beq_eq_false_iff_ne]
      intro z
      exact hn.1 (z ▸ List.mem_of_getElem? h2)
    rw [List.zip_cons_cons, List.lookup, ne]
    simp only []
    rw [zip_lookup ns vs i f hn.2 h2]; simp
theorem zip_none : ∀ (ns : List Str) (vs : List V) (f : Str), f ∉ ns → (ns.zip vs).lookup f = none
  | [], _, _, _ => by simp
  | n :: ns, [], f, _ => by simp
  | n :: ns, v :: vs, f, h => by
    have ne : (f == n) = false := by
      rw [beq_eq_false_iff_ne]
      intro z
      exact h (z ▸ List.mem_cons_self)
    rw [List.zip_cons_cons, List.lookup, ne]
    exact zip_none ns vs f fun z => h (List.mem_cons_of_mem _ z)
theorem zip_put : ∀ (ns : List Str) (vs : List V) (i : Nat) (f : Str) (y : V), ns.Nodup → ns[i]? = some f → i ≤ vs.length → putF f y (ns.zip vs) = ns.zip (putV i y vs)
  | [], _, _, _, _, _, h, _ => by simp at h
  | n :: ns, [], 0, f, y, _, h, _ => by
    have e : n = f := by simpa using h
    subst e
    cases ns <;> rfl
  | n :: ns, [], i + 1, f, y, _, _, h => by simp at h
  | n :: ns, v :: vs, 0, f, y, _, h, _ => by
    have e : n = f := by simpa using h
    subst e
    show putF n y ((n, v) :: ns.zip vs) = _
    unfold putF
    rw [if_pos rfl]; rfl
  | n :: ns, v :: vs, i + 1, f, y, hn, h, hi => by
    rw [List.nodup_cons] at hn
    have h2 : ns[i]? = some f := by simpa using h
    have ne : ¬ n = f := fun z => hn.1 (z ▸ List.mem_of_getElem? h2)
    show putF f y ((n, v) :: ns.zip vs) = _
    unfold putF
    rw [if_neg ne, zip_put ns vs i f y hn.2 h2 (by simpa using hi)]; rfl
/-- what of the text a class must have -/
structure CK (K : PySem.W.Frag) (k : Nat) : Prop where
  cls : Cls K (cl K (clsN k).1)
  na : ∀ f ∈ (clsN k).2, NoAttr K (cl K (clsN k).1) f
theorem lookup_mem {α β : Type} [BEq α] [LawfulBEq α] : ∀ {l : List (α × β)} {a : α} {b : β}, l.lookup a = some b → (a, b) ∈ l
  | [], _, _, h => by simp at h
  | (x, y) :: l, a, b, h => by
    rw [List.lookup] at h
    split at h
    · rename_i e
      have e := eq_of_beq e
      cases h; subst e; exact List.mem_cons_self
    · exact List.mem_cons_of_mem _ (lookup_mem h)
section
variable {X : Cx} {W : WX} {pos : Pos}
/-- e.f; tab: the classes that have it, and its place -/
def kFld (K : PySem.W.Frag) (tab : List (Nat × Nat)) (t : KE) : KE := fun σ G M R E => t σ G M (fun x G M => match x with
  | .ref a => ∃ (k : Nat) (dx : Addr) (vs : List V) (i : Nat) (v : V), At G M a (Ob K k dx vs) ∧ tab.lookup k = some i ∧ vs[i]? = some v ∧ R v G M
  | _ => False) E
theorem je_fld {e : Expr} {f : Str} {tab : List (Nat × Nat)} {t : KE} (he : JE X W e t) (ht : ∀ p ∈ tab, CK X.K p.1 ∧ (clsN p.1).2[p.2]? = some f) (hb : attributeBase e f X.env (eval e X.env) = eval e X.env := by rfl) : JE X W (.Attribute e f pos) (kFld X.K tab t) :=
  pe_mono (pe_fld he hb) fun σ H Q ⟨G, M, R, E, hv, h, hR, hE⟩ => ⟨G, M, _, E, hv, h, fun x G1 M1 H1 hv1 q => by
    match x, q with
    | .ref a, ⟨k, dx, vs, i, v, q1, q2, q3, q4⟩ =>
      obtain ⟨ck, hf⟩ := ht (k, i) (lookup_mem q2)
      exact ⟨a, _, dx, _, v, rfl, hv1.at q1, ck.cls, ck.na f (List.mem_of_getElem? hf), by rw [zip_lookup _ _ i f (cls_nodup k) hf]; exact q3, hR _ G1 M1 H1 hv1 q4⟩, hE⟩
/-- o.f = e -/
def kFSet (K : PySem.W.Frag) (tab : List (Nat × Nat)) (to tv : KE) : KS := fun D σ G M => tv σ G M (fun y G M => to σ G M (fun x G M => match x with
  | .ref a => ∃ (n k : Nat) (dx : Addr) (vs : List V) (i : Nat), M[n]? = some (a, Ob K k dx vs) ∧ tab.lookup k = some i ∧ i ≤ vs.length ∧ D.nx σ G (M.set n (a, Ob K k dx (putV i y vs)))
  | _ => False) (D.x σ)) (D.x σ)
theorem js_fset {o value : Expr} {f : Str} {tab : List (Nat × Nat)} {to tv : KE} {pos' : Pos} (ho : JE X W o to) (hv : JE X W value tv) (ht : ∀ p ∈ tab, CK X.K p.1 ∧ (clsN p.1).2[p.2]? = some f)
    (hs : swapsWith value (some (.Attribute o f pos')) pos.line X.env = pure false := by rfl) : JS X W (.Assign [.Attribute o f pos'] value pos) (kFSet X.K tab to tv) :=
  ps_mono (ps_fld ho hv hs) fun D σ H ⟨G, M, d, hv, h, en⟩ => ⟨G, M, _, _, hv, h, fun y G1 M1 H1 hv1 q => ⟨G1, M1, _, _, hv1, q, fun x G2 M2 H2 hv2 q2 => by
    match x, q2 with
    | .ref a, ⟨n, k, dx, vs, i, q3, q4, q5, q6⟩ =>
      obtain ⟨ck, hf⟩ := ht (k, i) (lookup_mem q4)
      refine ⟨a, _, dx, _, rfl, hv2.get q3, ck.cls, ck.na f (List.mem_of_getElem? hf), ?_, ?_⟩
      · have := cls_few k
        rw [List.length_zip]; omega
      · rw [zip_put _ _ i f y (cls_nodup k) hf q5]
        exact en.nx _ G2 _ _ (hv2.set q3) q6, fun c a G' M' H' hv' q => en.xc c a σ G' M' H' hv' q⟩, fun c a G' M' H' hv' q => en.xc c a σ G' M' H' hv' q⟩
/-- a method that keeps its promise, of the class k -/
structure MDef (P : Program) (w : World) (K : PySem.W.Frag) (mg : Str → Option Value) (base : Heap) (lev : Nat) (k : Nat) (m : Str) (S : KSp) : Prop where
  ex : ∃ f fd ps, FnOk P w K mg base (L2.CX P w) lev f fd ps (lift S) ∧ Meth K (cl K (clsN k).1) m f ∧ Binds K fd ps []
  ck : CK K k
  no : m ∉ (clsN k).2
theorem MDef.mono {P : Program} {w : World} {K : PySem.W.Frag} {mg : Str → Option Value} {base : Heap} {lev lev' k : Nat} {m : Str} {S : KSp} (D : MDef P w K mg base lev k m S) (h : lev ≤ lev') : MDef P w K mg base lev' k m S := by
  obtain ⟨⟨f, fd, ps, F, a, b⟩, c, d⟩ := D
  exact ⟨⟨f, fd, ps, F.mono h, a, b⟩, c, d⟩
def kMeth (K : PySem.W.Frag) (tab : List (Nat × KSp)) (to : KE) (t : KA) : KE := fun σ G M R E => to σ G M (fun x G M => match x with
  | .ref a => ∃ (k : Nat) (dx : Addr) (vs : List V) (S : KSp), At G M a (Ob K k dx vs) ∧ tab.lookup k = some S ∧ t σ G M (fun ws G M => S (.ref a :: ws) G M R E) E
  | _ => False) E
theorem je_meth {pl : Sem Bool} {o e : Expr} {es : List Expr} {m : Str} {apos : Pos} {tab : List (Nat × KSp)} {k : Nat} {to : KE} {t : KA} (D : ∀ p ∈ tab, MDef X.prog X.w X.K X.mg X.base k p.1 m p.2) (hr : Room k X.A) (tk : Takes X W) (ho : JE X W o to) (ha : JA X W (e :: es) t)
    (hst : starEach (e :: es) X.env = (false, eval e X.env) :: starEach es X.env := by rfl) (hpl : (backTo pos (starEach es X.env)).any (·.1) = false := by rfl)
    (ht : eval (.Call (.Attribute o m apos) (e :: es) [] pos) X.env = (do
      let ov ← eval o X.env
      standAt apos.atName
      let (f, first) ← holding [ov] (getMethod ov m pl)
      callWith pos f first (backTo pos (starEach (e :: es) X.env)) (backToKw pos (keywordEach [] X.env))) := by rfl) :
    JE X W (.Call (.Attribute o m apos) (e :: es) [] pos) (kMeth X.K tab to t) := by
  refine ⟨fun pins s σ H Q I ⟨G, M, R, E, hv, h, hR, hE⟩ => ?_⟩
  refine PySem.W.methodCall_KW (pl := pl) (thn (ho.run pins s σ H (fun x H1 => ∃ (a k : Nat) (dx : Addr) (vs : List V) (S : KSp), x = .ref a ∧ H1 a = some (Ob X.K k dx vs) ∧ tab.lookup k = some S ∧ upG W t σ H1 fun ws H2 => lift S (.ref a :: ws) H2 Q (WE W σ)) I ?_) fun u s1 ⟨x, H1, I1, rx, a, k, dx, vs, S, ex, ea, l, q⟩ => ?_) ht
  · refine ⟨G, M, _, E, hv, h, fun x G1 M1 H1 hv1 q => ?_, hE⟩
    match x, q with
    | .ref a, ⟨k, dx, vs, S, q1, q2, q3⟩ => exact ⟨a, k, dx, vs, S, rfl, hv1.at q1, q2, G1, M1, _, E, hv1, q3, fun ws G2 M2 H2 hv2 q4 => ⟨G2, M2, R, E, hv2, q4, hR, hE⟩, hE⟩
  subst ex
  obtain rfl : u = Value.ref a := rx
  obtain ⟨⟨f, fd, ps, F, mt, hb⟩, ck, no⟩ := D (k, S) (lookup_mem l)
  refine getmeth_ok I1 ea ck.cls mt (zip_none _ _ _ no) ?_
  refine PySem.W.callWith_K (first := [.ref a]) (h₀ := X.base) I.ok.mod.kin mt.kp (thn (ha.run pos pins s1 σ H1 _ I1 q) fun us s2 ⟨vs, H2, I2, r, q2⟩ => ⟨I2.kIn, ?_⟩) hst hpl
  exact run_fnS (us := .ref a :: us) (vs := .ref a :: vs) F hr hb (passAt tk σ) I2 (.cons rfl r) q2
theorem je_meth0 {pl : Sem Bool} {o : Expr} {m : Str} {apos : Pos} {tab : List (Nat × KSp)} {k : Nat} {to : KE} (D : ∀ p ∈ tab, MDef X.prog X.w X.K X.mg X.base k p.1 m p.2) (hr : Room k X.A) (tk : Takes X W) (ho : JE X W o to)
    (ht : eval (.Call (.Attribute o m apos) [] [] pos) X.env = (do
      let ov ← eval o X.env
      standAt apos.atName
      let (f, first) ← holding [ov] (getMethod ov m pl)
      callWith pos f first (backTo pos (starEach [] X.env)) (backToKw pos (keywordEach [] X.env))) := by rfl) :
    JE X W (.Call (.Attribute o m apos) [] [] pos) (kMeth X.K tab to kNil) := by
  refine ⟨fun pins s σ H Q I ⟨G, M, R, E, hv, h, hR, hE⟩ => ?_⟩
  refine PySem.W.methodCall_KW (pl := pl) (thn (ho.run pins s σ H (fun x H1 => ∃ (a k : Nat) (dx : Addr) (vs : List V) (S : KSp), x = .ref a ∧ H1 a = some (Ob X.K k dx vs) ∧ tab.lookup k = some S ∧ lift S [.ref a] H1 Q (WE W σ)) I ?_) fun u s1 ⟨x, H1, I1, rx, a, k, dx, vs, S, ex, ea, l, q⟩ => ?_) ht
  · refine ⟨G, M, _, E, hv, h, fun x G1 M1 H1 hv1 q => ?_, hE⟩
    match x, q with
    | .ref a, ⟨k, dx, vs, S, q1, q2, q3⟩ => exact ⟨a, k, dx, vs, S, rfl, hv1.at q1, q2, G1, M1, R, E, hv1, q3, hR, hE⟩
  subst ex
  obtain rfl : u = Value.ref a := rx
  obtain ⟨⟨f, fd, ps, F, mt, hb⟩, ck, no⟩ := D (k, S) (lookup_mem l)
  refine getmeth_ok I1 ea ck.cls mt (zip_none _ _ _ no) ?_
  exact PySem.W.callWith_K0 (first := [.ref a]) I1.kIn mt.kp (run_fnS (us := [.ref a]) (vs := [.ref a]) F hr hb (passAt tk σ) I1 (.cons rfl .nil) q)
/-! C(..) -/
theorem run_makeS {CX : CXT} {k : Nat} {C f : Addr} {fd : FuncData} {ps : List Str} {sp : Sp} {E : XK} {pins : List (Addr × Obj)} {σ : St} {H : Hp} {s : Shared} {Q : VK} {us : List Value} {vs : List V} (M : Mk X.K C f) (F : FnOk X.prog X.w X.K X.mg X.base CX k f fd ps sp) (hr : Room (k + 1) X.A) (hb : Binds X.K fd ps [])
    (hx : PassesAt CX X σ E) (I : Inv X pins σ H s) (r : Vals vs us)
    (h : ∀ x dx, H x = none → H dx = none → dx ≠ x → sp (.ref x :: vs) (upd (upd H dx (.own x)) x (.ins C dx [])) (fun v H2 => v = .non ∧ Q (.ref x) H2) E) :
    wpAny (model X.prog X.w) X.A (call (.ref C) us) (EP X pins σ Q) X.xe s := by
  have hq := h (s.heap.objs.size + 1) s.heap.objs.size (I.hok.fresh (Nat.le_succ _)) (I.hok.fresh (Nat.le_refl _)) (Nat.ne_of_lt (Nat.lt_succ_self _))
  have I2 := Inv.made (C := C) I
  have r2 : Vals (V.ref (s.heap.objs.size + 1) :: vs) (Value.ref (s.heap.objs.size + 1) :: us) := .cons rfl r
  have hl : (Value.ref (s.heap.objs.size + 1) :: us ++ []).length = ps.length := by
    have e := r2.length
    rw [F.len _ _ _ _ hq] at e
    rw [List.append_nil]
    exact e.symm
  have hb2 := hb _ (Value.ref (s.heap.objs.size + 1) :: us) I2.kIn hl
  rw [List.append_nil] at hb2
  refine wpAny_call (make_map (f := f) I.kIn M.makes M.init (beq_iff_eq.mp M.fn) (codeAny_mono (F.run _ X.stack _ _ ⟨Value.ref (s.heap.objs.size + 1) :: us, []⟩ (Value.ref (s.heap.objs.size + 1) :: us) _ _ E (hr.make C us [])
    (I2.env0.make C us []) hb2 r2 hq) fun r s' hq' => ?_))
  cases r with
  | error e => exact hx pins _ _ e s' I2 hq'
  | ok fl =>
    cases fl with
    | ret u =>
      obtain ⟨v, H', I3, rv, ev, q3⟩ := I2.after hq'
      subst ev
      exact ⟨rv, ⟨V.ref (s.heap.objs.size + 1), H', I3, rfl, q3⟩⟩
    | next => exact False.elim hq'
    | brk => exact False.elim hq'
    | cont => exact False.elim hq'
structure CDef (P : Program) (w : World) (K : PySem.W.Frag) (mg : Str → Option Value) (base : Heap) (lev : Nat) (k : Nat) (x : Str) (S : KSp) : Prop where
  ex : ∃ f fd ps, FnOk P w K mg base (L2.CX P w) lev f fd ps (lift S) ∧ Mk K (cl K (clsN k).1) f ∧ Binds K fd ps []
  g : mg x = some (.ref (cl K (clsN k).1))
def kMake (K : PySem.W.Frag) (k : Nat) (S : KSp) (t : KA) : KE := fun σ G M R E => t σ G M (fun vs G M => ∀ x dx, Fr G M x → S (.ref x :: vs) G ((x, Ob K k dx []) :: M) (fun v G M => v = .non ∧ R (.ref x) G M) E) E
theorem ob_nil {K : PySem.W.Frag} {k : Nat} {dx : Addr} : Ob K k dx [] = .ins (cl K (clsN k).1) dx [] := by unfold Ob; rw [List.zip_nil_right]
theorem make_sim {k : Nat} {S : KSp} {σ : St} {vs : List V} {G : Hp} {M : Mem} {R : KR} {E : KX} {H : Hp} {Q : VK} (hv : Hv G M H) (q : ∀ x dx, Fr G M x → S (.ref x :: vs) G ((x, Ob X.K k dx []) :: M) (fun v G M => v = .non ∧ R (.ref x) G M) E)
    (hR : ∀ v G' M' H', Hv G' M' H' → R v G' M' → Q v H') (hE : ∀ c d G' M' H', Hv G' M' H' → E c d G' M' → W c d σ H') (x dx : Addr) (hx : H x = none) (hd : H dx = none) (hne : dx ≠ x) :
    lift S (.ref x :: vs) (upd (upd H dx (.own x)) x (.ins (cl X.K (clsN k).1) dx [])) (fun v H2 => v = .non ∧ Q (.ref x) H2) (WE W σ) := by
  have h1 : Hv G M (upd H dx (.own x)) := hv.junk hd
  have h2 : (upd H dx (.own x)) x = none := by rw [upd_ne (Ne.symm hne)]; exact hx
  refine ⟨G, _, fun v G M => v = .non ∧ R (.ref x) G M, E, h1.newM (o := .ins (cl X.K (clsN k).1) dx []) h2, by rw [← ob_nil]; exact q x dx (hv.fr hx), fun v G' M' H' hv' q => ⟨q.1, hR _ G' M' H' hv' q.2⟩, fun c d G' M' H' hv' q => hE c d G' M' H' hv' q⟩
theorem je_make {k lev cid : Nat} {x : Str} {p : Pos} {e : Expr} {es : List Expr} {S : KSp} {t : KA} (D : CDef X.prog X.w X.K X.mg X.base lev cid x S) (hk : PySem.W.keepIn X.K (.ref (cl X.K (clsN cid).1)) = true) (hr : Room k X.A) (tk : Takes X W) (ha : JA X W (e :: es) t) (hl : lev + 1 ≤ k := by decide) (hg : Gl X x := by rfl)
    (hdb : (x == ("__debug__" : Str)) = false := by decide) (he : starEach (e :: es) X.env = (false, eval e X.env) :: starEach es X.env := by rfl) (hpl : (backTo pos (starEach es X.env)).any (·.1) = false := by rfl) :
    JE X W (.Call (.Name x p) (e :: es) [] pos) (kMake X.K cid S t) := by
  obtain ⟨⟨f, fd, ps, F, mk, hb⟩, hm⟩ := D
  obtain ⟨k', rfl⟩ : ∃ k', k = k' + 1 := ⟨k - 1, by omega⟩
  refine ⟨fun pins s σ H Q I ⟨G, M, R, E, hv, h, hR, hE⟩ => ?_⟩
  refine wpAny_Call_Name_kw (ld_glob I hg hm ?_ hdb)
  refine PySem.W.callWith_K (h₀ := X.base) I.ok.mod.kin hk (thn (ha.run pos pins s σ H (fun vs H1 => ∀ x dx, H1 x = none → H1 dx = none → dx ≠ x → lift S (.ref x :: vs) (upd (upd H1 dx (.own x)) x (.ins (cl X.K (clsN cid).1) dx [])) (fun v H2 => v = .non ∧ Q (.ref x) H2) (WE W σ)) I ?_) fun us s1 ⟨vs, H1, I1, r, q⟩ => ⟨I1.kIn, ?_⟩) he hpl
  · exact ⟨G, M, _, E, hv, h, fun vs G1 M1 H1 hv1 q x dx hx hd hne => make_sim hv1 q hR hE x dx hx hd hne, hE⟩
  · exact run_makeS mk (F.mono (by omega)) hr hb (passAt tk σ) I1 r q
theorem je_make0 {k lev cid : Nat} {x : Str} {p : Pos} {S : KSp} (D : CDef X.prog X.w X.K X.mg X.base lev cid x S) (hk : PySem.W.keepIn X.K (.ref (cl X.K (clsN cid).1)) = true) (hr : Room k X.A) (tk : Takes X W) (hl : lev + 1 ≤ k := by decide) (hg : Gl X x := by rfl)
    (hdb : (x == ("__debug__" : Str)) = false := by decide) : JE X W (.Call (.Name x p) [] [] pos) (kMake X.K cid S kNil) := by
  obtain ⟨⟨f, fd, ps, F, mk, hb⟩, hm⟩ := D
  obtain ⟨k', rfl⟩ : ∃ k', k = k' + 1 := ⟨k - 1, by omega⟩
  refine ⟨fun pins s σ H Q I ⟨G, M, R, E, hv, h, hR, hE⟩ => ?_⟩
  refine wpAny_Call_Name_kw (ld_glob I hg hm ?_ hdb)
  refine PySem.W.callWith_K0 I.kIn hk (run_makeS (us := []) (vs := []) mk (F.mono (by omega)) hr hb (passAt tk σ) I .nil fun x dx hx hd hne => make_sim hv h hR hE x dx hx hd hne)
/-! C.m(self, ..), m a def of the class C -/
structure FDef (P : Program) (w : World) (K : PySem.W.Frag) (mg : Str → Option Value) (base : Heap) (lev : Nat) (x m : Str) (S : KSp) : Prop where
  ex : ∃ f fd ps, FnOk P w K mg base (L2.CX P w) lev f fd ps (lift S) ∧ PySem.W.findCls K (.ref (cl K x)) (.type "type") m = some (.val (.ref f)) ∧ Binds K fd ps [] ∧ PySem.W.keepIn K (.ref f) = true
  g : mg x = some (.ref (cl K x))
  rd : PySem.W.readsIn K (cl K x) (.type "type") = true
  ga : PySem.W.specialIn K (.ref (cl K x)) "__getattribute__" = some (some (.builtin "type.__getattribute__"))
theorem je_clsCall {pl : Sem Bool} {k lev : Nat} {x m : Str} {p apos : Pos} {e : Expr} {es : List Expr} {S : KSp} {t : KA} (D : FDef X.prog X.w X.K X.mg X.base lev x m S) (hr : Room k X.A) (tk : Takes X W) (ha : JA X W (e :: es) t) (hl : lev ≤ k := by decide) (hg : Gl X x := by rfl)
    (hdb : (x == ("__debug__" : Str)) = false := by decide) (hst : starEach (e :: es) X.env = (false, eval e X.env) :: starEach es X.env := by rfl) (hpl : (backTo pos (starEach es X.env)).any (·.1) = false := by rfl)
    (ht : eval (.Call (.Attribute (.Name x p) m apos) (e :: es) [] pos) X.env = (do
      let ov ← eval (.Name x p) X.env
      standAt apos.atName
      let (f, first) ← holding [ov] (getMethod ov m pl)
      callWith pos f first (backTo pos (starEach (e :: es) X.env)) (backToKw pos (keywordEach [] X.env))) := by rfl) :
    JE X W (.Call (.Attribute (.Name x p) m apos) (e :: es) [] pos) (kCall S t) := by
  obtain ⟨⟨f, fd, ps, F, hf, hb, hkp⟩, hm, rd, ga⟩ := D
  refine ⟨fun pins s σ H Q I ⟨G, M, R, E, hv, h, hR, hE⟩ => ?_⟩
  refine PySem.W.methodCall_KW (pl := pl) (ld_glob I hg hm ?_ hdb) ht
  refine PySem.W.method_cls I.kIn ga (PySem.W.cls_value I.kIn rd hf rfl ?_)
  refine PySem.W.callWith_K (first := []) (h₀ := X.base) I.ok.mod.kin hkp (thn (ha.run pos pins _ σ H (fun vs H1 => lift S vs H1 Q (WE W σ)) (I.tok _) ?_) fun us s2 ⟨vs, H2, I2, r, q2⟩ => ⟨I2.kIn, ?_⟩) hst hpl
  · exact ⟨G, M, _, E, hv, h, fun vs G1 M1 H1 hv1 q => ⟨G1, M1, R, E, hv1, q, hR, hE⟩, hE⟩
  · exact run_fnS (us := us) (vs := vs) (F.mono hl) hr hb (passAt tk σ) I2 r q2
end
end BT
namespace BT
open PySem PySem.Spec L2
open PyProof.Rows hiding St
section
variable {P : Program} {w : World} {K : PySem.W.Frag} {mg : Str → Option Value} {base : Heap} {k lev : Nat} {C f : Addr} {fd : FuncData} {ps : List Str} {S : KSp} {x m : Str}
theorem ck_mk (a : PySem.W.nsIn K mainGlobals (clsN k).1 = some (some (.ref C))) (h1 : PySem.W.plainGet K C Str.empty = true) (h2 : PySem.W.hasDictIn K C = true) (h3 : PySem.W.plainOver K C = true)
    (h4 : PySem.W.findIn K (.ref C) "__setattr__" = some (some (.builtin "object.__setattr__"))) (h5 : ∀ f ∈ (clsN k).2, PySem.W.findIn K (.ref C) f = some none) : CK K k := by
  have e := cl_of a
  exact ⟨by rw [e]; exact ⟨h1, h2, h3, h4⟩, by rw [e]; exact h5⟩
theorem keep_mk (a : PySem.W.nsIn K mainGlobals (clsN k).1 = some (some (.ref C))) (h : PySem.W.keepIn K (.ref C) = true) : PySem.W.keepIn K (.ref (cl K (clsN k).1)) = true := by
  rw [cl_of a]; exact h
theorem cd_mk (hx : (clsN k).1 = x) (a : PySem.W.nsIn K mainGlobals (clsN k).1 = some (some (.ref C))) (g : mg x = some (.ref C)) (F : FnOk P w K mg base (L2.CX P w) lev f fd ps (lift S)) (h1 : PySem.W.makesIn K C = true) (h2 : PySem.W.findIn K (.ref C) "__init__" = some (some (.ref f)))
    (h3 : PySem.W.isFn K (.ref f) = true) (h4 : PySem.W.keepIn K (.ref C) = true) (b : Binds K fd ps []) : CDef P w K mg base lev k x S := by
  have e := cl_of a
  exact ⟨⟨f, fd, ps, F, by rw [e]; exact ⟨h1, h2, h3, h4⟩, b⟩, by rw [e]; exact g⟩
theorem md_mk (a : PySem.W.nsIn K mainGlobals (clsN k).1 = some (some (.ref C))) (F : FnOk P w K mg base (L2.CX P w) lev f fd ps (lift S)) (h1 : PySem.W.findIn K (.ref C) m = some (some (.ref f))) (h2 : PySem.W.isFn K (.ref f) = true) (h3 : PySem.W.keepIn K (.ref f) = true) (b : Binds K fd ps [])
    (ck : CK K k) (no : m ∉ (clsN k).2) : MDef P w K mg base lev k m S := by
  have e := cl_of a
  exact ⟨⟨f, fd, ps, F, by rw [e]; exact ⟨h1, h2, h3⟩, b⟩, ck, no⟩
theorem fd_mk (a : PySem.W.nsIn K mainGlobals x = some (some (.ref C))) (g : mg x = some (.ref C)) (F : FnOk P w K mg base (L2.CX P w) lev f fd ps (lift S)) (h1 : PySem.W.findCls K (.ref C) (.type "type") m = some (.val (.ref f))) (b : Binds K fd ps []) (h2 : PySem.W.keepIn K (.ref f) = true)
    (h3 : PySem.W.readsIn K C (.type "type") = true) (h4 : PySem.W.specialIn K (.ref C) "__getattribute__" = some (some (.builtin "type.__getattribute__"))) : FDef P w K mg base lev x m S := by
  have e := cl_of a
  exact ⟨⟨f, fd, ps, F, by rw [e]; exact h1, b, h2⟩, by rw [e]; exact g, by rw [e]; exact h3, by rw [e]; exact h4⟩
end
end BT
set_option Elab.async false
set_option linter.all false
set_option maxRecDepth 100000
set_option maxHeartbeats 4000000
namespace BT
open PySem PySem.Spec L2
open PyProof.Rows hiding St
/-! ### dicts whose keys are ints and texts -/
section
variable {X : Cx} {W : WX} {pos : Pos} {o i e f : Expr}
def kDIn (neg : Bool) (ty td : KE) : KE := fun σ G M R E => ty σ G M (fun y G M => td σ G M (fun x G M => match x with
  | .ref a => ∃ (kvs : List (Key × V)) (k : Key), At G M a (.dK kvs) ∧ y = kV k ∧ R (.bl (if neg then !(valV kvs k).isSome else (valV kvs k).isSome)) G M
  | _ => False) E) E
theorem din_sim {ty td : KE} {σ : St} {H : Hp} {Q : VK} (h : upG W (kDIn false ty td) σ H Q) : tDIn (upG W ty) (upG W td) σ H Q := by
  obtain ⟨G, M, R, E, hv, h, hR, hE⟩ := h
  exact ⟨G, M, _, E, hv, h, fun y G1 M1 H1 hv1 q1 => ⟨G1, M1, _, E, hv1, q1, fun x G2 M2 H2 hv2 q2 => by
    match x, q2 with
    | .ref a, ⟨kvs, k, q3, q4, q5⟩ => subst q4; exact ⟨a, _, rfl, DGet.k (hv2.at q3), hR _ G2 M2 H2 hv2 q5⟩, hE⟩, hE⟩
theorem dnotin_sim {ty td : KE} {σ : St} {H : Hp} {Q : VK} (h : upG W (kDIn true ty td) σ H Q) : tDNotIn (upG W ty) (upG W td) σ H Q := by
  obtain ⟨G, M, R, E, hv, h, hR, hE⟩ := h
  exact ⟨G, M, _, E, hv, h, fun y G1 M1 H1 hv1 q1 => ⟨G1, M1, _, E, hv1, q1, fun x G2 M2 H2 hv2 q2 => by
    match x, q2 with
    | .ref a, ⟨kvs, k, q3, q4, q5⟩ => subst q4; exact ⟨a, _, rfl, DGet.k (hv2.at q3), hR _ G2 M2 H2 hv2 q5⟩, hE⟩, hE⟩
theorem je_din {ty td : KE} (hu : X.A.units + 64 < cLine) (hi : JE X W i ty) (ho : JE X W o td) (hm : behindInMarks .In o = false := by first | rfl | with_unfolding_all rfl) : JE X W (.Compare i [.In] [o] pos) (kDIn false ty td) := pe_mono (pe_cmp (pc_din (by omega) hi ho) hm) fun _ _ _ h => din_sim h
theorem jt_din {ty td : KE} (hu : X.A.units + 64 < cLine) (hi : JE X W i ty) (ho : JE X W o td) (hm : behindInMarks .In o = false := by first | rfl | with_unfolding_all rfl) : JT X W (.Compare i [.In] [o] pos) (kT (kDIn false ty td)) := pt_mono (pt_cmp (pc_din (by omega) hi ho) hm) fun _ _ _ h => din_sim (t_sim h)
theorem je_dnotin {ty td : KE} (hu : X.A.units + 64 < cLine) (hi : JE X W i ty) (ho : JE X W o td) (hm : behindInMarks .NotIn o = false := by first | rfl | with_unfolding_all rfl) : JE X W (.Compare i [.NotIn] [o] pos) (kDIn true ty td) := pe_mono (pe_cmp (pc_dnotin (by omega) hi ho) hm) fun _ _ _ h => dnotin_sim h
theorem jt_dnotin {ty td : KE} (hu : X.A.units + 64 < cLine) (hi : JE X W i ty) (ho : JE X W o td) (hm : behindInMarks .NotIn o = false := by first | rfl | with_unfolding_all rfl) : JT X W (.Compare i [.NotIn] [o] pos) (kT (kDIn true ty td)) := pt_mono (pt_cmp (pc_dnotin (by omega) hi ho) hm) fun _ _ _ h => dnotin_sim (t_sim h)
/-- d[k] -/
def kDGet : KR2 := fun x y G M R => match x with
  | .ref a => ∃ (kvs : List (Key × V)) (k : Key) (v : V), At G M a (.dK kvs) ∧ y = kV k ∧ valV kvs k = some v ∧ R v G M
  | _ => False
theorem je_dget {ta tb : KE} (hu : X.A.units + 64 < cLine) (ha : JE X W o ta) (hb : JE X W i tb) (hs : NoSl i := by exact fun _ _ => rfl) : JE X W (.Subscript o i pos) (kBin kDGet ta tb) :=
  pe_mono (pe_dget (by omega) ha hb hs) fun σ H Q ⟨G, M, R, E, hv, h, hR, hE⟩ => ⟨G, M, _, E, hv, h, fun x G1 M1 H1 hv1 q1 => ⟨G1, M1, _, E, hv1, q1, fun y G2 M2 H2 hv2 q2 => by
    match x, q2 with
    | .ref a, ⟨kvs, k, v, q3, q4, q5, q6⟩ =>
      subst q4
      refine ⟨a, v, rfl, ?_, hR _ G2 M2 H2 hv2 q6⟩
      rw [← q5]; exact DGet.k (hv2.at q3), hE⟩, hE⟩
/-- d[k] = v -/
def kDSet (td ty tv : KE) : KS := fun D σ G M => tv σ G M (fun v G M => td σ G M (fun x G M => ty σ G M (fun y G M => match x with
  | .ref a => ∃ (n : Nat) (kvs : List (Key × V)) (k : Key), M[n]? = some (a, .dK kvs) ∧ y = kV k ∧ kvs.length < sizeLine ∧ D.nx σ G (M.set n (a, .dK (putK kvs k v)))
  | _ => False) (D.x σ)) (D.x σ)) (D.x σ)
theorem js_dset {td ty tv : KE} {value : Expr} {pos' : Pos} (hu : X.A.units + 64 < cLine) (ho : JE X W o td) (hi : JE X W i ty) (hv : JE X W value tv) (hs : swapsWith value (some (.Subscript o i pos')) pos.line X.env = pure false := by rfl) :
    JS X W (.Assign [.Subscript o i pos'] value pos) (kDSet td ty tv) := ps_mono (ps_dput (by omega) ho hi hv hs) fun D σ H ⟨G, M, d, hv, h, en⟩ =>
  ⟨G, M, _, _, hv, h, fun v G1 M1 H1 hv1 q => ⟨G1, M1, _, _, hv1, q, fun x G2 M2 H2 hv2 q2 => ⟨G2, M2, _, _, hv2, q2, fun y G3 M3 H3 hv3 q3 => by
    match x, q3 with
    | .ref a, ⟨n, kvs, k, q4, q5, q6, q7⟩ => subst q5; exact ⟨a, _, rfl, DPut.k (hv3.get q4) q6, en.nx _ G3 _ _ (hv3.set q4) q7⟩, fun c a G' M' H' hv' q => en.xc c a σ G' M' H' hv' q⟩, fun c a G' M' H' hv' q => en.xc c a σ G' M' H' hv' q⟩, fun c a G' M' H' hv' q => en.xc c a σ G' M' H' hv' q⟩
/-- d.get(k, x), d.get(k) -/
def kDGet2 (td ty tx : KE) : KE := fun σ G M R E => td σ G M (fun x G M => match x with
  | .ref a => (∃ kvs, At G M a (.dK kvs)) ∧ ty σ G M (fun y G M => tx σ G M (fun z G M => ∃ (kvs : List (Key × V)) (k : Key), At G M a (.dK kvs) ∧ y = kV k ∧ R ((valV kvs k).getD z) G M) E) E
  | _ => False) E
theorem je_dget2 {td ty tx : KE} {apos cpos : Pos} (hu : X.A.units + 64 < cLine) (ho : JE X W o td) (he : JE X W e ty) (hf : JE X W f tx) (m : M2 X o "get" apos e f cpos := by exact ⟨rfl, rfl, rfl, rfl⟩) : JE X W (.Call (.Attribute o "get" apos) [e, f] [] cpos) (kDGet2 td ty tx) :=
  pe_mono (pe_dget2 (by omega) ho he hf m) fun σ H Q ⟨G, M, R, E, hv, h, hR, hE⟩ => ⟨G, M, _, E, hv, h, fun x G1 M1 H1 hv1 q1 => by
    match x, q1 with
    | .ref a, ⟨⟨kvs, q2⟩, q3⟩ => exact ⟨a, rfl, .inl ⟨kvs, .inl (hv1.at q2)⟩, G1, M1, _, E, hv1, q3, fun y G2 M2 H2 hv2 q4 => ⟨G2, M2, _, E, hv2, q4, fun z G3 M3 H3 hv3 q5 => by
        obtain ⟨kvs, k, q6, q7, q8⟩ := q5
        subst q7
        exact ⟨_, DGet.k (hv3.at q6), hR _ G3 M3 H3 hv3 q8⟩, hE⟩, hE⟩, hE⟩
def kDGet1 (td ty : KE) : KE := fun σ G M R E => td σ G M (fun x G M => match x with
  | .ref a => (∃ kvs, At G M a (.dK kvs)) ∧ ty σ G M (fun y G M => ∃ (kvs : List (Key × V)) (k : Key), At G M a (.dK kvs) ∧ y = kV k ∧ R ((valV kvs k).getD .non) G M) E
  | _ => False) E
theorem je_dget1 {td ty : KE} {apos cpos : Pos} (hu : X.A.units + 64 < cLine) (ho : JE X W o td) (he : JE X W e ty) (m : M1 X o "get" apos e cpos := by exact ⟨rfl, rfl, rfl, rfl⟩) : JE X W (.Call (.Attribute o "get" apos) [e] [] cpos) (kDGet1 td ty) :=
  pe_mono (pe_dget1 (by omega) ho he m) fun σ H Q ⟨G, M, R, E, hv, h, hR, hE⟩ => ⟨G, M, _, E, hv, h, fun x G1 M1 H1 hv1 q1 => by
    match x, q1 with
    | .ref a, ⟨⟨kvs, q2⟩, q3⟩ => exact ⟨a, rfl, .inl ⟨kvs, .inl (hv1.at q2)⟩, G1, M1, _, E, hv1, q3, fun y G2 M2 H2 hv2 q5 => by
        obtain ⟨kvs, k, q6, q7, q8⟩ := q5
        subst q7
        exact ⟨_, DGet.k (hv2.at q6), hR _ G2 M2 H2 hv2 q8⟩, hE⟩, hE⟩
/-- d.pop(k, x), d.pop(k) -/
def kDPop2 (td ty tx : KE) : KE := fun σ G M R E => td σ G M (fun x G M => match x with
  | .ref a => (∃ kvs, At G M a (.dK kvs)) ∧ ty σ G M (fun y G M => tx σ G M (fun z G M => ∃ (n : Nat) (kvs : List (Key × V)) (k : Key), M[n]? = some (a, .dK kvs) ∧ y = kV k ∧ (∀ v, valV kvs k = some v → R v G (M.set n (a, .dK (dropK kvs k)))) ∧ (valV kvs k = none → R z G M)) E) E
  | _ => False) E
theorem je_dpop2 {td ty tx : KE} {apos cpos : Pos} (ho : JE X W o td) (he : JE X W e ty) (hf : JE X W f tx) (m : M2 X o "pop" apos e f cpos := by exact ⟨rfl, rfl, rfl, rfl⟩) : JE X W (.Call (.Attribute o "pop" apos) [e, f] [] cpos) (kDPop2 td ty tx) :=
  pe_mono (pe_dpop2 ho he hf m) fun σ H Q ⟨G, M, R, E, hv, h, hR, hE⟩ => ⟨G, M, _, E, hv, h, fun x G1 M1 H1 hv1 q1 => by
    match x, q1 with
    | .ref a, ⟨⟨kvs, q2⟩, q3⟩ => exact ⟨a, rfl, .inl ⟨kvs, .inl (hv1.at q2)⟩, G1, M1, _, E, hv1, q3, fun y G2 M2 H2 hv2 q4 => ⟨G2, M2, _, E, hv2, q4, fun z G3 M3 H3 hv3 q5 => by
        obtain ⟨n, kvs, k, q6, q7, q8, q9⟩ := q5
        exact ⟨kvs, k, hv3.get q6, q7, fun v hv => hR _ G3 _ _ (hv3.set q6) (q8 v hv), fun hv => hR _ G3 M3 H3 hv3 (q9 hv)⟩, hE⟩, hE⟩, hE⟩
def kDPop1 (td ty : KE) : KE := fun σ G M R E => td σ G M (fun x G M => match x with
  | .ref a => (∃ kvs, At G M a (.dK kvs)) ∧ ty σ G M (fun y G M => ∃ (n : Nat) (kvs : List (Key × V)) (k : Key) (v : V), M[n]? = some (a, .dK kvs) ∧ y = kV k ∧ valV kvs k = some v ∧ R v G (M.set n (a, .dK (dropK kvs k)))) E
  | _ => False) E
theorem je_dpop1 {td ty : KE} {apos cpos : Pos} (ho : JE X W o td) (he : JE X W e ty) (m : M1 X o "pop" apos e cpos := by exact ⟨rfl, rfl, rfl, rfl⟩) : JE X W (.Call (.Attribute o "pop" apos) [e] [] cpos) (kDPop1 td ty) :=
  pe_mono (pe_dpop1 ho he m) fun σ H Q ⟨G, M, R, E, hv, h, hR, hE⟩ => ⟨G, M, _, E, hv, h, fun x G1 M1 H1 hv1 q1 => by
    match x, q1 with
    | .ref a, ⟨⟨kvs, q2⟩, q3⟩ => exact ⟨a, rfl, .inl ⟨kvs, .inl (hv1.at q2)⟩, G1, M1, _, E, hv1, q3, fun y G2 M2 H2 hv2 q5 => by
        obtain ⟨n, kvs, k, v, q6, q7, q8, q9⟩ := q5
        exact ⟨kvs, k, v, hv2.get q6, q7, q8, hR _ G2 _ _ (hv2.set q6) q9⟩, hE⟩, hE⟩
/-- d.setdefault(k, x) -/
def kDSetd (td ty tx : KE) : KE := fun σ G M R E => td σ G M (fun x G M => match x with
  | .ref a => (∃ kvs, At G M a (.dK kvs)) ∧ ty σ G M (fun y G M => tx σ G M (fun z G M => ∃ (n : Nat) (kvs : List (Key × V)) (k : Key), M[n]? = some (a, .dK kvs) ∧ y = kV k ∧ kvs.length < sizeLine ∧ (∀ v, valV kvs k = some v → R v G M) ∧ (valV kvs k = none → R z G (M.set n (a, .dK (putK kvs k z))))) E) E
  | _ => False) E
theorem je_dsetd {td ty tx : KE} {apos cpos : Pos} (ho : JE X W o td) (he : JE X W e ty) (hf : JE X W f tx) (m : M2 X o "setdefault" apos e f cpos := by exact ⟨rfl, rfl, rfl, rfl⟩) : JE X W (.Call (.Attribute o "setdefault" apos) [e, f] [] cpos) (kDSetd td ty tx) :=
  pe_mono (pe_dsetd ho he hf m) fun σ H Q ⟨G, M, R, E, hv, h, hR, hE⟩ => ⟨G, M, _, E, hv, h, fun x G1 M1 H1 hv1 q1 => by
    match x, q1 with
    | .ref a, ⟨⟨kvs, q2⟩, q3⟩ => exact ⟨a, rfl, .inl ⟨kvs, .inl (hv1.at q2)⟩, G1, M1, _, E, hv1, q3, fun y G2 M2 H2 hv2 q4 => ⟨G2, M2, _, E, hv2, q4, fun z G3 M3 H3 hv3 q5 => by
        obtain ⟨n, kvs, k, q6, q7, q8, q9, q10⟩ := q5
        exact ⟨kvs, k, hv3.get q6, q7, q8, fun v hv => hR _ G3 M3 H3 hv3 (q9 v hv), fun hv => hR _ G3 _ _ (hv3.set q6) (q10 hv)⟩, hE⟩, hE⟩, hE⟩
/-- sorted(d), list(d), len(d) -/
def kSortedD : KC := fun vs G M R => match vs with
  | [.ref a] => ∃ (kvs : List (Key × V)) (ks : List Int), At G M a (.dK kvs) ∧ kvs.map (·.1) = ks.map Sum.inl ∧ ks.length < 64 ∧ ∀ (ys : List Int) (p : Addr), ys.Perm ks → ys.Pairwise (· ≤ ·) → Fr G M p → R (.ref p) G ((p, .lst (ys.map V.int)) :: M)
  | _ => False
theorem kc_sortedD (hc : X.calm = true := by rfl) : KCall X (.builtin "sorted") kSortedD := kcall_of (call_sortedDI hc) fun vs G M R H Q hv h hR => by
  match vs, h with
  | [.ref a], ⟨kvs, ks, h1, h2, h3, h4⟩ => exact ⟨a, kvs, ks, rfl, .inl (hv.at h1), h2, h3, fun ys p q1 q2 q3 => hR _ G _ _ (hv.newM q3) (h4 ys p q1 q2 (hv.fr q3))⟩
def kListD : KC := fun vs G M R => match vs with
  | [.ref a] => ∃ kvs : List (Key × V), At G M a (.dK kvs) ∧ ∀ p, Fr G M p → R (.ref p) G ((p, .lst (kvs.map fun kv => kV kv.1)) :: M)
  | _ => False
theorem kc_listD (hc : X.calm = true := by rfl) : KCall X (.type "list") kListD := kcall_of (call_listD hc) fun vs G M R H Q hv h hR => by
  match vs, h with
  | [.ref a], ⟨kvs, h1, h2⟩ => exact ⟨a, kvs, rfl, .inl (hv.at h1), fun p q3 => hR _ G _ _ (hv.newM q3) (h2 p (hv.fr q3))⟩
def kLenD : KC := fun vs G M R => match vs with
  | [.ref a] => ∃ kvs : List (Key × V), At G M a (.dK kvs) ∧ R (.int kvs.length) G M
  | _ => False
theorem kc_lenD : KCall X (.builtin "len") kLenD := kcall_of call_lenD fun vs G M R H Q hv h hR => by
  match vs, h with
  | [.ref a], ⟨kvs, h1, h2⟩ => exact ⟨a, kvs, rfl, hv.at h1, hR _ G M H hv h2⟩
/-- x, y = a, b, two local names -/
def kPar (i j : Nat) (t : KA) : KS := fun D σ G M => t σ G M (fun vs G M => match vs with
  | [v, w] => D.nx ((σ.set i (some v)).set j (some w)) G M
  | _ => False) (D.x σ)
theorem js_par {i j : Nat} {x y : Str} {a b : Expr} {ta : KA} {px py pt : Pos} {kt k2 pt2} (hN : X.N.Nodup) (ha : JA X W [a, b] ta) (hc : X.calm = true := by rfl) (hi : X.N[i]? = some x := by rfl) (hj : X.N[j]? = some y := by rfl) (hij : i ≠ j := by decide)
    (hx : X.env.scope.names.lookup x = some .local := by rfl) (hy : X.env.scope.names.lookup y = some .local := by rfl)
    (hw : swappedStores [.Tuple [.Name x px, .Name y py] kt pt] (.Tuple [a, b] k2 pt2) X.env = pure (some [x, y]) := by rfl)
    (hs : swapsWithSole [.Tuple [.Name x px, .Name y py] kt pt] (.Tuple [a, b] k2 pt2) pos.line X.env = pure false := by rfl) :
    JS X W (.Assign [.Tuple [.Name x px, .Name y py] kt pt] (.Tuple [a, b] k2 pt2) pos) (kPar i j ta) :=
  ps_mono (ps_par hc hN hi hj hij hx hy ha hw hs) fun D σ H ⟨G, M, d, hv, h, en⟩ => ⟨G, M, _, _, hv, h, fun vs G1 M1 H1 hv1 q => by
    match vs, q with
    | [v, w], q => exact ⟨v, w, rfl, en.nx _ G1 M1 H1 hv1 q⟩, fun c a G' M' H' hv' q => en.xc c a σ G' M' H' hv' q⟩
end
end BT
set_option Elab.async false
set_option linter.all false
set_option maxRecDepth 100000
set_option maxHeartbeats 4000000
namespace BT
open PySem PySem.Spec L2
open PyProof.Rows hiding St
/-! ### slices and sums of tuples, unpacked lists -/
section
variable {X : Cx} {W : WX} {pos : Pos} {o i e f : Expr}
/-- a tuple's slice; the whole of it is the tuple itself -/
def cutT (K : PySem.W.Frag) (x : V) (lo hi : Option Int) (G : Hp) (M : Mem) (R : KR) : Prop := match x with
  | .ref a => ∃ xs, SqT K G a xs ∧ (HT.sIx xs.length 0 lo = 0 ∧ HT.sIx xs.length xs.length hi = xs.length → R (.ref a) G M) ∧ (¬ (HT.sIx xs.length 0 lo = 0 ∧ HT.sIx xs.length xs.length hi = xs.length) → ∀ p, Fr G M p → R (.ref p) (upd G p (.tup (cutV xs lo hi))) M)
  | _ => False
def kSlT (K : PySem.W.Frag) (t : KE) (tl th : KO) : KE := fun σ G M R E => t σ G M (fun x G M => tl σ G M (fun l G M => th σ G M (fun u G M => cutT K x l u G M R) E) E) E
theorem je_slT {t : KE} {lo hi : Option Expr} {tl th : KO} {p2 : Pos} (he : JE X W e t) (hl : JO X W lo tl) (hu : JO X W hi th) : JE X W (.Subscript e (.Slice lo hi none p2) pos) (kSlT X.K t tl th) :=
  pe_mono (pe_slice sl_tupA he hl hu) fun σ H Q ⟨G, M, R, E, hv, h, hR, hE⟩ => ⟨G, M, _, E, hv, h, fun x G1 M1 H1 hv1 h1 => ⟨G1, M1, _, E, hv1, h1, fun l G2 M2 H2 hv2 h2 => ⟨G2, M2, _, E, hv2, h2, fun u G3 M3 H3 hv3 h3 => by
    match x, h3 with
    | .ref a, ⟨xs, q1, q2, q3⟩ => exact ⟨_, xs, rfl, hv3.tup q1, fun z => hR _ G3 M3 H3 hv3 (q2 z), fun z p hp => hR _ _ _ _ (hv3.newG hp) (q3 z p (hv3.fr hp))⟩, hE⟩, hE⟩, hE⟩
/-- (a, b, ..) = a list of that length -/
def kgUnl (K : PySem.W.Frag) (n : Nat) (g : KGs) : KG := ⟨fun v σ G M R => match v with
    | .ref a => ∃ xs, LstAt K G M a xs ∧ onLen n g xs σ G M R
    | _ => False, fun _ _ _ _ _ => False⟩
theorem jg_unl {K : PySem.W.Frag} {ts : List Expr} {g : KGs} {gs : TGs} {n k : Nat} (hc : X.calm = true) (h : JGs X ts g gs) (hK : X.K = K := by rfl) (hn : (assignEach ts X.env).length = n := by rfl) (hst : (assignEach ts X.env).findIdx? (·.1) = none := by rfl) :
    JG X (.Tuple ts k pos) (kgUnl K n g) (gUnl K n gs) := by
  subst hK
  exact ⟨pg_unl hc h.pgs hn hst, fun v σ G M R H Q hv q hR => by
    match v, q with
    | .ref a, ⟨xs, q1, q2⟩ =>
      obtain ⟨e, q3⟩ := onLen_of q2
      exact ⟨a, xs, rfl, hv.lst q1, e, h.sim xs σ G M R H Q hv q3 hR⟩,
   fun T vs σ G M R H Q hv hT q hR => q.elim⟩
/-- the sum of two tuples -/
def kCat (K : PySem.W.Frag) : KR2 := fun x y G M R => match x, y with
  | .ref a, .ref b => ∃ xs ys, SqT K G a xs ∧ SqT K G b ys ∧ xs.length + ys.length ≤ sizeLine ∧ (xs = [] → R (.ref b) G M) ∧ (xs ≠ [] → ys = [] → R (.ref a) G M) ∧ (xs ≠ [] → ys ≠ [] → ∀ p, Fr G M p → R (.ref p) (upd G p (.tup (xs ++ ys))) M)
  | _, _ => False
theorem kop_cat : KOp X (binaryOp .Add) (kCat X.K) := kop_of op_catA fun x y G M R H Q hv h hR => by
  match x, y, h with
  | .ref a, .ref b, ⟨xs, ys, h1, h2, h3, h4, h5, h6⟩ => exact ⟨a, b, xs, ys, rfl, rfl, hv.tup h1, hv.tup h2, h3, fun z => hR _ G M H hv (h4 z), fun z w => hR _ G M H hv (h5 z w), fun z w p hp => hR _ _ _ _ (hv.newG hp) (h6 z w p (hv.fr hp))⟩
end
end BT
set_option Elab.async false
set_option linter.all false
set_option maxRecDepth 100000
set_option maxHeartbeats 4000000
namespace BT
open PySem PySem.Spec L2
open PyProof.Rows hiding St
/-! ### isinstance(err, (C, D, ..)); except C without a name -/
def orTab (a b : List (Str × Bool)) : List (Str × Bool) := a.zipWith (fun p q => (p.1, p.2 || q.2)) b
theorem orTab_mem : ∀ {a b : List (Str × Bool)}, a.map (·.1) = b.map (·.1) → ∀ p, p ∈ orTab a b → ∃ x y, (p.1, x) ∈ a ∧ (p.1, y) ∈ b ∧ p.2 = (x || y)
  | [], _, _, p, h => by simp [orTab] at h
  | _ :: _, [], _, p, h => by simp [orTab] at h
  | u :: a, v :: b, e, p, h => by
    have e1 : u.1 = v.1 := by simpa using (List.cons.inj e).1
    rcases List.mem_cons.mp (show p ∈ (u.1, u.2 || v.2) :: orTab a b from h) with rfl | h
    · exact ⟨u.2, v.2, List.mem_cons_self, by rw [e1]; exact List.mem_cons_self, rfl⟩
    · obtain ⟨x, y, h1, h2, h3⟩ := orTab_mem (List.cons.inj e).2 p h
      exact ⟨x, y, List.mem_cons_of_mem _ h1, List.mem_cons_of_mem _ h2, h3⟩
structure IsT (K : PySem.W.Frag) (cs : List V) (us : List Value) (tab : List (Str × Bool)) : Prop where
  p : Paired ClsV cs us
  n : PySem.W.kitAny K (.type "NoneType") us = some false
  t : ∀ p ∈ tab, ExcC K (cl K p.1) ∧ PySem.W.kitAny K (.ref (cl K p.1)) us = some p.2
theorem IsT.cons {K : PySem.W.Frag} {c : V} {u : Value} {cs : List V} {us : List Value} {tab tab1 : List (Str × Bool)} (hc : ClsV c u) (hn : PySem.W.kitOne K (.type "NoneType") u = some false)
    (ht : ∀ p ∈ tab1, ExcC K (cl K p.1) ∧ PySem.W.kitOne K (.ref (cl K p.1)) u = some p.2) (h : IsT K cs us tab) (e : tab1.map (·.1) = tab.map (·.1) := by rfl) : IsT K (c :: cs) (u :: us) (orTab tab1 tab) :=
  ⟨.cons hc h.p, kitAny_cons hn (fun _ => h.n) (fun z => nomatch z), fun p hp => by
    obtain ⟨x, y, h1, h2, h3⟩ := orTab_mem e p hp
    obtain ⟨q1, q2⟩ := ht _ h1
    refine ⟨q1, kitAny_cons q2 (fun z => ?_) (fun z => ?_)⟩
    · rw [h3, show x = false from z]
      exact (h.t _ h2).2
    · rw [h3, show x = true from z]; rfl⟩
theorem IsT.one {K : PySem.W.Frag} {c : V} {u : Value} {tab1 : List (Str × Bool)} (hc : ClsV c u) (hn : PySem.W.kitOne K (.type "NoneType") u = some false)
    (ht : ∀ p ∈ tab1, ExcC K (cl K p.1) ∧ PySem.W.kitOne K (.ref (cl K p.1)) u = some p.2) : IsT K [c] [u] tab1 :=
  ⟨.cons hc .nil, kitAny_cons hn (fun _ => rfl) (fun z => nomatch z), fun p hp => by
    obtain ⟨q1, q2⟩ := ht p hp
    exact ⟨q1, kitAny_cons q2 (fun z => by rw [z]; rfl) (fun z => z)⟩⟩
section
variable {X : Cx} {W : WX} {pos : Pos}
def kIsXT (K : PySem.W.Frag) (cs : List V) (tab : List (Str × Bool)) : KC := fun vs G M R => match vs with
  | [.non, .ref t] => G t = some (.tup cs) ∧ R (.bl false) G M
  | [.ref a, .ref t] => G t = some (.tup cs) ∧ ∃ p ∈ tab, At G M a (ErA K p.1 none a) ∧ R (.bl p.2) G M
  | _ => False
theorem kc_isXT {tab : List (Str × Bool)} {cs : List V} {us : List Value} (T : IsT X.K cs us tab) : KCall X (.builtin "isinstance") (kIsXT X.K cs tab) := by
  intro pins s σ H xs ws Q I r h
  obtain ⟨G, M, R, hv, h, hR⟩ := h
  match xs, h with
  | [.non, .ref t], h2 =>
    obtain ⟨ht, h3⟩ := h2
    exact (call_isiT (X := X)) pins s σ H [.non, .ref t] _ Q I r ⟨_, t, cs, .type "NoneType", us, false, rfl, hv.ex _ _ ht, T.p, .base .non, T.n, hR _ _ _ _ hv h3⟩
  | [.ref a, .ref t], h2 =>
    obtain ⟨ht, p, hp, ha, h3⟩ := h2
    obtain ⟨C, e⟩ := T.t p hp
    obtain ⟨u1, u2, rfl, r1, r2⟩ := vals2 r
    cases (show u2 = Value.ref t from r2)
    cases (show u1 = Value.ref a from r1)
    have hH : H a = some (ErA X.K p.1 none a) := hv.at ha
    obtain ⟨⟨oe, vs, hget, hz, hd⟩, _, _⟩ := I.hok a _ hH
    have J : PySem.W.InstAt s.heap a oe (cl X.K p.1) none := by
      obtain ⟨oc, od, oda, osl⟩ := oe
      obtain ⟨h1, h2⟩ := hz
      dsimp only at h1 h2 hd
      subst h1 h2 hd
      exact ⟨hget, rfl, rfl, trivial⟩
    obtain ⟨_, its, rv, o, h1, h2, n, h3'⟩ := (show ObjOk X.prog X.w H s.heap t (.tup cs) from I.hok t _ (hv.ex _ _ ht))
    have e3 := ClsV.all T.p rv
    subst e3
    obtain ⟨oc, od, dt, sl⟩ := o
    simp only at h2 h3'
    subst h2 h3'
    exact PySem.W.kia_tup (PySem.W.handS_kitx_exc C.hg C.hk C.hs C.hd C.ha C.hn C.ht C.hm) I.kIn J h1 e (fun z => nomatch z) fun tk => ⟨.bl p.2, H, I.kept (t' := tk) fun _ _ z => z, rfl, hR _ _ _ _ hv h3⟩
/-- try: t, except C: u -/
def kTryO (K : PySem.W.Frag) (tab : List (Str × Bool)) (t u : KS) : KS := fun D σ G M => t { D with xc := fun c d σ' G' M' => ∃ p ∈ tab, c = .ref (cl K p.1) ∧
  (if p.2 = true then u { D with xc := fun _ _ _ _ _ => False } σ' G' M' else D.xc c d σ' G' M') } σ G M
theorem js_tryO {K : PySem.W.Frag} {x : Str} {tab : List (Str × Bool)} {body suite : List Stmt} {b0 : Stmt} {t u : KS} {np pos' : Pos} (g : XG X.K X.mg x) (ht : ∀ p ∈ tab, PySem.W.exmOne X.K (.ref (cl X.K p.1)) (.ref (cl X.K x)) = some p.2) (tk : Takes X W)
    (hb : ∀ (W : WX) (pn : List (Addr × Obj)) (xe : Value → Shared → Prop), Takes (X.tr pn xe) W → PassesOwn (model X.prog X.w) X.A X.env xe → JSs (X.tr pn xe) W body t)
    (hsu : ∀ (a : Addr) (oe : Obj) (pn : List (Addr × Obj)), JSs (X.suite a ((a, oe) :: pn)) W0 (b0 :: suite) u)
    (hK : X.K = K := by rfl) (hs : X.stack = X.env :: X.outer := by rfl) (hf : X.env.frame = some X.env.locals := by rfl) (hg : Gl X x := by rfl) (hxd : (x == ("__debug__" : Str)) = false := by decide) :
    JS X W (.Try body [.ExceptHandler (some (.Name x np)) none (b0 :: suite) pos'] [] [] pos) (kTryO K tab t u) := by
  subst hK
  refine ps_mono (ps_try_only (c := .ref (cl X.K x)) (tb := fun W => upS W t) (ts := fun _ _ _ => upS W0 u) hs hf ⟨hg, hxd, .inl g.g⟩ tk hb (fun a oe cls d pn _ _ => hsu a oe pn)) fun D σ H ⟨G, M, d, hv, h, en⟩ => ?_
  refine ⟨G, M, _, hv, h, ⟨en.nx, en.rt, en.bk, en.ct, fun c e σ' G' M' H' hv' q => ?_⟩⟩
  obtain ⟨p, hp, rfl, q⟩ := q
  refine ⟨p.2, ht p hp, fun hb a na => ?_, fun hb => ?_⟩
  · rw [if_pos hb] at q
    exact ⟨G', M', _, hv', q, ⟨en.nx, en.rt, en.bk, en.ct, fun _ _ _ _ _ _ _ z => z.elim⟩⟩
  · rw [if_neg (by rw [hb]; exact Bool.false_ne_true)] at q
    exact en.xc _ _ _ _ _ _ hv' q
end
end BT
namespace PySem.SeqAt
open AutoSeq1 (wpAny_loadPart')
open MeetsSeq
theorem bt_str_eq_declines (b : Str) (u : Tok) (l : Addr) (c : Value) (es : _) (ep : _) (dd : Option Addr) (sl : Array (Option Value)) :
    Meets (Builtin.«str.__eq__» ⟨[.str b u, .ref l], []⟩) (fun _ R s => s.heap.get? l = some ⟨c, dd, .dict es ep, sl⟩ ∧ R (.ok (.ret .notImplemented)) s) :=
  .of_wp fun prog w A R s h => by obtain ⟨hp, g, d, tk, os⟩ := s; obtain ⟨hl, h⟩ := h; wp_walk using wpAny_loadPart' hl, wpAny_load hl; exact ⟨_, rfl, h⟩
theorem bt_dict_eq_declines (l : Addr) (es : _) (ep : _) (dd : Option Addr) (sl : Array (Option Value)) (b : Str) (u : Tok) :
    Meets (Builtin.«dict.__eq__» ⟨[.ref l, .str b u], []⟩) (fun _ R s => s.heap.get? l = some ⟨.type "dict", dd, .dict es ep, sl⟩ ∧ R (.ok (.ret .notImplemented)) s) :=
  .of_wp fun prog w A R s h => by obtain ⟨hp, g, d, tk, os⟩ := s; obtain ⟨hl, h⟩ := h; have f1 := F.sub_str_dict; wp_walk using wpAny_loadPart' hl, wpAny_load hl; exact ⟨_, rfl, h⟩
theorem bt_dict_str {A : Around} {s : Shared} {l : Addr} {o : Obj} {es : _} {ep : _} (b : Str) (u : Tok) (ho : s.heap.get? l = some o) (hx : o.ExactDict) (hd : o.data = .dict es ep) (hu : A.units < cLine) : RcAt A s (.ref l) (.str b u) false := fun prog w E Q h => by
  obtain ⟨cls, dd, data, sl⟩ := o
  obtain ⟨hc, h2, h3⟩ := hx
  simp only at hc hd
  subst hc hd
  exact rc_eq_decline_or (k := false) ⟨_, ho, rfl⟩ (typeIs_str s b u) (by decide) F.sub_str_dict F.slot_dict_eq F.slot_str_eq_refl
    (fun _ hq => call_meets F.slot_dict_eq ⟨_, ho, rfl⟩ F.entry_dict_eq (F.args_dict_eq_2 _ _) (bt_dict_eq_declines l es ep dd sl b u) ⟨ho, hq⟩)
    (fun _ hq => call_meets F.slot_str_eq_refl (typeIs_str s b u) F.entry_str_eq (F.args_str_eq_2 _ _) (bt_str_eq_declines b u l (.type "dict") es ep dd sl) ⟨ho, hq⟩)
    (fun _ hq => wpAny_of_eq (rfl : isSame (.ref l) (.str b u) = pure false) hq) (.inr hu) h
end PySem.SeqAt
namespace BT
open PySem PySem.Spec L2
open PyProof.Rows hiding St
/-- == of what may be a dict, and a text -/
def kEqD (K : PySem.W.Frag) : KR2 := fun x y G M R => kEqv false K x y G M R ∨ ∃ (a : Addr) (s : Str) (kvs : List (Key × V)), x = .ref a ∧ y = .str s ∧ At G M a (.dK kvs) ∧ R (.bl false) G M
theorem kop_eqD {X : Cx} (hu : X.A.units + 64 < cLine) : KOp X (compareOp .Eq) (kEqD X.K) := fun pins s σ H x y v u Q G M R I rx ry hv h hR => by
  rcases h with h | ⟨a, t, kvs, rfl, rfl, ha, h⟩
  · exact kop_eq hu pins s σ H x y v u Q G M R I rx ry hv h hR
  · cases (show v = Value.ref a from rx)
    obtain ⟨tk, e⟩ := (show ∃ t', u = Value.str t t' from ry)
    subst e
    obtain ⟨_, _, vs, _, o, es, ep, h1, h2, h3, _⟩ := (show ObjOk X.prog X.w H s.heap a (.dK kvs) from I.hok a _ (hv.at ha))
    exact SeqAt.bt_dict_str t tk h1 h2 h3 (by omega) _ _ _ _ ⟨.bl false, H, I, rfl, hR _ G M H hv h⟩
end BT
set_option Elab.async false
set_option linter.all false
set_option maxRecDepth 100000
set_option maxHeartbeats 4000000
namespace BT
open PySem PySem.Spec L2
open PyProof.Rows hiding St
/-! ### written data: what a display of constants lays -/
inductive XD where
  | non
  | bl (b : Bool)
  | int (i : Int)
  | str (s : Str)
  | list (l : List XD)
  | tup (l : List XD)
  | dict
mutual
inductive Rp (K : PySem.W.Frag) (G : Hp) (Mx : Mem) : V → XD → Prop where
  | non : Rp K G Mx .non .non
  | bl (b : Bool) : Rp K G Mx (.bl b) (.bl b)
  | int (i : Int) : Rp K G Mx (.int i) (.int i)
  | str (s : Str) : Rp K G Mx (.str s) (.str s)
  | list {a : Addr} {vs : List V} {ds : List XD} : ((a, HO.lst vs) ∈ Mx ∨ G a = some (.lst vs)) → RpA K G Mx vs ds → Rp K G Mx (.ref a) (.list ds)
  | tup {a : Addr} {vs : List V} {ds : List XD} : SqT K G a vs → RpA K G Mx vs ds → Rp K G Mx (.ref a) (.tup ds)
  | dict {a : Addr} : ((a, HO.dK []) ∈ Mx ∨ G a = some (.dK [])) → Rp K G Mx (.ref a) .dict
inductive RpA (K : PySem.W.Frag) (G : Hp) (Mx : Mem) : List V → List XD → Prop where
  | nil : RpA K G Mx [] []
  | cons {v : V} {d : XD} {vs : List V} {ds : List XD} : Rp K G Mx v d → RpA K G Mx vs ds → RpA K G Mx (v :: vs) (d :: ds)
end
section
variable {K : PySem.W.Frag} {G G' : Hp} {Mx My M : Mem}
mutual
theorem Rp.mono (f : ∀ a o, ((a, o) ∈ Mx ∨ G a = some o) → ((a, o) ∈ My ∨ G' a = some o)) (e : Ex G G') : ∀ {v : V} {d : XD}, Rp K G Mx v d → Rp K G' My v d
  | _, _, .non => .non
  | _, _, .bl b => .bl b
  | _, _, .int b => .int b
  | _, _, .str b => .str b
  | _, _, .list h hs => .list (f _ _ h) (RpA.mono f e hs)
  | _, _, .tup h hs => .tup (ex_t e h) (RpA.mono f e hs)
  | _, _, .dict h => .dict (f _ _ h)
theorem RpA.mono (f : ∀ a o, ((a, o) ∈ Mx ∨ G a = some o) → ((a, o) ∈ My ∨ G' a = some o)) (e : Ex G G') : ∀ {vs : List V} {ds : List XD}, RpA K G Mx vs ds → RpA K G' My vs ds
  | _, _, .nil => .nil
  | _, _, .cons h hs => .cons (Rp.mono f e h) (RpA.mono f e hs)
end
theorem Rp.up {v : V} {d : XD} (e : Ex G G') (s : ∀ x, x ∈ Mx → x ∈ My) (h : Rp K G Mx v d) : Rp K G' My v d := h.mono (fun a o q => q.elim (fun z => .inl (s _ z)) (fun z => .inr (e _ _ z))) e
theorem RpA.up {v : List V} {d : List XD} (e : Ex G G') (s : ∀ x, x ∈ Mx → x ∈ My) (h : RpA K G Mx v d) : RpA K G' My v d := h.mono (fun a o q => q.elim (fun z => .inl (s _ z)) (fun z => .inr (e _ _ z))) e
theorem Rp.ex {v : V} {d : XD} (e : Ex G G') (h : Rp K G Mx v d) : Rp K G' Mx v d := h.up e fun _ z => z
theorem RpA.ex {v : List V} {d : List XD} (e : Ex G G') (h : RpA K G Mx v d) : RpA K G' Mx v d := h.up e fun _ z => z
theorem RpA.len : ∀ {vs : List V} {ds : List XD}, RpA K G Mx vs ds → vs.length = ds.length
  | _, _, .nil => rfl
  | _, _, .cons _ hs => by rw [List.length_cons, List.length_cons, hs.len]
theorem RpA.app : ∀ {vs ws : List V} {ds es : List XD}, RpA K G Mx vs ds → RpA K G Mx ws es → RpA K G Mx (vs ++ ws) (ds ++ es)
  | _, _, _, _, .nil, h => h
  | _, _, _, _, .cons a b, h => .cons a (b.app h)
theorem RpA.get : ∀ {vs : List V} {ds : List XD} {i : Nat}, RpA K G Mx vs ds → i < vs.length → ∃ v d, vs[i]? = some v ∧ ds[i]? = some d ∧ Rp K G Mx v d
  | _, _, _, .nil, h => by simp at h
  | _, _, 0, .cons a _, _ => ⟨_, _, rfl, rfl, a⟩
  | _, _, i + 1, .cons _ b, h => by
    obtain ⟨v, d, h1, h2, h3⟩ := RpA.get (i := i) b (by simpa using h)
    exact ⟨v, d, by simpa using h1, by simpa using h2, h3⟩
/-- cells of its own -/
def NewC (G : Hp) (Mx : Mem) : Prop := (∀ x, x ∈ Mx → G x.1 = none) ∧ (Mx.map (·.1)).Nodup
theorem NewC.nil : NewC G [] := ⟨fun _ z => (nomatch z), List.nodup_nil⟩
def frzA (G : Hp) (Mx : Mem) : Hp := Mx.foldr (fun x g => upd g x.1 x.2) G
theorem frzA_wk : ∀ (Mx : Mem) (G : Hp) (M : Mem), Wk G (Mx ++ M) (frzA G Mx) M
  | [], G, M => Wk.refl
  | x :: Mx, G, M => by
    refine Wk.trans (Wk.perm (M' := Mx ++ x :: M) ?_) ((frzA_wk Mx G (x :: M)).trans Wk.frz0)
    exact List.perm_middle
theorem frzA_ne : ∀ {Mx : Mem} {G : Hp} {a : Addr}, (∀ x, x ∈ Mx → x.1 ≠ a) → frzA G Mx a = G a
  | [], _, _, _ => rfl
  | x :: Mx, G, a, h => by
    show upd (frzA G Mx) x.1 x.2 a = _
    rw [upd_ne (Ne.symm (h x List.mem_cons_self))]
    exact frzA_ne fun y hy => h y (List.mem_cons_of_mem _ hy)
theorem frzA_ex (h : NewC G Mx) : Ex G (frzA G Mx) := fun a o e => by
  rw [frzA_ne]
  · exact e
  · intro x hx z
    rw [← z, h.1 x hx] at e
    cases e
theorem frzA_at : ∀ {Mx : Mem} {G : Hp}, (Mx.map (·.1)).Nodup → ∀ x, x ∈ Mx → frzA G Mx x.1 = some x.2
  | [], _, _, _, h => nomatch h
  | y :: Mx, G, hn, x, h => by
    rw [List.map_cons, List.nodup_cons] at hn
    show upd (frzA G Mx) y.1 y.2 x.1 = _
    rcases List.mem_cons.mp h with rfl | h
    · exact upd_same
    · rw [upd_ne (fun z => hn.1 (by rw [← z]; exact List.mem_map.mpr ⟨x, h, rfl⟩))]
      exact frzA_at hn.2 x h
theorem Rp.frz {v : V} {d : XD} (n : NewC G Mx) (h : Rp K G Mx v d) : Rp K (frzA G Mx) [] v d := h.mono (fun a o q => q.elim (fun z => .inr (frzA_at n.2 (a, o) z)) (fun z => .inr (frzA_ex n _ _ z))) (frzA_ex n)
theorem RpA.frz {v : List V} {d : List XD} (n : NewC G Mx) (h : RpA K G Mx v d) : RpA K (frzA G Mx) [] v d := h.mono (fun a o q => q.elim (fun z => .inr (frzA_at n.2 (a, o) z)) (fun z => .inr (frzA_ex n _ _ z))) (frzA_ex n)
theorem frzA_fr {p : Addr} (h : Fr G (Mx ++ M) p) : Fr (frzA G Mx) M p := ⟨by rw [frzA_ne (fun x hx => h.2 x (List.mem_append.mpr (.inl hx)))]; exact h.1, fun x hx => h.2 x (List.mem_append.mpr (.inr hx))⟩
/-- a cell more, a tuple more -/
theorem NewC.cell {p : Addr} {o : HO} (h : NewC G Mx) (f : Fr G (Mx ++ M) p) : NewC G ((p, o) :: Mx) := by
  refine ⟨fun x hx => ?_, ?_⟩
  · rcases List.mem_cons.mp hx with rfl | hx
    · exact f.1
    · exact h.1 x hx
  · rw [List.map_cons, List.nodup_cons]
    refine ⟨fun z => ?_, h.2⟩
    obtain ⟨y, hy, e⟩ := List.mem_map.mp z
    exact f.2 y (List.mem_append.mpr (.inl hy)) e
theorem NewC.tup {p : Addr} {o : HO} (h : NewC G Mx) (f : Fr G (Mx ++ M) p) : NewC (upd G p o) Mx :=
  ⟨fun x hx => by rw [upd_ne (f.2 x (List.mem_append.mpr (.inl hx)))]; exact h.1 x hx, h.2⟩
/-- an expression that lays written data -/
def LitOk (K : PySem.W.Frag) (te : KE) (σ : St) (G : Hp) (d : XD) : Prop := ∀ (G0 : Hp) (My M : Mem) (R : KR) (E : KX), Ex G G0 → NewC G0 My → (∀ v G' Mx, Ex G0 G' → NewC G' (Mx ++ My) → Rp K G' Mx v d → R v G' (Mx ++ (My ++ M))) → te σ G0 (My ++ M) R E
def LitsOk (K : PySem.W.Frag) (ta : KA) (σ : St) (G : Hp) (ds : List XD) : Prop := ∀ (G0 : Hp) (My M : Mem) (R : List V → Hp → Mem → Prop) (E : KX), Ex G G0 → NewC G0 My → (∀ vs G' Mx, Ex G0 G' → NewC G' (Mx ++ My) → RpA K G' Mx vs ds → R vs G' (Mx ++ (My ++ M))) → ta σ G0 (My ++ M) R E
end
section
variable {K : PySem.W.Frag} {σ : St} {G : Hp} {te ta tb : KE} {tas : KA} {ds es : List XD} {d : XD}
theorem lit_pure {v : V} (h : ∀ G0 M R E, Ex G G0 → R v G0 M → te σ G0 M R E) (r : Rp K G [] v d) : LitOk K te σ G d := fun G0 My M R E e n q => h G0 _ R E e (q v G0 [] Ex.refl n (r.ex e))
theorem lit_int {i : Int} : LitOk K (kC (.int i)) σ G (.int i) := lit_pure (fun _ _ _ _ _ q => q) (.int i)
theorem lit_bl {i : Bool} : LitOk K (kC (.bl i)) σ G (.bl i) := lit_pure (fun _ _ _ _ _ q => q) (.bl i)
theorem lit_str {i : Str} : LitOk K (kC (.str i)) σ G (.str i) := lit_pure (fun _ _ _ _ _ q => q) (.str i)
theorem lit_non : LitOk K (kC .non) σ G .non := lit_pure (fun _ _ _ _ _ q => q) .non
theorem lit_neg {i : Int} : LitOk K (kUn kNeg (kC (.int i))) σ G (.int (-i)) := lit_pure (fun _ _ _ _ _ q => q) (.int _)
theorem lit_var {i : Nat} {v : V} (h : σ[i]? = some (some v)) (r : Rp K G [] v d) : LitOk K (kVar i) σ G d := lit_pure (v := v) (fun _ _ _ _ _ q => by unfold kVar; rw [h]; exact q) r
theorem lit_dict : LitOk K kDNew σ G .dict := fun G0 My M R E e n q p fp => q _ G0 [(p, .dK [])] Ex.refl (n.cell fp) (.dict (.inl List.mem_cons_self))
theorem lits_nil : LitsOk K kNil σ G [] := fun G0 My M R E e n q => q [] G0 [] Ex.refl n .nil
theorem lits_cons (h : LitOk K te σ G d) (hs : LitsOk K tas σ G ds) : LitsOk K (kCons te tas) σ G (d :: ds) := fun G0 My M R E e n q =>
  h G0 My M _ E e n fun v G1 Mx e1 n1 r1 => by
    rw [← List.append_assoc]
    refine hs G1 (Mx ++ My) M _ E (e.trans e1) n1 fun vs G2 Mz e2 n2 r2 => ?_
    have := q (v :: vs) G2 (Mz ++ Mx) (e1.trans e2) (by rw [List.append_assoc]; exact n2) (.cons (r1.up e2 fun x hx => List.mem_append.mpr (.inr hx)) (r2.up Ex.refl fun x hx => List.mem_append.mpr (.inl hx)))
    simpa [List.append_assoc] using this
theorem lit_tup (h : LitsOk K tas σ G ds) (hl : ds.length ≤ 1000) : LitOk K (kTup tas) σ G (.tup ds) := fun G0 My M R E e n q =>
  h G0 My M _ E e n fun vs G1 Mx e1 n1 r1 => ⟨Nat.le_trans (by rw [r1.len]; exact hl) (by decide), fun p fp => by
    rw [← List.append_assoc] at fp
    exact q _ _ Mx (e1.trans (Ex.new fp)) (n1.tup fp) (.tup sqt_new (r1.ex (Ex.new fp)))⟩
theorem lit_lst (h : LitsOk K tas σ G ds) (hl : ds.length ≤ 1000) : LitOk K (kLst tas) σ G (.list ds) := fun G0 My M R E e n q =>
  h G0 My M _ E e n fun vs G1 Mx e1 n1 r1 => ⟨Nat.le_trans (by rw [r1.len]; exact hl) (by decide), fun p fp => by
    rw [← List.append_assoc] at fp
    exact q _ _ ((p, .lst vs) :: Mx) e1 (n1.cell fp) (.list (.inl List.mem_cons_self) (r1.up Ex.refl fun x hx => List.mem_cons_of_mem _ hx))⟩
theorem lit_add (h1 : LitOk K ta σ G (.list ds)) (h2 : LitOk K tb σ G (.list es)) (hl : (ds ++ es).length ≤ 1000) : LitOk K (kBin kAdd ta tb) σ G (.list (ds ++ es)) := fun G0 My M R E e n q =>
  h1 G0 My M _ E e n fun v G1 Mx e1 n1 r1 => by
    rw [← List.append_assoc]
    refine h2 G1 (Mx ++ My) M _ E (e.trans e1) n1 fun u G2 Mz e2 n2 r2 => ?_
    cases r1 with
    | @list a xs _ a1 s1 =>
      cases r2 with
      | @list b ys _ a2 s2 =>
        have l1 := s1.len
        have l2 := s2.len
        refine ⟨xs, ys, ?_, ?_, Nat.le_trans (m := 1000) (by rw [List.length_append] at hl; omega) (by decide), fun p fp => ?_⟩
        · rcases a1 with z | z
          · exact .inl (by simp [z])
          · exact .inr (e2 _ _ z)
        · rcases a2 with z | z
          · exact .inl (by simp [z])
          · exact .inr z
        · have fp' : Fr G2 ((Mz ++ (Mx ++ My)) ++ M) p := by simpa [List.append_assoc] using fp
          have := q (.ref p) G2 ((p, .lst (xs ++ ys)) :: (Mz ++ Mx)) (e1.trans e2) (by
            have := n2.cell (o := .lst (xs ++ ys)) fp'
            simpa [List.append_assoc] using this) (.list (.inl List.mem_cons_self) ((s1.up e2 fun x hx => by simp [hx]).app (s2.up Ex.refl fun x hx => by simp [hx])))
          simpa [List.append_assoc] using this
theorem lit_pow {i j : Int} (h : CPow i j) : LitOk K (kBin (kI CPow fun i j => .int (i ^ j.toNat)) (kC (.int i)) (kC (.int j))) σ G (.int (i ^ j.toNat)) := lit_pure (v := .int (i ^ j.toNat)) (fun _ _ _ _ _ q => ⟨h, q⟩) (.int _)
/-- one of written things is picked by a draw -/
theorem lit_pick {M : Mem} {R : KR} {E : KX} {i n : Nat} {p : Addr} {c s L : Int} (h : LitOk K te σ G (.list ds)) (hv : σ[i]? = some (some (.ref p))) (hn : M[n]? = some (p, pool c s)) (hs : PoolOk s) (hL : L = ds.length) (h0 : 0 < ds.length) (h1 : ds.length ≤ 1000)
    (q : ∀ v d G' Mx c' s', Ex G G' → NewC G' Mx → d ∈ ds → Rp K G' Mx v d → PoolOk s' → R v G' (Mx ++ M.set n (p, pool c' s'))) : kBin (kIx K) te (kCall (S_law_take K) (kCons (kVar i) (kCons (kC (.int L)) kNil))) σ G M R E := by
  refine h G [] M _ E Ex.refl NewC.nil fun v G1 Mx e1 n1 r1 => ?_
  rw [List.append_nil] at n1
  cases r1 with
  | @list a vs _ ha hs1 =>
    have hl := hs1.len
    rw [List.nil_append]
    simp only [kCall, kCons, kVar, hv]
    have hn2 : (Mx ++ M)[Mx.length + n]? = some (p, pool c s) := by rw [List.getElem?_append_right (by omega), Nat.add_sub_cancel_left]; exact hn
    refine ⟨p, L, Mx.length + n, c, s, rfl, rfl, hn2, hs, by omega, by omega, fun r c' s' r0 r1 hs' => ?_⟩
    obtain ⟨j, rfl⟩ := Int.eq_ofNat_of_zero_le r0
    obtain ⟨y, d, hy, hd, ry⟩ := hs1.get (i := j) (by omega)
    have hne : (a, HO.lst vs) ∈ Mx → (a, HO.lst vs) ∈ (Mx ++ M).set (Mx.length + n) (p, pool c' s') := fun z => by
      rw [List.set_append_right _ _ (by omega)]; exact List.mem_append.mpr (.inl z)
    refine ⟨vs, y, ?_, atI_nat hy, ?_⟩
    · rcases ha with z | z
      · exact .inl (.inl (hne z))
      · exact .inl (.inr (sql_of z))
    · have := q y d G1 Mx c' s' e1 n1 (List.mem_of_getElem? hd) ry hs'
      rw [List.set_append_right _ _ (by omega), Nat.add_sub_cancel_left]; exact this
end
/-! what is known of written things -/
def XD.ty : XD → PT
  | .non => .non | .bl _ => .bool | .int _ => .int | .str _ => .str | .list _ => .list | .tup _ => .tuple | .dict => .dict
theorem rp_ty {K : PySem.W.Frag} {G : Hp} {v : V} {d : XD} (h : Rp K G [] v d) (M : Mem) : TyK K G M v d.ty := by
  cases h with
  | non => exact ty_non
  | bl b => exact ty_bl
  | int i => exact ty_int
  | str s => exact ty_str
  | list h _ =>
    rcases h with z | z
    · cases z
    · exact ty_lst (.inr (sql_of z))
  | tup h _ => exact ty_tup h
  | dict h =>
    rcases h with z | z
    · cases z
    · exact ty_dict (.inr z)
mutual
def XD.toD : XD → Option PyData
  | .non => some .none
  | .bl b => some (.bool b)
  | .int i => some (.int i)
  | .str s => some (.str s)
  | .list l => (XD.toDs l).map .list
  | .tup l => (XD.toDs l).map .tuple
  | .dict => none
def XD.toDs : List XD → Option (List PyData)
  | [] => some []
  | x :: l => match x.toD, XD.toDs l with
    | some d, some ds => some (d :: ds)
    | _, _ => none
end
mutual
theorem rp_dp {K : PySem.W.Frag} {G : Hp} : ∀ {v : V} {d : XD} {e : PyData}, Rp K G [] v d → d.toD = some e → Dp K G v e
  | _, _, _, .non, h => by cases h; exact .non
  | _, _, _, .bl b, h => by cases h; exact .bl b
  | _, _, _, .int b, h => by cases h; exact .int b
  | _, _, _, .str b, h => by cases h; exact .str b
  | _, _, e, .list (ds := ds) ha hs, h => by
    have h : (XD.toDs ds).map PyData.list = some e := h
    obtain ⟨es, h1, rfl⟩ := Option.map_eq_some_iff.mp h
    rcases ha with z | z
    · cases z
    · exact .lst (sql_of z) (rpa_dp hs h1)
  | _, _, e, .tup (ds := ds) ha hs, h => by
    have h : (XD.toDs ds).map PyData.tuple = some e := h
    obtain ⟨es, h1, rfl⟩ := Option.map_eq_some_iff.mp h
    exact .tup ha (rpa_dp hs h1)
  | _, _, _, .dict _, h => by cases h
theorem rpa_dp {K : PySem.W.Frag} {G : Hp} : ∀ {vs : List V} {ds : List XD} {es : List PyData}, RpA K G [] vs ds → XD.toDs ds = some es → DpAll K G vs es
  | _, _, _, .nil, h => by cases h; exact .nil
  | _, _, es, .cons (d := d) (ds := ds) a b, h => by
    have h : (match d.toD, XD.toDs ds with | some d, some ds => some (d :: ds) | _, _ => none) = some es := h
    split at h
    · rename_i d' ds' e1 e2
      cases h
      exact .cons (rp_dp a e1) (rpa_dp b e2)
    · cases h
end
end BT
namespace BT
open PySem PySem.Spec L2
theorem LitOk.use {K : PySem.W.Frag} {te : KE} {σ : St} {G : Hp} {d : XD} {M : Mem} {R : KR} {E : KX} (h : LitOk K te σ G d) (q : ∀ v G' Mx, Ex G G' → NewC G' Mx → Rp K G' Mx v d → R v G' (Mx ++ M)) : te σ G M R E :=
  h G [] M R E Ex.refl NewC.nil fun v G' Mx e n r => by rw [List.append_nil] at n; exact q v G' Mx e n r
theorem Wk.dropP {G : Hp} (Mx : Mem) {M : Mem} : Wk G (Mx ++ M) G M := fun H hv => ⟨hv.ex, fun x hx => hv.mu x (List.mem_append.mpr (.inr hx)), hv.nd.sublist ((List.sublist_append_right Mx M).map _), fun x hx => hv.dj x (List.mem_append.mpr (.inr hx))⟩
end BT
set_option Elab.async false
set_option linter.all false
set_option maxRecDepth 100000
set_option maxHeartbeats 4000000
namespace BT
open PySem PySem.Spec L2
open PyProof.Rows hiding St
/-! ### dicts that are walked: locked while it goes on -/
def unl (G : Hp) (d : Addr) : Hp := fun a => if a = d then none else G a
theorem unl_upd {G : Hp} {d : Addr} {o : HO} (h : G d = none) : unl (upd G d o) d = G := by
  funext a
  unfold unl
  by_cases e : a = d
  · rw [if_pos e, e, h]
  · rw [if_neg e, upd_ne e]
theorem hv_lock {G : Hp} {M1 M2 : Mem} {H : Hp} {d : Addr} {u o : HO} (h : Hv G (M1 ++ (d, u) :: M2) H) : Hv (upd G d o) (M1 ++ M2) (upd H d o) := by
  have hg : G d = none := h.dj (d, u) (by simp)
  have h2 := Wk.drop (G := G) M1 (x := (d, u)) (M2 := M2) H h
  have nd : ∀ x, x ∈ M1 ++ M2 → x.1 ≠ d := fun x hx z => by
    have nd := h.nd
    rw [List.map_append, List.map_cons, List.nodup_append] at nd
    obtain ⟨n1, n2, n3⟩ := nd
    rcases List.mem_append.mp hx with q | q
    · exact n3 x.1 (List.mem_map.mpr ⟨x, q, rfl⟩) d (by simp) z
    · rw [List.nodup_cons] at n2
      exact n2.1 (by rw [← z]; exact List.mem_map.mpr ⟨x, q, rfl⟩)
  refine ⟨fun b v e => ?_, fun x hx => ?_, h2.nd, fun x hx => ?_⟩
  · by_cases hb : b = d
    · subst hb; rw [upd_same] at e ⊢; exact e
    · rw [upd_ne hb] at e ⊢; exact h.ex b v e
  · rw [upd_ne (nd x hx)]; exact h2.mu x hx
  · rw [upd_ne (nd x hx)]; exact h2.dj x hx
theorem hv_unlock {G : Hp} {M : Mem} {H : Hp} {d : Addr} {u o : HO} (h : Hv G M H) (hd : G d = some o) : Hv (unl G d) ((d, u) :: M) (upd H d u) := by
  have nd : ∀ x, x ∈ M → x.1 ≠ d := fun x hx z => by
    have := h.dj x hx
    rw [z, hd] at this; cases this
  refine ⟨fun b v e => ?_, fun x hx => ?_, ?_, fun x hx => ?_⟩
  · unfold unl at e
    by_cases hb : b = d
    · rw [if_pos hb] at e; cases e
    · rw [if_neg hb] at e; rw [upd_ne hb]; exact h.ex b v e
  · rcases List.mem_cons.mp hx with rfl | hx
    · exact upd_same
    · rw [upd_ne (nd x hx)]; exact h.mu x hx
  · rw [List.map_cons, List.nodup_cons]
    refine ⟨fun z => ?_, h.nd⟩
    obtain ⟨x, hx, e⟩ := List.mem_map.mp z
    exact nd x hx e
  · unfold unl
    rcases List.mem_cons.mp hx with rfl | hx
    · rw [if_pos rfl]
    · rw [if_neg (nd x hx)]; exact h.dj x hx
/-- a statement with a dict locked -/
def kLock (t : KS) : KS := fun D σ G M => ∃ (M1 M2 : Mem) (d : Addr) (kvs : List (Key × V)), M = M1 ++ (d, .dK kvs) :: M2 ∧ ∀ od : Obj, G d = none →
  t { nx := fun σ' G' M' => G' d = some (.frz od (.dK kvs)) ∧ D.nx σ' (unl G' d) ((d, .dK kvs) :: M'), rt := fun v G' M' => G' d = some (.frz od (.dK kvs)) ∧ D.rt v (unl G' d) ((d, .dK kvs) :: M'), bk := fun _ _ _ => False, ct := fun _ _ _ => False, xc := fun _ _ _ _ _ => False } σ (upd G d (.frz od (.dK kvs))) (M1 ++ M2)
section
variable {X : Cx} {W : WX} {pos : Pos} {o i e f tg : Expr}
theorem js_lock {s : Stmt} {t : KS} (h : JS X W s t) : JS X W s (kLock t) :=
  ps_mono (ps_lock h) fun D σ H ⟨G, M, d, hv, ⟨M1, M2, dd, kvs, e, q⟩, en⟩ => by
    subst e
    exact ⟨dd, .dK kvs, hv.mu (dd, .dK kvs) (by simp), trivial, fun od => ⟨upd G dd (.frz od (.dK kvs)), M1 ++ M2, _, hv_lock hv, q od (hv.dj (dd, .dK kvs) (by simp)), ⟨fun σ' G' M' H' hv' ⟨e1, e2⟩ => ⟨hv'.ex _ _ e1, en.nx σ' _ _ _ (hv_unlock hv' e1) e2⟩, fun v G' M' H' hv' ⟨e1, e2⟩ => ⟨hv'.ex _ _ e1, en.rt v _ _ _ (hv_unlock hv' e1) e2⟩, fun _ _ _ _ _ z => z.elim, fun _ _ _ _ _ z => z.elim, fun _ _ _ _ _ _ _ z => z.elim⟩⟩⟩
/-- an expression with a dict locked -/
def kLockE (t : KE) : KE := fun σ G M R E => ∃ (M1 M2 : Mem) (d : Addr) (kvs : List (Key × V)), M = M1 ++ (d, .dK kvs) :: M2 ∧ ∀ od : Obj, G d = none →
  t σ (upd G d (.frz od (.dK kvs))) (M1 ++ M2) (fun v G' M' => G' d = some (.frz od (.dK kvs)) ∧ R v (unl G' d) ((d, .dK kvs) :: M')) (fun _ _ _ _ => False)
theorem je_lock {t : KE} (h : JE X W e t) : JE X W e (kLockE t) :=
  pe_mono (pe_lock h) fun σ H Q ⟨G, M, R, E, hv, ⟨M1, M2, dd, kvs, e, q⟩, hR, hE⟩ => by
    subst e
    exact ⟨dd, .dK kvs, hv.mu (dd, .dK kvs) (by simp), trivial, fun od => ⟨upd G dd (.frz od (.dK kvs)), M1 ++ M2, _, _, hv_lock hv, q od (hv.dj (dd, .dK kvs) (by simp)), fun v G' M' H' hv' ⟨e1, e2⟩ => ⟨hv'.ex _ _ e1, hR v _ _ _ (hv_unlock hv' e1) e2⟩, fun _ _ _ _ _ _ z => z.elim⟩⟩
/-! what is walked -/
def srcK (d : Addr) (o : Obj) (kvs : List (Key × V)) : Src := ⟨kvs.length, fun i => .inl (match kvs[i]? with | some p => kV p.1 | none => .non), fun G M => G d = some (.frz o (.dK kvs))⟩
def srcVs (d : Addr) (o : Obj) (kvs : List (Key × V)) : Src := ⟨kvs.length, fun i => .inl (match kvs[i]? with | some p => p.2 | none => .non), fun G M => G d = some (.frz o (.dK kvs))⟩
def srcI (d : Addr) (o : Obj) (kvs : List (Key × V)) : Src := ⟨kvs.length, fun i => .inr (match kvs[i]? with | some p => [kV p.1, p.2] | none => []), fun G M => G d = some (.frz o (.dK kvs))⟩
theorem goes_K {d : Addr} {o : Obj} {kvs : List (Key × V)} : Goes (srcK d o kvs) (Itk d o kvs) where
  go := fun i G M H hv ok hi => ⟨hv.ex _ _ ok, hi⟩
  stop := fun i G M H hv ok hi => ⟨hv.ex _ _ ok, hi⟩
  yld := fun i G M H x H' hv ok hi y => by
    obtain ⟨e1, k, v, e2, e3⟩ := y
    show x = (match kvs[i]? with | some p => kV p.1 | none => .non) ∧ H' = H
    rw [e2]; exact ⟨e3, e1⟩
theorem goes_Vs {d : Addr} {o : Obj} {kvs : List (Key × V)} : Goes (srcVs d o kvs) (Itd d o kvs) where
  go := fun i G M H hv ok hi => ⟨hv.ex _ _ ok, hi⟩
  stop := fun i G M H hv ok hi => ⟨hv.ex _ _ ok, hi⟩
  yld := fun i G M H x H' hv ok hi y => by
    obtain ⟨e1, k, e2⟩ := y
    show x = (match kvs[i]? with | some p => p.2 | none => .non) ∧ H' = H
    rw [e2]; exact ⟨rfl, e1⟩
theorem goes_I {d : Addr} {o : Obj} {kvs : List (Key × V)} : Goes (srcI d o kvs) (Iti d o kvs) where
  go := fun i G M H hv ok hi => ⟨hv.ex _ _ ok, hi⟩
  stop := fun i G M H hv ok hi => ⟨hv.ex _ _ ok, hi⟩
  yld := fun i G M H x H' hv ok hi y => by
    obtain ⟨T, k, v, e1, e2, e3, e4⟩ := y
    show ∃ T, x = .ref T ∧ H T = none ∧ H' = upd H T (.tup (match kvs[i]? with | some p => [kV p.1, p.2] | none => []))
    rw [e1]; exact ⟨T, e2, e3, e4⟩
def kiKeys (t : KE) : KI := fun σ G M R E => t σ G M (fun x G M => match x with
  | .ref d => ∃ o kvs, G d = some (.frz o (.dK kvs)) ∧ R (srcK d o kvs) G M
  | _ => False) E
def kiVals (t : KE) : KI := fun σ G M R E => t σ G M (fun x G M => match x with
  | .ref d => ∃ o kvs, G d = some (.frz o (.dK kvs)) ∧ R (srcVs d o kvs) G M
  | _ => False) E
def kiItems (t : KE) : KI := fun σ G M R E => t σ G M (fun x G M => match x with
  | .ref d => ∃ o kvs, G d = some (.frz o (.dK kvs)) ∧ R (srcI d o kvs) G M
  | _ => False) E
theorem ji_keys {t : KE} (h : JE X W e t) : JI X W tg e (kiKeys t) :=
  pi_mono (pi_keys h) fun σ H Q ⟨G, M, R, E, hv, h, hR, hE⟩ => ⟨G, M, _, E, hv, h, fun x G1 M1 H1 hv1 q => by
    match x, q with
    | .ref d, ⟨o, kvs, q1, q2⟩ => exact ⟨d, o, rfl, .inl ⟨kvs, hv1.ex _ _ q1, hR _ G1 M1 H1 hv1 q2 _ goes_K⟩⟩, hE⟩
theorem ji_vals {t : KE} {apos cpos : Pos} (h : JE X W e t) (hbase : attributeBase e "values" X.env (eval e X.env) = eval e X.env := by rfl) (hline : (apos.endLine == cpos.line) = true := by rfl) : JI X W tg (.Call (.Attribute e "values" apos) [] [] cpos) (kiVals t) :=
  pi_mono (pi_values h hbase hline) fun σ H Q ⟨G, M, R, E, hv, h, hR, hE⟩ => ⟨G, M, _, E, hv, h, fun x G1 M1 H1 hv1 q => by
    match x, q with
    | .ref d, ⟨o, kvs, q1, q2⟩ => exact ⟨d, o, kvs, rfl, hv1.ex _ _ q1, hR _ G1 M1 H1 hv1 q2 _ goes_Vs⟩, hE⟩
theorem ji_items {t : KE} {apos cpos tpos : Pos} {elts : List Expr} {kk : Nat} (h : JE X W e t) (hbase : attributeBase e "items" X.env (eval e X.env) = eval e X.env := by rfl) (hline : (apos.endLine == cpos.line) = true := by rfl) : JI X W (.Tuple elts kk tpos) (.Call (.Attribute e "items" apos) [] [] cpos) (kiItems t) :=
  pi_mono (pi_items h hbase hline) fun σ H Q ⟨G, M, R, E, hv, h, hR, hE⟩ => ⟨G, M, _, E, hv, h, fun x G1 M1 H1 hv1 q => by
    match x, q with
    | .ref d, ⟨o, kvs, q1, q2⟩ => exact ⟨d, o, kvs, rfl, hv1.ex _ _ q1, hR _ G1 M1 H1 hv1 q2 _ goes_I⟩, hE⟩
theorem ex_lock {G : Hp} {d : Addr} {o : HO} (h : G d = none) : Ex G (upd G d o) := fun a u e => by
  rw [upd_ne (fun z => by rw [z, h] at e; cases e)]; exact e
/-- d[k], also while d is walked -/
def kDGetF : KR2 := fun x y G M R => match x with
  | .ref a => ∃ (kvs : List (Key × V)) (k : Key) (v : V), (At G M a (.dK kvs) ∨ ∃ od, G a = some (.frz od (.dK kvs))) ∧ y = kV k ∧ valV kvs k = some v ∧ R v G M
  | _ => False
theorem je_dgetF {ta tb : KE} (hu : X.A.units + 64 < cLine) (ha : JE X W o ta) (hb : JE X W i tb) (hs : NoSl i := by exact fun _ _ => rfl) : JE X W (.Subscript o i pos) (kBin kDGetF ta tb) :=
  pe_mono (pe_dget (by omega) ha hb hs) fun σ H Q ⟨G, M, R, E, hv, h, hR, hE⟩ => ⟨G, M, _, E, hv, h, fun x G1 M1 H1 hv1 q1 => ⟨G1, M1, _, E, hv1, q1, fun y G2 M2 H2 hv2 q2 => by
    match x, q2 with
    | .ref a, ⟨kvs, k, v, q3, q4, q5, q6⟩ =>
      subst q4
      refine ⟨a, v, rfl, ?_, hR _ G2 M2 H2 hv2 q6⟩
      rw [← q5]
      rcases q3 with q3 | ⟨od, q3⟩
      · exact DGet.k (hv2.at q3)
      · exact .inl ⟨kvs, k, .inr ⟨od, hv2.ex _ _ q3⟩, rfl, rfl⟩, hE⟩, hE⟩
/-- list(d.items()) -/
def kItems (t : KE) : KE := fun σ G M R E => t σ G M (fun x G M => match x with
  | .ref d => ∃ kvs, At G M d (.dK kvs) ∧ ∀ (G' : Hp) (p : Addr) (ts : List Addr), Ex G G' → Fr G' M p → ts.length = kvs.length → (∀ (i : Nat) (q : Key × V), kvs[i]? = some q → ∃ T, ts[i]? = some T ∧ G' T = some (.tup [kV q.1, q.2])) → R (.ref p) G' ((p, .lst (ts.map V.ref)) :: M)
  | _ => False) E
theorem paired_get2 {α β : Type} {F : α → β → Prop} : ∀ {xs : List α} {ys : List β}, Paired F xs ys → ∀ {i : Nat} {y : β}, ys[i]? = some y → ∃ x, xs[i]? = some x ∧ F x y
  | _, _, .nil, _, _, h => by simp at h
  | _, _, .cons r t, 0, y, h => by
    have e := Option.some.inj h
    subst e
    exact ⟨_, rfl, r⟩
  | _, _, .cons r t, i + 1, y, h => by
    obtain ⟨x, h1, h2⟩ := paired_get2 t (i := i) (y := y) (by simpa using h)
    exact ⟨x, by simpa using h1, h2⟩
theorem je_items {t : KE} {p apos cpos pos : Pos} (hm : X.mg "list" = none) (he : JE X W e t) (hc : X.calm = true := by rfl) (hg : Gl X "list" := by rfl) (hv : bootBuiltins "list" = some (.type "list") := by decide +kernel) (hbase : attributeBase e "items" X.env (eval e X.env) = eval e X.env := by rfl) (hline : (apos.endLine == cpos.line) = true := by rfl)
    (hs : starEach [.Call (.Attribute e "items" apos) [] [] cpos] X.env = (false, eval (.Call (.Attribute e "items" apos) [] [] cpos) X.env) :: starEach [] X.env := by rfl) :
    JE X W (.Call (.Name "list" p) [.Call (.Attribute e "items" apos) [] [] cpos] [] pos) (kItems t) :=
  pe_mono (LiI.pe_listItems hc he hg hm hv hbase hline hs) fun σ H Q ⟨G, M, R, E, hv, h, hR, hE⟩ => ⟨G, M, _, E, hv, h, fun x G1 M1 H1 hv1 q => by
    match x, q with
    | .ref d, ⟨kvs, q1, q2⟩ =>
      refine ⟨d, kvs, rfl, hv1.at q1, fun H' p ts ex hp hts hpt hpl pr => ?_⟩
      obtain ⟨G', hG'⟩ : ∃ G' : Hp, G' = fun a => if a ∈ ts then H' a else G1 a := ⟨_, rfl⟩
      have eG : Ex G1 G' := fun a u e => by
        rw [hG']
        show (if a ∈ ts then H' a else G1 a) = some u
        rw [if_neg (fun z => by have := hts a z; rw [hv1.ex a u e] at this; cases this)]; exact e
      have gp : G1 p = none := by
        cases e : G1 p with
        | none => rfl
        | some u => rw [hv1.ex p u e] at hp; cases hp
      have mp : ∀ x, x ∈ M1 → x.1 ≠ p := fun x hx z => by have := hv1.mu x hx; rw [z, hp] at this; cases this
      have mt : ∀ x, x ∈ M1 → x.1 ∉ ts := fun x hx z => by have := hv1.mu x hx; rw [hts _ z] at this; cases this
      have fp : Fr G' M1 p := ⟨by rw [hG']; show (if p ∈ ts then _ else _) = none; rw [if_neg hpt]; exact gp, mp⟩
      have hv2 : Hv G' ((p, .lst (ts.map V.ref)) :: M1) H' := by
        refine ⟨fun a u e => ?_, fun x hx => ?_, ?_, fun x hx => ?_⟩
        · rw [hG'] at e
          have e : (if a ∈ ts then H' a else G1 a) = some u := e
          split at e
          · exact e
          · exact ex a u (hv1.ex a u e)
        · rcases List.mem_cons.mp hx with rfl | hx
          · exact hpl
          · exact ex _ _ (hv1.mu x hx)
        · rw [List.map_cons, List.nodup_cons]
          refine ⟨fun z => ?_, hv1.nd⟩
          obtain ⟨x, hx, e⟩ := List.mem_map.mp z
          exact mp x hx e
        · rw [hG']
          rcases List.mem_cons.mp hx with rfl | hx
          · show (if p ∈ ts then _ else _) = none
            rw [if_neg hpt]; exact gp
          · show (if x.1 ∈ ts then _ else _) = none
            rw [if_neg (mt x hx)]; exact hv1.dj x hx
      refine hR _ G' _ H' hv2 (q2 G' p ts eG fp (Paired.length pr) fun i kv hkv => ?_)
      obtain ⟨T, h1, h2⟩ := paired_get2 pr hkv
      refine ⟨T, h1, ?_⟩
      rw [hG']
      show (if T ∈ ts then H' T else _) = _
      rw [if_pos (List.mem_of_getElem? h1)]; exact h2, hE⟩
end
end BT
set_option Elab.async false
set_option linter.all false
set_option maxRecDepth 100000
set_option maxHeartbeats 4000000
namespace BT
open PySem PySem.Spec L2
open PyProof.Rows hiding St
/-! ### a statement at which some heap is known to be as told -/
def kH (t : KS) : KS := fun D σ G M => (∃ H, Hv G M H) → ∃ G' M', Wk G M G' M' ∧ t D σ G' M'
theorem js_h {X : Cx} {W : WX} {s : Stmt} {t : KS} (h : JS X W s t) : JS X W s (kH t) := ps_mono h fun D σ H ⟨G, M, d, hv, q, en⟩ => by
  obtain ⟨G', M', wk, q⟩ := q ⟨H, hv⟩
  exact ⟨G', M', d, wk H hv, q, en⟩
/-- a cell may be frozen -/
theorem Hv.fz {G : Hp} {M : Mem} {p : Addr} {o : HO} (h : ∃ H, Hv G ((p, o) :: M) H) : Ex G (upd G p o) := by
  obtain ⟨H, hv⟩ := h
  exact Ex.new' (hv.dj (p, o) List.mem_cons_self)
theorem Hv.no {G : Hp} {M : Mem} {x : Addr × HO} (h : ∃ H, Hv G M H) (hx : x ∈ M) : G x.1 = none := by
  obtain ⟨H, hv⟩ := h
  exact hv.dj x hx
theorem Hv.ne {G : Hp} {M : Mem} {x y : Addr × HO} {i j : Nat} (h : ∃ H, Hv G M H) (hx : M[i]? = some x) (hy : M[j]? = some y) (n : i ≠ j) : x.1 ≠ y.1 := fun e => by
  obtain ⟨H, hv⟩ := h
  exact n (nodup_at M j y.1 y.2 x i hv.nd hy hx e)
end BT
namespace BT
open PySem PySem.Spec L2
theorem Hv.newc {G : Hp} {Mx M : Mem} (h : ∃ H, Hv G (Mx ++ M) H) : NewC G Mx := by
  obtain ⟨H, hv⟩ := h
  exact ⟨fun x hx => hv.dj x (List.mem_append.mpr (.inl hx)), hv.nd.sublist ((List.sublist_append_left Mx M).map _)⟩
end BT
set_option Elab.async false
set_option linter.all false
set_option maxRecDepth 100000
set_option maxHeartbeats 4000000
namespace BT
open PySem PySem.Spec L2
open PyProof.Rows hiding St
/-! ### defs that are called where no guard stands; repr -/
structure GFn (P : Program) (w : World) (K : PySem.W.Frag) (mg : Str → Option Value) (base : Heap) (k : Nat) (f : Addr) (fd : FuncData) (ps : List Str) (sp : Sp) : Prop where
  len : ∀ vs H Q E, sp vs H Q E → vs.length = ps.length
  go : ∀ {A : Around} {outer : List Env} {s : Shared} {H : Hp} {args : Args} {us : List Value} {vs : List V} {Q : VK} {E : XK}, A.guards = some [] → Room k A → Env0 P w K mg base A outer s H → BindsTo s fd args (ps.zip us) → Vals vs us → sp vs H Q E →
    codeAny (model P w) A (.call (.ref f) args) (CR (L2.CX P w) outer P w H s Q E) s
section
variable {P : Program} {w : World} {K : PySem.W.Frag} {mg : Str → Option Value} {base : Heap} {k : Nat} {f : Addr} {fd : FuncData} {ps : List Str} {sp : Sp}
theorem GFn.mono {j : Nat} (F : GFn P w K mg base j f fd ps sp) (h : j ≤ k) : GFn P w K mg base k f fd ps sp := ⟨F.len, fun g r => F.go g (r.mono h)⟩
theorem FnOk.guarded (F : FnOk P w K mg base (L2.CX P w) k f fd ps sp) : GFn P w K mg base k f fd ps sp := ⟨F.len, fun _ r e b v q => F.run _ _ _ _ _ _ _ _ _ r e b v q⟩
theorem gfn_mk {x qual : Str} {st : Stmt} {N : List Str} (F : Fun K x qual st f fd) (sc : FnScope N ps (defScope st)) (len : ∀ vs H Q E, sp vs H Q E → vs.length = ps.length)
    (hbd : ∀ (cdv : Value) (A : Around) (outer : List Env) (s : Shared) (H : Hp) (vs : List V) (Q : VK) (E : XK), A.guards = some [] → Room k (A.deeper (envOfC qual (defScope st) s.heap.objs.size f cdv)) → sp vs H Q E →
      ∃ t, PSs (cxOf (L2.CX P w) P w K mg base N qual (defScope st) f cdv A outer s H E) (defBody st) t ∧ t { nx := fun _ H' => Q .non H', rt := Q } (start N vs) H) : GFn P w K mg base (k + 1) f fd ps sp := by
  obtain ⟨o1, o2, o3, o4, o5, o6, cdv, o8, o9, rfl, lk, hcd⟩ := F.ex
  refine ⟨len, fun {A outer s H args us vs Q E} gd rm en bd rv hsp => ?_⟩
  have hln := len _ _ _ _ hsp
  have inK : K.In s.heap := en.mod.kin.keeps fun a u z => (en.bs a u z).1
  have nolim : s.heap.NoLimit := en.mod.nolimit.keeps fun a u z => (en.bs a u z).1
  have kinds : ∀ z ∈ ps.zip us, (defScope st).names.lookup z.1 = some .local ∨ ((defScope st).names.lookup z.1 = some .cell ∧ ((cellsFrom (s.heap.objs.size + 1) (defScope st).names []).lookup z.1).isSome = true) := fun z hz => by
    obtain ⟨n, u⟩ := z
    rcases sc.par n (List.of_mem_zip hz).1 with h | h
    · exact .inl h
    · exact .inr ⟨h, PySem.W.cellsFrom_some _ _ _ (.inl h)⟩
  refine codeAny_call_function rm.depth (inK _ _ lk) rfl sc.co sc.gen rfl (PySem.W.codeRec_of inK hcd) (bd _ _ _ _ ?_)
  refine wpAny_newFunctionEnv_cells sc.kind kinds fun env hen s1 x => ?_
  subst hen
  refine ⟨nolim.keeps x.toInCall.keep, codeAny_func ?_⟩
  obtain ⟨t, ht, hq⟩ := hbd cdv A outer s H vs Q E gd (rm.deeper _) hsp
  have I := inv_start (CX := L2.CX P w) (E := E) sc rm.hd en hln rv x
  have fin : ∀ {σ' : St} {H' : Hp} {v : V} {u : Value} {s' : Shared}, Inv (cxOf (L2.CX P w) P w K mg base N qual (defScope st) f cdv A outer s H E) [] σ' H' s' → RelV v u → Q v H' → CE outer P w H s Q u s' := fun J r2 q => ⟨_, _, J.os, J.bare, J.base, J.hok, r2, q⟩
  refine wpAny_mono (ht.run [] s1 (start N vs) H _ I hq) (fun fl s' hs => ?_) fun e s' hs => hs
  match fl, hs with
  | .ret u, ⟨v, σ', H', J, r2, q⟩ => exact fin J r2 q
  | .next, ⟨σ', H', J, q⟩ => exact fin (v := V.non) (u := Value.none) J rfl q
  | .brk, ⟨_, _, _, z⟩ => exact z.elim
  | .cont, ⟨_, _, _, z⟩ => exact z.elim
/-- a def with its promise, of this kind -/
theorem gfn_ok {x qual : Str} {st : Stmt} {N : List Str} {S : KSp} (F : Fun K x qual st f fd) (sc : FnScope N ps (defScope st)) (len : ∀ vs G M R X, S vs G M R X → vs.length = ps.length)
    (hbody : ∀ (cdv : Value) (A : Around) (outer : List Env) (s : Shared) (H : Hp) (E : XK), A.guards = some [] → Room k (A.deeper (envOfC qual (defScope st) s.heap.objs.size f cdv)) →
      ∃ t, JSs (cxOf (L2.CX P w) P w K mg base N qual (defScope st) f cdv A outer s H E) (fun c d _ H => E c d H) (defBody st) t ∧
        ∀ vs G M R Z, S vs G M R Z → t { nx := fun _ G M => wkR R .non G M, rt := wkR R, xc := fun c d _ G M => wkX Z c d G M } (start N vs) G M) : GFn P w K mg base (k + 1) f fd ps (lift S) := by
  refine gfn_mk F sc (fun vs H Q E ⟨G, M, R, Z, _, h, _⟩ => len vs G M R Z h) fun cdv A outer s H vs Q E hg hr ⟨G, M, R, Z, hv, h, hR, hZ⟩ => ?_
  obtain ⟨t, j, q⟩ := hbody cdv A outer s H E hg hr
  exact ⟨_, j, G, M, _, hv, q vs G M R Z h, ⟨fun σ G M H hv h => (h H hv).elim fun G' h => h.elim fun M' h => hR _ G' M' H h.1 h.2, fun v G M H hv h => (h H hv).elim fun G' h => h.elim fun M' h => hR _ G' M' H h.1 h.2, fun _ _ _ _ _ z => z.elim, fun _ _ _ _ _ z => z.elim, fun c a σ G M H hv ⟨G', M', w, q⟩ => hZ c a G' M' H (w H hv) q⟩⟩
structure DefG (P : Program) (w : World) (K : PySem.W.Frag) (mg : Str → Option Value) (base : Heap) (lev : Nat) (x : Str) (ps : List Str) (S : KSp) : Prop where
  ex : ∃ f fd, GFn P w K mg base lev f fd ps (lift S) ∧ mg x = some (.ref f) ∧ PySem.W.keepIn K (.ref f) = true ∧ Binds K fd ps []
end
section
variable {X : Cx} {W : WX} {pos p : Pos} {e : Expr} {es : List Expr} {x : Str} {k lev : Nat} {ps : List Str} {S : KSp} {t : KA}
theorem je_callG (D : DefG X.prog X.w X.K X.mg X.base lev x ps S) (hg0 : X.A.guards = some []) (hr : Room k X.A) (tk : Takes X W) (ha : JA X W (e :: es) t) (hl : lev ≤ k := by decide) (hg : Gl X x := by rfl)
    (hdb : (x == ("__debug__" : Str)) = false := by decide) (he : starEach (e :: es) X.env = (false, eval e X.env) :: starEach es X.env := by rfl) (hpl : (backTo pos (starEach es X.env)).any (·.1) = false := by rfl) :
    JE X W (.Call (.Name x p) (e :: es) [] pos) (kCall S t) := by
  obtain ⟨f, fd, F, hm, hk, hb⟩ := D.ex
  have F := F.mono hl
  refine ⟨fun pins s σ H Q I ⟨G, M, R, E, hv, h, hR, hE⟩ => ?_⟩
  refine wpAny_Call_Name_kw (ld_glob I hg hm ?_ hdb)
  refine PySem.W.callWith_K (h₀ := X.base) I.ok.mod.kin hk (thn (ha.run pos pins s σ H (fun vs H1 => lift S vs H1 Q (WE W σ)) I ?_) fun us s1 ⟨vs, H1, I1, r, q⟩ => ⟨I1.kIn, ?_⟩) he hpl
  · exact ⟨G, M, _, E, hv, h, fun vs G1 M1 H1 hv1 q => ⟨G1, M1, R, E, hv1, q, hR, hE⟩, hE⟩
  have hl : us.length = ps.length := by rw [← r.length]; exact F.len _ _ _ _ q
  have b := hb s1 us I1.kIn (by rw [List.append_nil]; exact hl)
  rw [List.append_nil] at b
  refine wpAny_call (codeAny_mono (F.go (args := ⟨us, []⟩) hg0 hr I1.env0 b r q) fun r s' hq => ?_)
  match r, hq with
  | .error e, hq => exact passAt tk σ pins H1 s1 e s' I1 hq
  | .ok (.ret u), hq => exact I1.after hq
  | .ok .next, hq => exact False.elim hq
  | .ok .brk, hq => exact False.elim hq
  | .ok .cont, hq => exact False.elim hq
/-- repr of data -/
def kRepr (K : PySem.W.Frag) : KC := fun vs G M R => match vs with
  | [x] => ∃ (d : PyData), DatAt K G M x d ∧ d.showable = true ∧ d.hasDict = false ∧ d.depth ≤ 30 ∧ d.shown.length ≤ sizeLine ∧ R (.str d.shown) G M
  | _ => False
theorem kc_repr (hg : X.A.guards = some []) (hu : X.A.units + 64 < cLine) : KCall X (.builtin "repr") (kRepr X.K) := by
  intro pins s σ H vs us Q I r h
  obtain ⟨G, M, R, hv, h, hR⟩ := h
  match vs, h with
  | [x], ⟨d, h1, h2, h3, h4, h5, h6⟩ =>
    have hd := hv.dat h1
    cases r with
    | @cons _ u _ _ rx rr =>
      cases rr
      have fin : ∀ (h' : Heap) (t : Tok) (tk : Tok), (∀ b o, s.heap.get? b = some o → h'.get? b = some o) → EP X pins σ Q (.str d.shown t) { s with heap := h', toks := tk } := fun h' t tk hk => ⟨.str d.shown, H, I.kept hk, ⟨t, rfl⟩, hR _ _ _ _ hv h6⟩
      cases hd with
      | non =>
        obtain rfl : u = Value.none := rx
        exact PySem.P.repr_of_none (fin _ _ _ fun _ _ z => z)
      | bl b =>
        obtain rfl : u = Value.bool b := rx
        exact PySem.P.repr_of_bool (fin _ _ _ fun _ _ z => z)
      | int i =>
        obtain ⟨t, rfl⟩ := (show ∃ t, u = Value.int i t from rx)
        exact PySem.P.repr_of_int (of_decide_eq_true (by simpa [PyData.showable] using h2)) (fin _ _ _ fun _ _ z => z)
      | str z =>
        obtain ⟨t, rfl⟩ := (show ∃ t, u = Value.str z t from rx)
        exact PySem.P.repr_of_str (fin _ _ _ fun _ _ z => z) h5
      | @lst a xs ds h7 h8 =>
        obtain rfl : u = Value.ref a := rx
        obtain ⟨as, rd⟩ := Dp.reads I (.list ds) (.ref a) (.ref a) (.lst h7 h8) rfl
        exact repr_of_reads' rd h2 (fun z => by rw [h3] at z; cases z) hg (by omega) (fun _ _ z => z) (fun h' u tk hk => fin _ _ _ hk) h5
      | @tup a xs ds h7 h8 =>
        obtain rfl : u = Value.ref a := rx
        obtain ⟨as, rd⟩ := Dp.reads I (.tuple ds) (.ref a) (.ref a) (.tup h7 h8) rfl
        exact repr_of_reads' rd h2 (fun z => by rw [h3] at z; cases z) hg (by omega) (fun _ _ z => z) (fun h' u tk hk => fin _ _ _ hk) h5
end
end BT
namespace BT
open PySem PySem.Spec L2
open PyProof.Rows hiding St
/-- the law's own call, where nothing but the script is known of the heap -/
theorem call_known {P : Program} {w : World} {K : PySem.W.Frag} {mg mb : Str → Option Value} {k : Nat} {fa a : Addr} {fd : FuncData} {x : Str} {sp : Sp} {s : Shared} {us : List Value} {ns : List Int} (inK : K.In s.heap) (gl : s.heap.Ns mainGlobals mg) (bi : s.heap.Ns builtinsNs mb) (boot : ∀ x : Str, x ≠ "__name__" → mb x = bootBuiltins x)
    (nolim : s.heap.NoLimit) (gens : s.gens = #[]) (hobj : s.heap.get? a = some { cls := .type "list", data := .seq us.toArray }) (rm : Room k callerA) (F : ∀ base : Heap, K.In base → base.Ns mainGlobals mg → GFn P w K mg base k fa fd [x] sp) (bd : ∀ (s : Shared) (u : Value), BindsTo s fd ⟨[u], []⟩ [(x, u)])
    (H : Hp) (only : L2.Only H) (hs : sp [.ref a] H (fun v _ => v = .bl true) fun _ _ _ => False) (hok : HOk P w H s.heap) (one : ∀ b, H b ≠ none → b = a) (own : H a ≠ none → K.lookup a = none) :
    codeAny (model P w) callerA (.call (.ref fa) ⟨[.ref a], []⟩) (fun r s' => r = .ok (.ret (.bool true)) ∧ OldK s.heap s'.heap ∧ s'.os = s.os ∧ AllBare s'.gens) s := by
  have seen : ∀ {b : Addr} {o : Obj}, s.heap.get? b = some o → H b = none → (hidT s.heap H).get? b = some o := fun e z => hidT_get e z
  have nodict : ∀ {b : Addr} {o : Obj} {es : Array DictEntry} {ep : Nat}, s.heap.get? b = some o → o.data = .dict es ep → H b = none := fun {b o es ep} e dd => by
    apply Classical.byContradiction
    intro z
    have ba := one b z
    subst ba
    rw [hobj] at e
    cases e
    exact absurd (show Data.seq us.toArray _ = Data.dict es ep from dd) (by intro y; cases y)
  have ns2 : ∀ {b : Addr} {m : Str → Option Value}, s.heap.Ns b m → (hidT s.heap H).Ns b m := fun ⟨o, es, ep, e, dd, r⟩ => ⟨o, es, ep, seen e (nodict e dd), dd, r⟩
  have inB : K.In (hidT s.heap H) := fun b o e => seen (inK b o e) (by
    apply Classical.byContradiction
    intro z
    have ba := one b z
    subst ba
    rw [own z] at e
    cases e)
  obtain ⟨mc, l1, l2⟩ := nolim
  have md : Mod K mg (hidT s.heap H) := ⟨inB, ns2 gl, ⟨mb, ns2 bi, boot⟩, ⟨mc, ns2 l1, l2⟩⟩
  have en : Env0 P w K mg (hidT s.heap H) callerA [] s H := ⟨rfl, md, fun b o e => of_hidT e, Nat.le_of_eq (hidT_size _ _), trivial, (fun b z => nomatch z), hok, .of_eq gens⟩
  refine codeAny_mono ((F _ inB (ns2 gl)).go (args := ⟨[.ref a], []⟩) (us := [.ref a]) (vs := [.ref a]) rfl rm en (bd s (.ref a)) (.cons rfl .nil) hs) fun r s' h => ?_
  match r, h with
  | .error e, h => exact (cx_none h).elim
  | .ok .next, h => exact False.elim h
  | .ok .brk, h => exact False.elim h
  | .ok .cont, h => exact False.elim h
  | .ok (.ret u), ⟨v, H', h1, h2, un, h3, h4, h5⟩ =>
    have e5 : v = .bl true := h5
    subst e5
    obtain rfl : u = Value.bool true := h4
    refine ⟨rfl, OldK.of_keep fun b o e => ?_, h1, h2⟩
    by_cases z : H b = none
    · exact un.keep b o e z (fun y => nomatch y) (by simp)
    · rcases only b with y | ⟨ob, xs, y⟩
      · exact (z y).elim
      · obtain ⟨e1, _⟩ := hok b _ y
        obtain ⟨e2, _⟩ := h3 b _ (un.frzs b ob _ y)
        rw [e] at e1
        cases e1
        exact e2
theorem law_callG {P : Program} {w : World} {K : PySem.W.Frag} {mg mb : Str → Option Value} {k : Nat} {fa a : Addr} {fd : FuncData} {x : Str} {sp : Sp} {s : Shared} {us : List Value} {ns : List Int} (inK : K.In s.heap) (gl : s.heap.Ns mainGlobals mg) (bi : s.heap.Ns builtinsNs mb) (boot : ∀ x : Str, x ≠ "__name__" → mb x = bootBuiltins x)
    (nolim : s.heap.NoLimit) (gens : s.gens = #[]) (hobj : s.heap.get? a = some { cls := .type "list", data := .seq us.toArray }) (hi : IntsAre us ns) (hl : ns.length ≤ sizeLine) (rm : Room k callerA) (F : ∀ base : Heap, K.In base → base.Ns mainGlobals mg → GFn P w K mg base k fa fd [x] sp)
    (bd : ∀ (s : Shared) (u : Value), BindsTo s fd ⟨[u], []⟩ [(x, u)]) (hs : ∀ H : Hp, L2.Only H → SqL K H a (ns.map V.int) → sp [.ref a] H (fun v _ => v = .bl true) fun _ _ _ => False) :
    codeAny (model P w) callerA (.call (.ref fa) ⟨[.ref a], []⟩) (fun r s' => r = .ok (.ret (.bool true)) ∧ OldK s.heap s'.heap ∧ s'.os = s.os ∧ AllBare s'.gens) s := by
  have rv := L2.vals_ints hi
  by_cases own : K.lookup a = none
  · obtain ⟨H, hH⟩ : ∃ H : Hp, H = fun b => if b = a then some (.frz { cls := .type "list", data := .seq us.toArray } (.lst (ns.map V.int))) else none := ⟨_, rfl⟩
    have at_ : ∀ b, (b = a ∧ H b = some (.frz { cls := .type "list", data := .seq us.toArray } (.lst (ns.map V.int)))) ∨ (b ≠ a ∧ H b = none) := fun b => by
      rw [hH]
      by_cases z : b = a
      · exact .inl ⟨z, if_pos z⟩
      · exact .inr ⟨z, if_neg z⟩
    have atA : H a = some (.frz { cls := .type "list", data := .seq us.toArray } (.lst (ns.map V.int))) := by
      rcases at_ a with h | h
      · exact h.2
      · exact (h.1 rfl).elim
    have only : L2.Only H := fun b => (at_ b).elim (fun h => .inr ⟨_, _, h.2⟩) fun h => .inl h.2
    refine call_known (ns := ns) inK gl bi boot nolim gens hobj rm F bd H only (hs H only (.inl (.inr ⟨_, atA⟩))) (fun b u z => ?_) (fun b z => ?_) fun _ => own
    · rcases at_ b with h | h
      · rw [h.2] at z
        cases z
        rw [h.1]
        exact ⟨hobj, by rw [List.length_map]; exact hl, us, _, rv, hobj⟩
      · rw [h.2] at z
        cases z
    · rcases at_ b with h | h
      · exact h.1
      · exact (z h.2).elim
  · obtain ⟨o, ho⟩ : ∃ o, K.lookup a = some o := by
      cases e : K.lookup a with
      | none => exact (own e).elim
      | some o => exact ⟨o, rfl⟩
    have e := inK a o ho
    rw [hobj] at e
    cases e
    refine call_known (ns := ns) inK gl bi boot nolim gens hobj rm F bd (fun _ => none) (fun _ => .inl rfl) (hs _ (fun _ => .inl rfl) (.inr ⟨_, us.toArray, _, ho, rfl, rfl, rfl, ?_, by simpa using rv⟩)) (fun b u z => nomatch (show (none : Option HO) = some u from z)) (fun b z => (z rfl).elim) fun z => (z rfl).elim
    rw [List.size_toArray, hi.length]
    exact hl
theorem walk_ofG {l : PySem.W.OpenLaw} {n k : Nat} {q : Program} {loose : List Str} {XP : (Str → Option Value) → Heap → Prop} {YP : World → Heap → Prop} {d : DefRec} {K : Params → PySem.W.Frag} {sp : World → Sp} {x : Str} (hn : l.most = some n) (hn2 : n ≤ sizeLine) (hdf : d.params.defaults = []) (rm : Room k callerA)
    (hY : ∀ (w : World) (h : Heap), YP w h → (K w.params).In h) (F : ∀ (w : World) (mg : Str → Option Value) (fa : Addr) (h : Heap), (K w.params).In h → h.Ns mainGlobals mg → mg d.name = some (.ref fa) → ∃ fd : FuncData, (∀ (s : Shared) (u : Value), BindsTo s fd ⟨[u], []⟩ [(x, u)]) ∧ ∀ base : Heap, (K w.params).In base → base.Ns mainGlobals mg → GFn l.prog w (K w.params) mg base k fa fd [x] (sp w))
    (hsp : ∀ (w : World) (H : Hp) (a : Addr) (ns : List Int), ns.length ≤ n → L2.Only H → SqL (K w.params) H a (ns.map V.int) → sp w [.ref a] H (fun v _ => v = .bl true) fun _ _ _ => False) : PySem.W.WalkO q loose XP YP l.row.toRowW d [] (fun f vs => PySem.call f vs) := by
  refine Att.attach_call hn hdf fun w s₀ s₁ mg mb fa o pm cd doc a vs ns G Y ho hd hcd hmg hobj hints hlen hg => ?_
  obtain ⟨fd, hb, hF⟩ := F w mg fa _ (hY w _ Y) G.T.g hmg
  exact law_callG (hY w _ Y) G.T.g G.T.b G.T.builtins G.T.nolimit hg hobj hints (Nat.le_trans hlen hn2) rm hF hb fun H hO hS => hsp w H a ns hlen hO hS
end BT
namespace BT
open PySem PySem.Spec L2
/-! ### data that may be shown -/
structure Sho (p w : Nat) (d : PyData) : Prop where
  s : d.showable = true
  n : d.hasDict = false
  l : d.leavesShort 25 = true
  p : d.depth ≤ p
  w : d.weight ≤ w
theorem Sho.up {p p' w w' : Nat} {d : PyData} (h : Sho p w d) (hp : p ≤ p') (hw : w ≤ w') : Sho p' w' d := ⟨h.s, h.n, h.l, Nat.le_trans h.p hp, Nat.le_trans h.w hw⟩
theorem sho_int {i : Int} (h0 : 0 ≤ i) (h : i < 10 ^ 20) : Sho 0 70 (.int i) := by
  have hl : i.natAbs < 2 ^ 67 := by
    have : (10 : Int) ^ 20 < 2 ^ 67 := by decide
    have e : ((i.natAbs : Nat) : Int) = i := by omega
    have : ((i.natAbs : Nat) : Int) < ((2 ^ 67 : Nat) : Int) := by rw [e]; exact Int.lt_trans h this
    exact Int.ofNat_lt.mp this
  have h67 : i.natAbs ≠ 0 → i.natAbs.log2 < 67 := fun z => (Nat.log2_lt z).mpr hl
  have hlog : i.natAbs.log2 < 67 := by
    by_cases z : i.natAbs = 0
    · rw [z]; decide
    · exact h67 z
  refine ⟨?_, rfl, ?_, Nat.le_refl _, ?_⟩
  · show decide (i.natAbs.log2 < 1920) = true
    exact decide_eq_true (by omega)
  · show decide ((PyData.shown (.int i)).length ≤ 25) = true
    have := PyProof.Rows.toString_length_le h0 (k := 20) (by decide) h
    exact decide_eq_true (Nat.le_trans this (by decide))
  · show (if i == 0 then 0 else i.natAbs.log2 + 1) ≤ 70
    split <;> omega
theorem sho_non : Sho 0 0 .none := ⟨rfl, rfl, rfl, Nat.le_refl _, Nat.le_refl _⟩
theorem sho_bl {b : Bool} : Sho 0 0 (.bool b) := ⟨rfl, rfl, rfl, Nat.le_refl _, Nat.le_refl _⟩
theorem sho_all {p w : Nat} : ∀ {ds : List PyData}, (∀ d, d ∈ ds → Sho p w d) → PyData.showableAll ds = true ∧ PyData.hasDictAll ds = false ∧ PyData.leavesShortAll 25 ds = true ∧ PyData.depthAll ds ≤ p ∧ PyData.weightAll ds ≤ ds.length * (w + 1)
  | [], _ => ⟨rfl, rfl, rfl, Nat.zero_le _, Nat.zero_le _⟩
  | d :: ds, h => by
    obtain ⟨a1, a2, a3, a4, a5⟩ := sho_all fun x hx => h x (List.mem_cons_of_mem _ hx)
    have b := h d List.mem_cons_self
    refine ⟨?_, ?_, ?_, ?_, ?_⟩
    · show (d.showable && PyData.showableAll ds) = true
      rw [b.s, a1]; rfl
    · show (d.hasDict || PyData.hasDictAll ds) = false
      rw [b.n, a2]; rfl
    · show (d.leavesShort 25 && PyData.leavesShortAll 25 ds) = true
      rw [b.l, a3]; rfl
    · show max d.depth (PyData.depthAll ds) ≤ p
      have := b.p; omega
    · show d.weight + 1 + PyData.weightAll ds ≤ (ds.length + 1) * (w + 1)
      have := b.w
      rw [Nat.succ_mul]; omega
theorem sho_list {p w : Nat} {ds : List PyData} (h : ∀ d, d ∈ ds → Sho p w d) : Sho (p + 1) (ds.length * (w + 1)) (.list ds) := by
  obtain ⟨a1, a2, a3, a4, a5⟩ := sho_all h
  exact ⟨a1, a2, a3, Nat.succ_le_succ a4, a5⟩
theorem sho_tup {p w : Nat} {ds : List PyData} (h : ∀ d, d ∈ ds → Sho p w d) : Sho (p + 1) (ds.length * (w + 1)) (.tuple ds) := by
  obtain ⟨a1, a2, a3, a4, a5⟩ := sho_all h
  exact ⟨a1, a2, a3, Nat.succ_le_succ a4, a5⟩
theorem repr_sho {K : PySem.W.Frag} {G : Hp} {M : Mem} {R : KR} {x : V} {d : PyData} {p w : Nat} (h : DatAt K G M x d) (s : Sho p w d) (hp : p ≤ 30) (hw : w ≤ 600000) (q : R (.str d.shown) G M) : kRepr K [x] G M R :=
  ⟨d, h, s.s, s.n, Nat.le_trans s.p hp, Nat.le_trans (PyData.shown_le 25 (by decide) d s.l) (Nat.le_trans (m := (25 + 2) * 600000 + 25) (Nat.add_le_add_right (Nat.mul_le_mul_left _ (Nat.le_trans s.w hw)) _) (by decide)), q⟩
end BT
set_option Elab.async false
set_option linter.all false
set_option maxRecDepth 100000
set_option maxHeartbeats 4000000
/-! texts: str(int), sep.join(list), text.split(sep), f-strings, x or y for texts -/
namespace BT
open PySem PySem.Spec L2
open PyProof.Rows hiding St
section
variable {X : Cx} {W : WX} {e o a b : Expr} {pos apos : Pos} {rest : List Expr}
def kStr : KC := fun vs G M R => match vs with
  | [.int i] => i.natAbs.log2 < 1920 ∧ R (.str (toString i)) G M
  | _ => False
theorem kc_str : KCall X (.type "str") kStr := kcall_of call_str_int fun vs G M R H Q hv h hR => by
  match vs, h with
  | [.int i], ⟨h1, h2⟩ => exact ⟨i, rfl, h1, hR _ G M H hv h2⟩
def kSM1 (r : KM) (to te : KE) : KE := fun σ G M R E => to σ G M (fun x G M => (∃ a, x = .str a) ∧ te σ G M (fun y G M => r x [y] G M R) E) E
def kJoin (K : PySem.W.Frag) : KM := fun x vs G M R => match x, vs with
  | .str a, [.ref p] => ∃ ys : List Str, SeqAt' K G M p (ys.map V.str) ∧ (ys.map (·.length)).sum + ys.length * a.length ≤ 16777216 ∧ R (.str (Txt.join a ys)) G M
  | _, _ => False
theorem je_join {to te : KE} (ho : JE X W o to) (he : JE X W e te) (hs : starEach [e] X.env = [(false, eval e X.env)] := by rfl) (hbase : attributeBase o "join" X.env (eval o X.env) = eval o X.env := by rfl) (hline : (apos.endLine == pos.line) = true := by rfl) :
    JE X W (.Call (.Attribute o "join" apos) [e] [] pos) (kSM1 (kJoin X.K) to te) :=
  pe_mono (pe_join ho he hs hbase hline) fun σ H Q ⟨G, M, R, E, hv, h, hR, hE⟩ => ⟨G, M, _, E, hv, h, fun x G1 M1 H1 hv1 ⟨hx, h1⟩ => ⟨hx, G1, M1, _, E, hv1, h1, fun y G2 M2 H2 hv2 h2 => by
    obtain ⟨a, rfl⟩ := hx
    cases y <;> first
      | exact h2.elim
      | (obtain ⟨ys, h3, h4, h5⟩ := h2
         exact ⟨a, _, ys, rfl, rfl, h3.elim (fun q => .inl (hv2.lst q)) (fun q => .inr (hv2.tup q)), h4, hR _ G2 M2 H2 hv2 h5⟩), hE⟩, hE⟩
def kSplit : KM := fun x vs G M R => match x, vs with
  | .str a, [.str b] => (b.length == 0) = false ∧ a.length + 2 ≤ sizeLine ∧ ∀ p, Fr G M p → R (.ref p) G ((p, .lst ((Txt.split a b).map V.str)) :: M)
  | _, _ => False
theorem je_split {to te : KE} (ho : JE X W o to) (he : JE X W e te) (hs : starEach [e] X.env = [(false, eval e X.env)] := by rfl) (hbase : attributeBase o "split" X.env (eval o X.env) = eval o X.env := by rfl) (hline : (apos.endLine == pos.line) = true := by rfl) :
    JE X W (.Call (.Attribute o "split" apos) [e] [] pos) (kSM1 kSplit to te) :=
  pe_mono (pe_m1 F.slot_str_split F.type_str_split mt_split ho he hs hbase hline) fun σ H Q ⟨G, M, R, E, hv, h, hR, hE⟩ => ⟨G, M, _, E, hv, h, fun x G1 M1 H1 hv1 ⟨hx, h1⟩ => ⟨hx, G1, M1, _, E, hv1, h1, fun y G2 M2 H2 hv2 h2 => by
    obtain ⟨a, rfl⟩ := hx
    cases y <;> first
      | exact h2.elim
      | (obtain ⟨h3, h4, h5⟩ := h2
         exact ⟨a, _, rfl, rfl, h3, h4, fun p hp => hR _ G2 _ _ (hv2.newM hp) (h5 p (hv2.fr hp))⟩), hE⟩, hE⟩
def kFmt (te : KE) : KE := fun σ G M R E => te σ G M (fun x G M => match x with
  | .str y => y.length ≤ sizeLine ∧ R (.str y) G M
  | .int i => i.natAbs.log2 < 1920 ∧ R (.str (toString i)) G M
  | _ => False) E
theorem je_fmt {te : KE} (he : JE X W e te) : JE X W (.FormattedValue e (-1) none pos) (kFmt te) :=
  pe_mono (pe_fmt he) fun σ H Q ⟨G, M, R, E, hv, h, hR, hE⟩ => ⟨G, M, _, E, hv, h, fun x G1 M1 H1 hv1 h1 => by
    cases x <;> first
      | exact h1.elim
      | exact .inl ⟨_, rfl, h1.1, hR _ G1 M1 H1 hv1 h1.2⟩
      | exact .inr ⟨_, rfl, h1.1, hR _ G1 M1 H1 hv1 h1.2⟩, hE⟩
/-- the parts of an f-string -/
def kJs : List KE → Str → St → Hp → Mem → (Str → Hp → Mem → Prop) → KX → Prop
  | [], acc, _, G, M, R, _ => R acc G M
  | t :: ts, acc, σ, G, M, R, E => t σ G M (fun x G M => match x with
    | .str y => (acc ++ y).length ≤ sizeLine ∧ kJs ts (acc ++ y) σ G M R E
    | _ => False) E
def kJoined (ts : List KE) : KE := fun σ G M R E => kJs ts Str.empty σ G M (fun s G M => R (.str s) G M) E
inductive JJ (X : Cx) (W : WX) : List Expr → List KE → Prop where
  | nil : JJ X W [] []
  | cons {e : Expr} {t : KE} {es : List Expr} {ts : List KE} (h : JE X W e t) (r : JJ X W es ts) : JJ X W (e :: es) (t :: ts)
theorem jj_pj {es : List Expr} {ts : List KE} (h : JJ X W es ts) : PJ X es (ts.map (upG W)) := by
  induction h with
  | nil => exact .nil
  | cons h _ ih => exact .cons h ih
theorem js_sim {σ : St} {Q : VK} {R : KR} {E : KX} (hR : ∀ v G M H, Hv G M H → R v G M → Q v H) (hE : ∀ c a G M H, Hv G M H → E c a G M → W c a σ H) : ∀ (ts : List KE) (acc : Str) (G : Hp) (M : Mem) (H : Hp), Hv G M H → kJs ts acc σ G M (fun s G M => R (.str s) G M) E → tJs (ts.map (upG W)) acc σ H (fun out H1 => Q (.str out) H1)
  | [], acc, G, M, H, hv, h => hR _ G M H hv h
  | t :: ts, acc, G, M, H, hv, h => ⟨G, M, _, E, hv, h, fun x G1 M1 H1 hv1 h1 => by
      cases x <;> first
        | exact h1.elim
        | exact ⟨_, rfl, h1.1, js_sim hR hE ts _ G1 M1 H1 hv1 h1.2⟩, hE⟩
theorem je_joined {v1 v2 : Expr} {ts : List KE} (h : JJ X W (v1 :: v2 :: rest) ts) : JE X W (.JoinedStr (v1 :: v2 :: rest) pos) (kJoined ts) :=
  pe_mono (pe_joined (jj_pj h)) fun σ H Q ⟨G, M, R, E, hv, h, hR, hE⟩ => js_sim hR hE ts Str.empty G M H hv h
/-- a text, or else another value -/
def kOrT (t u : KE) : KE := fun σ G M R E => t σ G M (fun x G M => match x with
  | .str y => y.length ≤ sizeLine ∧ if ((y.length : Int) != 0) = true then R x G M else u σ G M R E
  | _ => False) E
theorem je_orT {t u : KE} (ha : JE X W a t) (hb : JE X W (.BoolOp .Or (b :: rest) pos) u) : JE X W (.BoolOp .Or (a :: b :: rest) pos) (kOrT t u) :=
  pe_mono (pe_orT ha hb) fun σ H Q ⟨G, M, R, E, hv, h, hR, hE⟩ => ⟨G, M, _, E, hv, h, fun x G1 M1 H1 hv1 h1 => by
    cases x <;> first
      | exact h1.elim
      | (obtain ⟨h2, h3⟩ := h1
         refine ⟨_, ⟨h2, rfl⟩, ?_⟩
         split
         · rename_i e; rw [if_pos e] at h3; exact hR _ G1 M1 H1 hv1 h3
         · rename_i e; rw [if_neg e] at h3; exact ⟨G1, M1, R, E, hv1, h3, hR, hE⟩), hE⟩
end
end BT
set_option Elab.async false
set_option linter.all false
set_option maxRecDepth 100000
set_option maxHeartbeats 4000000
/-! texts that are walked, measured, cut, read as numbers; a thing in a list of data -/
namespace BT
open PySem PySem.Spec L2
open PyProof.Rows hiding St
section
variable {X : Cx} {W : WX} {e tg : Expr} {pos p2 : Pos}
def kLenS : KC := fun vs G M R => match vs with
  | [.str z] => z.length ≤ sizeLine ∧ R (.int z.length) G M
  | _ => False
theorem kc_lenS : KCall X (.builtin "len") kLenS := kcall_of call_len fun vs G M R H Q hv h hR => by
  match vs, h with
  | [.str z], ⟨h1, h2⟩ => exact ⟨_, _, rfl, ⟨h1, rfl⟩, hR _ G M H hv h2⟩
/-- int(text) -/
def kIntS : KC := fun vs G M R => match vs with
  | [.str a] => ∃ n, PySem.intText? a = some n ∧ a.length ≤ 640 ∧ R (.int n) G M
  | _ => False
theorem kc_intS : KCall X (.type "int") kIntS := kcall_of call_int_str fun vs G M R H Q hv h hR => by
  match vs, h with
  | [.str a], ⟨n, h1, h2, h3⟩ => exact ⟨a, n, rfl, h1, h2, hR _ G M H hv h3⟩
/-- a text, sign by sign -/
def srcS (x : Str) : Src := ⟨x.cps.size, fun i => .inl (.str ⟨#[x.cps.toList.getD i 0]⟩), fun _ _ => True⟩
theorem goes_S {x : Str} : Goes (srcS x) (Its x) where
  go := fun i G M H hv ok hi => hi
  stop := fun i G M H hv ok hi => hi
  yld := fun i G M H y H' hv ok hi q => by
    obtain ⟨e1, c, e2, e3⟩ := q
    refine ⟨?_, e1⟩
    rw [e3]
    have e4 : x.cps.toList.getD i 0 = c := by rw [List.getD_eq_getElem?_getD, Array.getElem?_toList, e2]; rfl
    rw [e4]
def kiStr (t : KE) : KI := fun σ G M R E => t σ G M (fun x G M => match x with
  | .str z => R (srcS z) G M
  | _ => False) E
theorem ji_str {t : KE} (h : JE X W e t) : JI X W tg e (kiStr t) := pi_mono (pi_str h) fun σ H Q ⟨G, M, R, E, hv, h, hR, hE⟩ => ⟨G, M, _, E, hv, h, fun x G1 M1 H1 hv1 q => by
    cases x <;> first
      | exact q.elim
      | exact ⟨_, rfl, hR _ G1 M1 H1 hv1 q _ goes_S⟩, hE⟩
/-- one sign in a text -/
def kInS (neg : Bool) : KR2 := fun x y G M R => match x, y with
  | .str s, .str z => ∃ c : Nat, s = ⟨#[c]⟩ ∧ R (.bl (if neg then !decide (c ∈ z.cps.toList) else decide (c ∈ z.cps.toList))) G M
  | _, _ => False
theorem kop_inS : KOp X (compareOp .In) (kInS false) := kop_of op_in_sign fun x y G M R H Q hv h hR => by
  cases x <;> cases y <;> first
    | exact h.elim
    | (obtain ⟨c, h1, h2⟩ := h
       subst h1
       exact ⟨c, _, rfl, rfl, hR _ G M H hv h2⟩)
theorem kop_notinS : KOp X (compareOp .NotIn) (kInS true) := kop_of op_notIn_sign fun x y G M R H Q hv h hR => by
  cases x <;> cases y <;> first
    | exact h.elim
    | (obtain ⟨c, h1, h2⟩ := h
       subst h1
       exact ⟨c, _, rfl, rfl, hR _ G M H hv h2⟩)
/-- a cut of a text -/
def kSlS (t : KE) (tl th : KO) : KE := fun σ G M R E => t σ G M (fun x G M => tl σ G M (fun l G M => th σ G M (fun u G M => match x with
  | .str z => z.length ≤ sizeLine ∧ R (.str (cutS z l u)) G M
  | _ => False) E) E) E
theorem je_sliceS {t : KE} {lo hi : Option Expr} {tl th : KO} (he : JE X W e t) (hl : JO X W lo tl) (hu : JO X W hi th) : JE X W (.Subscript e (.Slice lo hi none p2) pos) (kSlS t tl th) :=
  pe_mono (pe_slice sl_str he hl hu) fun σ H Q ⟨G, M, R, E, hv, h, hR, hE⟩ => ⟨G, M, _, E, hv, h, fun x G1 M1 H1 hv1 h1 => ⟨G1, M1, _, E, hv1, h1, fun l G2 M2 H2 hv2 h2 => ⟨G2, M2, _, E, hv2, h2, fun u G3 M3 H3 hv3 h3 => by
    cases x <;> first
      | (obtain ⟨q1, q2⟩ := h3
         exact ⟨_, rfl, q1, hR _ G3 M3 H3 hv3 q2⟩)
      | exact h3.elim, hE⟩, hE⟩, hE⟩
/-- a thing in a list of data -/
def kInD (neg : Bool) (K : PySem.W.Frag) : KR2 := fun x y G M R => ∃ (d : PyData) (ds : List PyData), DatAt K G M x d ∧ DatAt K G M y (.list ds) ∧ SeqAt.shaped d = true ∧ SeqAt.shaped (.list ds) = true ∧ R (.bl (if neg then !(ds.any fun z => PyData.eqv z d) else ds.any fun z => PyData.eqv z d)) G M
theorem kop_inD (hu : X.A.units + 65 < cLine) : KOp X (compareOp .In) (kInD false X.K) := kop_of (op_inD hu) fun x y G M R H Q hv ⟨d, ds, h1, h2, h3, h4, h5⟩ hR => ⟨d, ds, hv.dat h1, hv.dat h2, h3, h4, hR _ G M H hv h5⟩
theorem kop_notinD (hu : X.A.units + 65 < cLine) : KOp X (compareOp .NotIn) (kInD true X.K) := kop_of (op_notInD hu) fun x y G M R H Q hv ⟨d, ds, h1, h2, h3, h4, h5⟩ hR => ⟨d, ds, hv.dat h1, hv.dat h2, h3, h4, hR _ G M H hv h5⟩
theorem units65 {k : Nat} {A : Around} (r : Room k A) : A.units + 65 < cLine := by have := r.un; omega
end
theorem asg_S {z : Str} {i c : Nat} {g : KG} {σ : St} {G : Hp} {M : Mem} {R : St → Hp → Mem → Prop} (h : z.cps.toList[i]? = some c) (q : g.val (.str ⟨#[c]⟩) σ G M R) : asg g ((srcS z).get i) σ G M R := by
  show g.val (.str ⟨#[z.cps.toList.getD i 0]⟩) σ G M R
  rw [List.getD_eq_getElem?_getD, h]; exact q
end BT
set_option Elab.async false
set_option linter.all false
set_option maxRecDepth 100000
set_option maxHeartbeats 4000000
/-! KL32: errors with a place: class C(B): def __init__(self, at): B.__init__(self, 'text'); self.at = at -/
namespace BT
open PySem PySem.Spec L2
open PyProof.Rows hiding St
/-- what is known of the class -/
structure XI (K : PySem.W.Frag) (x : Str) : Prop where
  T : OexC K (cl K x)
  no : PySem.W.findIn K (.ref (cl K x)) "at" = some none
  f : XfC K (cl K x)
/-- what is known of the class above it -/
structure XB (K : PySem.W.Frag) (mg : Str → Option Value) (x : Str) : Prop where
  g : mg x = some (.ref (cl K x))
  rd : PySem.W.readsIn K (cl K x) (.type "type") = true
  ga : PySem.W.specialIn K (.ref (cl K x)) "__getattribute__" = some (some (.builtin "type.__getattribute__"))
  fi : PySem.W.findCls K (.ref (cl K x)) (.type "type") "__init__" = some (.val (.builtin "ValueError.__init__"))
/-- the promise of its __init__ -/
def S_xat (x : Str) (K : PySem.W.Frag) : KSp := sp2 fun u v G M R _ => ∃ (a : Addr) (F : Mem), u = .ref a ∧ M = (a, exo a (cl K x) none) :: F ∧ ∀ dx, Fr G M dx → R .non G ((dx, exd dx [("at", v)]) :: (a, exo a (cl K x) (some dx)) :: F)
/-- its __init__, to be called -/
structure IDef (P : Program) (w : World) (K : PySem.W.Frag) (mg : Str → Option Value) (base : Heap) (lev : Nat) (x : Str) : Prop where
  ex : ∃ f fd ps, FnOk P w K mg base (L2.CX P w) lev f fd ps (lift (S_xat x K)) ∧ PySem.W.findIn K (.ref (cl K x)) "__init__" = some (some (.ref f)) ∧ PySem.W.typeIn K (.ref f) = some (.type "function") ∧ Binds K fd ps []
/-- B.__init__(self, ..) -/
def kVeI (C : Addr) (t : KA) : KE := fun σ G M R E => t σ G M (fun vs G M => ∃ (a : Addr) (ws : List V), vs = .ref a :: ws ∧ ws.length ≤ 1000 ∧ At G M a (exo a C none) ∧ R .non G M) E
/-- self.at = e, the first one -/
def kSetAt (C : Addr) (u t : KE) : KS := fun D σ G M => t σ G M (fun v G M => u σ G M (fun x G M => ∃ (a : Addr) (n : Nat), x = .ref a ∧ M[n]? = some (a, exo a C none) ∧ ∀ dx, Fr G M dx → D.nx σ G ((dx, exd dx [("at", v)]) :: M.set n (a, exo a C (some dx)))) (D.x σ)) (D.x σ)
/-- raise C(e) -/
def kRaiseX (K : PySem.W.Frag) (x : Str) (t : KA) : KS := fun D σ G M => t σ G M (fun vs G M => ∃ v, vs = [v] ∧ ∀ d, Fr G M d → D.xc (.ref (cl K x)) (some d) σ (upd G d (.xd [("at", v)])) M) (D.x σ)
/-- e.at, e an error that is held -/
def kXAt (K : PySem.W.Frag) (xs : List Str) (t : KE) : KE := fun σ G M R E => t σ G M (fun u G M => ∃ x ∈ xs, ∃ (a dd : Addr) (v : V), u = .ref a ∧ At G M a (ErA K x (some dd) a) ∧ At G M dd (.xd [("at", v)]) ∧ R v G M) E
/-- isinstance(v, C), where v is an error that is held (with a place or without), or None -/
def kIsXd (K : PySem.W.Frag) (c : V) (tab : List (Str × Bool)) : KC := fun vs G M R => match vs with
  | [.non, c'] => c' = c ∧ R (.bl false) G M
  | [.ref a, c'] => c' = c ∧ ∃ p ∈ tab, ∃ d : Option Addr, At G M a (ErA K p.1 d a) ∧ (d = none ∨ ∃ dd fs, d = some dd ∧ At G M dd (.xd fs)) ∧ R (.bl p.2) G M
  | _ => False
section
variable {X : Cx} {W : WX} {pos p apos p' : Pos} {x y : Str} {e o : Expr} {es : List Expr}
theorem je_veI {pl : Sem Bool} {t : KA} (T : OexC X.K (cl X.K y)) (B : XB X.K X.mg x) (ha : JA X W (e :: es) t) (hg : Gl X x := by rfl)
    (hdb : (x == ("__debug__" : Str)) = false := by decide) (hst : starEach (e :: es) X.env = (false, eval e X.env) :: starEach es X.env := by rfl) (hpl : (backTo pos (starEach es X.env)).any (·.1) = false := by rfl)
    (ht : eval (.Call (.Attribute (.Name x p) "__init__" apos) (e :: es) [] pos) X.env = (do
      let ov ← eval (.Name x p) X.env
      standAt apos.atName
      let (f, first) ← holding [ov] (getMethod ov "__init__" pl)
      callWith pos f first (backTo pos (starEach (e :: es) X.env)) (backToKw pos (keywordEach [] X.env))) := by rfl) :
    JE X W (.Call (.Attribute (.Name x p) "__init__" apos) (e :: es) [] pos) (kVeI (cl X.K y) t) := by
  refine ⟨fun pins s σ H Q I ⟨G, M, R, E, hv, h, hR, hE⟩ => ?_⟩
  refine PySem.W.methodCall_KW (pl := pl) (ld_glob I hg B.g ?_ hdb) ht
  refine PySem.W.method_cls I.kIn B.ga (PySem.W.cls_value I.kIn B.rd B.fi rfl ?_)
  show wpAny _ _ (callWith pos (Value.builtin "ValueError.__init__") [] (backTo pos (starEach (e :: es) X.env)) []) _ _ _
  refine PyProof.Rows.callWith_method1 (thn (ha.run pos pins _ σ H (fun vs H1 => ∃ (a : Addr) (ws : List V) (G1 : Hp) (M1 : Mem), vs = .ref a :: ws ∧ ws.length ≤ 1000 ∧ H1 a = some (exo a (cl X.K y) none) ∧ Hv G1 M1 H1 ∧ R .non G1 M1) (I.tok _) ?_) fun us s1 ⟨vs, H1, I1, r1, a, ws, G1, M1, ev, hl, ea, hv1, q⟩ => ?_) hst hpl
  · exact ⟨G, M, _, E, hv, h, fun vs G1 M1 H1 hv1 ⟨a, ws, e1, hl, ha, q⟩ => ⟨a, ws, G1, M1, e1, hl, hv1.at ha, hv1, q⟩, hE⟩
  · subst ev
    cases r1 with
    | @cons _ u0 _ ur ra rw' =>
      obtain rfl : u0 = Value.ref a := ra
      have hlen : ur.length ≤ sizeLine := by
        rw [← Paired.length rw', sizeLine_eq]
        omega
      exact oinit_ok T I1 ea hlen fun s' J => ⟨.non, H1, J, rfl, hR _ _ _ _ hv1 q⟩
theorem js_setAt {u t : KE} (T : XI X.K y) (ho : JE X W o u) (he : JE X W e t) (hs : swapsWith e (some (.Attribute o "at" p')) pos.line X.env = pure false := by rfl) : JS X W (.Assign [.Attribute o "at" p'] e pos) (kSetAt (cl X.K y) u t) :=
  ps_mono (ps_ost ho he hs) fun D σ H ⟨G, M, d, hv, h, en⟩ => by
    refine ⟨G, M, _, _, hv, h, fun v G1 M1 H1 hv1 q1 => ⟨G1, M1, _, _, hv1, q1, fun x' G2 M2 H2 hv2 ⟨a, n, ex, hn, q2⟩ => ?_, fun c a G' M' H' hv' q => en.xc c a σ G' M' H' hv' q⟩, fun c a G' M' H' hv' q => en.xc c a σ G' M' H' hv' q⟩
    refine ⟨a, cl X.K y, ex, T.T, T.no, .inl ⟨hv2.get hn, fun dx n1 n2 => ?_⟩⟩
    refine en.nx σ _ _ _ ?_ (q2 dx (hv2.fr n1))
    exact (hv2.newM (o := exd dx [("at", v)]) n1).set (n := n + 1) (by rw [List.getElem?_cons_succ]; exact hn)
theorem js_raiseX {k lev : Nat} {t : KA} {pos2 : Pos} (g : XG X.K X.mg x) (T : XI X.K x) (D : IDef X.prog X.w X.K X.mg X.base lev x) (hr : Room k X.A) (tk : Takes X W) (ha : JA X W [e] t) (hl : lev + 1 ≤ k := by decide) (hc : X.calm = true := by rfl) (hg : Gl X x := by rfl)
    (hdb : (x == ("__debug__" : Str)) = false := by decide) (he : starEach [e] X.env = (false, eval e X.env) :: starEach [] X.env := by rfl) (hpl : (backTo pos2 (starEach [] X.env)).any (·.1) = false := by rfl) :
    JS X W (.Raise (some (.Call (.Name x p) [e] [] pos2)) none pos) (kRaiseX X.K x t) := by
  obtain ⟨f, fd, ps, F, hf, hty, hb⟩ := D.ex
  refine ps_mono (ps_raise hc tk (pmk_oex (CX := L2.CX X.prog X.w) (dvs := []) (ds := []) T.T hf hty F (hr.mono hl) hb .nil (fun _ _ _ _ _ _ _ z => (cx_none z).elim) hg g.g ha hdb he hpl)) fun D σ H ⟨G, M, d, hv, h, en⟩ => ?_
  refine ⟨G, M, _, _, hv, h, fun vs G1 M1 H1 hv1 ⟨v, ev, q⟩ => ?_, fun c a G' M' H' hv' q => en.xc c a σ G' M' H' hv' q⟩
  subst ev
  refine ⟨by simp, fun a na => ?_⟩
  refine ⟨H1, [(a, exo a (cl X.K x) none)], fun v' G' M' => v' = .non ∧ ∃ dx, Fr H1 [(a, exo a (cl X.K x) none)] dx ∧ G' = H1 ∧ M' = [(dx, exd dx [("at", v)]), (a, exo a (cl X.K x) (some dx))], fun _ _ _ _ => False, (Hv.self H1).newM na, ⟨a, [], rfl, rfl, fun dx fd => ⟨rfl, dx, fd, rfl, rfl⟩⟩, fun v' G' M' H2 hv2 ⟨e1, dx, fd, eG, eM⟩ => ?_, fun _ _ _ _ _ _ z => z⟩
  subst e1
  subst eG
  subst eM
  have hda : dx ≠ a := fun z => fd.2 _ List.mem_cons_self z.symm
  refine ⟨rfl, dx, [("at", v)], hv2.mu (a, exo a (cl X.K x) (some dx)) (by simp), hv2.mu (dx, exd dx [("at", v)]) (by simp), fd.1, ?_⟩
  have keep : ∀ b o, G' b = some o → (upd (del H2 a) dx (.xd [("at", v)])) b = some o := fun b o z => by
    rw [upd_ne (ne_of_none z fd.1), del_ne (ne_of_none z na)]
    exact hv2.ex b o z
  refine en.xc (.ref (cl X.K x)) (some dx) σ _ _ _ ⟨fun b o z => ?_, fun y hy => keep _ _ (hv1.mu y hy), hv1.nd, fun y hy => ?_⟩ (q dx (hv1.fr fd.1))
  · by_cases hb : b = dx
    · subst hb; rw [upd_same] at z ⊢; exact z
    · rw [upd_ne hb] at z
      exact keep b o (hv1.ex b o z)
  · rw [upd_ne (ne_of_none (hv1.mu y hy) fd.1)]
    exact hv1.dj y hy
theorem je_xat {xs : List Str} {t : KE} (hx : ∀ x ∈ xs, XI X.K x) (he : JE X W e t) (hb : attributeBase e "at" X.env (eval e X.env) = eval e X.env := by rfl) : JE X W (.Attribute e "at" pos) (kXAt X.K xs t) := by
  refine ⟨fun pins s σ H Q I ⟨G, M, R, E, hv, h, hR, hE⟩ => ?_⟩
  refine attr_of hb (thn (he.run pins s σ H (fun u H1 => ∃ x ∈ xs, ∃ (G1 : Hp) (M1 : Mem) (a dd : Addr) (v : V), u = .ref a ∧ Hv G1 M1 H1 ∧ At G1 M1 a (ErA X.K x (some dd) a) ∧ At G1 M1 dd (.xd [("at", v)]) ∧ R v G1 M1) I ?_) fun u s1 hh => ?_)
  · exact ⟨G, M, _, E, hv, h, fun u G1 M1 H1 hv1 ⟨x, hm, a, dd, v, h1, h2, h3, h4⟩ => ⟨x, hm, G1, M1, a, dd, v, h1, hv1, h2, h3, h4⟩, hE⟩
  obtain ⟨u', H1, I1, rx, x, hm, G1, M1, a, dd, v, ex, hv1, h2, h3, q⟩ := hh
  subst ex
  obtain rfl : u = Value.ref a := rx
  have T := hx x hm
  obtain ⟨⟨oe, vs, hget, hz, hd⟩, _, _⟩ := I1.hok a _ (hv1.at h2)
  have hxd : ObjOk X.prog X.w H1 s1.heap dd (.xd [("at", v)]) := I1.hok dd _ (hv1.at h3)
  obtain ⟨mA, hns, hr⟩ := hxd
  obtain ⟨od, ho, hl⟩ := lookIn_ns hns
  obtain ⟨u, hu, ru⟩ := RelO.some_of (v := v) (o := mA "at") (hr "at")
  have J : PySem.W.InstAt s1.heap a oe (cl X.K x) (some od) := ⟨hget, hz.1, by unfold PySem.W.notCls; rw [hd] <;> rfl, by rw [hz.2]; exact ho⟩
  exact HandSPX.exc_get I1.kIn J T.f.ga T.f.gg T.f.exC (PySem.W.findObj_own T.f.hdC T.no rfl (by rw [hl, hu])) (handed_of ru) ⟨v, H1, I1.tok _, ru, hR _ _ _ _ hv1 q⟩
theorem kc_isXd {tab : List (Str × Bool)} {c : V} {cv : Value} (hcv : ClsV c cv) (hn : PySem.W.kitOne X.K (.type "NoneType") cv = some false)
    (ht : ∀ p ∈ tab, ExcC X.K (cl X.K p.1) ∧ PySem.W.kitOne X.K (.ref (cl X.K p.1)) cv = some p.2) : KCall X (.builtin "isinstance") (kIsXd X.K c tab) := by
  intro pins s σ H xs us Q I r h
  obtain ⟨G, M, R, hv, h, hR⟩ := h
  match xs, h with
  | [.non, c'], h2 =>
    obtain ⟨rfl, h3⟩ := h2
    exact (call_isi (X := X)) pins s σ H [.non, c'] _ Q I r ⟨_, _, .type "NoneType", _, false, rfl, hcv, .base .non, hn, hR _ _ _ _ hv h3⟩
  | [.ref a, c'], h2 =>
    obtain ⟨rfl, p, hp, d, ha, hd2, h3⟩ := h2
    cases r with
    | cons rx rr =>
      cases rr with
      | cons rt rr =>
        cases rr
        have ec := hcv.eq rt
        subst ec
        cases rx
        obtain ⟨C, e⟩ := ht p hp
        obtain ⟨⟨oe, vs, hget, hz, hd⟩, _, _⟩ := I.hok a _ (hv.at ha)
        have hcl : (PySem.W.clsIn X.K (cl X.K p.1)).isSome = true := by
          obtain ⟨cd, hc, _⟩ := PySem.W.any_some C.hd
          rw [hc]; rfl
        have J : ∃ od, PySem.W.InstAt s.heap a oe (cl X.K p.1) od := by
          rcases hd2 with rfl | ⟨dd, fs, rfl, hxd⟩
          · exact ⟨none, hget, hz.1, by unfold PySem.W.notCls; rw [hd] <;> rfl, by rw [hz.2]; trivial⟩
          · have hx : ObjOk X.prog X.w H s.heap dd (.xd fs) := I.hok dd _ (hv.at hxd)
            obtain ⟨mA, hns, hr⟩ := hx
            obtain ⟨od, ho, hl⟩ := lookIn_ns hns
            exact ⟨some od, hget, hz.1, by unfold PySem.W.notCls; rw [hd] <;> rfl, by rw [hz.2]; exact ho⟩
        obtain ⟨od, J⟩ := J
        exact PySem.W.kia_one (PySem.W.kitx_exc hcl C.hg C.hk C.hs C.ha C.hn C.ht C.hm) I.kIn J e (fun z => nomatch z) fun tk => ⟨.bl p.2, H, I.kept (t' := tk) fun _ _ z => z, rfl, hR _ _ _ _ hv h3⟩
end
section
variable {P : Program} {w : World} {K : PySem.W.Frag} {mg : Str → Option Value} {base : Heap} {lev : Nat} {x : Str} {C f : Addr} {fd : FuncData} {ps : List Str}
theorem xb_mk (a : PySem.W.nsIn K mainGlobals x = some (some (.ref C))) (g : mg x = some (.ref C)) (h1 : PySem.W.readsIn K C (.type "type") = true) (h2 : PySem.W.specialIn K (.ref C) "__getattribute__" = some (some (.builtin "type.__getattribute__")))
    (h3 : PySem.W.findCls K (.ref C) (.type "type") "__init__" = some (.val (.builtin "ValueError.__init__"))) : XB K mg x := by
  have e := cl_of a
  exact ⟨by rw [e]; exact g, by rw [e]; exact h1, by rw [e]; exact h2, by rw [e]; exact h3⟩
theorem xi_mk {nm q : Str} {N : Addr} {bs bm : List Value} {sn : List Str} {sub : List Value} {ab : Bool} {col : Option Bool} {dd : Option Addr} {k0 k1 k2 k3 k5 : Option Value} (a : PySem.W.nsIn K mainGlobals x = some (some (.ref C)))
    (l : K.lookup C = some (excClassObj nm q C N bs bm true sn sub ab col dd k0 k1 k2 k3 k5 "ValueError.__new__")) (r : PySem.HandSPX.refsVE bm = true) (sa : PySem.W.findIn K (.ref C) "__setattr__" = some (some (.builtin "object.__setattr__")))
    (b : PySem.W.subIn K (.ref C) (.type "BaseException") = some true) (t : PySem.W.typeIn K (.ref C) = some (.type "type")) (k : PySem.W.keepIn K (.ref C) = true) (no : PySem.W.findIn K (.ref C) "at" = some none)
    (ga : PySem.W.findIn K (.ref C) "__getattribute__" = some (some (.builtin "BaseException.__getattribute__"))) (gg : PySem.W.findIn K (.ref C) "__getattr__" = some none) (hd : PySem.W.hasDictIn K C = true) : XI K x := by
  have e := cl_of a
  exact ⟨by rw [e]; exact ⟨⟨_, _, _, _, _, _, _, _, _, _, _, _, _, _, _, l, r⟩, sa, b, t, k⟩, by rw [e]; exact no, by rw [e]; exact ⟨ga, gg, b, hd⟩⟩
theorem id_mk (a : PySem.W.nsIn K mainGlobals x = some (some (.ref C))) (F : FnOk P w K mg base (L2.CX P w) lev f fd ps (lift (S_xat x K))) (h1 : PySem.W.findIn K (.ref C) "__init__" = some (some (.ref f))) (h2 : PySem.W.typeIn K (.ref f) = some (.type "function")) (b : Binds K fd ps []) : IDef P w K mg base lev x := by
  have e := cl_of a
  exact ⟨f, fd, ps, F, by rw [e]; exact h1, h2, b⟩
end
end BT
namespace BT
open PySem PySem.Spec L2
open PyProof.Rows hiding St
/-! ### whole numbers -/
def isIntV : V → Bool
  | .int _ => true
  | _ => false
def withinV (x : V) (lo hi : Int) : Bool := match x with
  | .int i => decide (lo ≤ i) && decide (i ≤ hi)
  | _ => false
def S_is_whole (K : PySem.W.Frag) : KSp := sp1 fun x G M R Z => ∃ T : PT, TyK K G M x T ∧ R (.bl (T == .int)) G M
def S_is_within (K : PySem.W.Frag) : KSp := sp3 fun x y z G M R Z => ∃ (T : PT) (lo hi : Int), y = .int lo ∧ z = .int hi ∧ TyK K G M x T ∧ (T == .int) = isIntV x ∧ R (.bl (withinV x lo hi)) G M
def isStrV : V → Bool
  | .str _ => true
  | _ => false

/-! ### things whose type is known -/
def WOk (K : PySem.W.Frag) (G : Hp) (w : V) : Prop := ∃ S : PT, (∀ M, TyK K G M w S) ∧ (S == .str) = isStrV w
def IOk (K : PySem.W.Frag) (G : Hp) (x : V) : Prop := ∃ T : PT, (∀ M, TyK K G M x T) ∧ (T == .int) = isIntV x

/-! ### kinds and draws -/
structure Kn where
  leaf : Bool
  n : Nat
def Kn.txt (k : Kn) : Str := if k.leaf then "leaf" else "shuffle"
def KnOk (k : Kn) : Prop := k.n ≤ 64 ∧ (k.leaf = true → k.n ≤ 6) ∧ (k.leaf = false → 1 ≤ k.n)
def fac : Nat → Nat
  | 0 => 1
  | n + 1 => (n + 1) * fac n
def manyK (k : Kn) : Nat := if k.leaf then 2 ^ k.n else fac k.n
def prK : List Kn → Nat
  | [] => 1
  | k :: ks => manyK k * prK ks
def knD (k : Kn) : PyData := .tuple [.str k.txt, .int k.n]
def rowAt : Nat → Nat → List Nat
  | 0, _ => []
  | s + 1, n => rowAt s (n / (s + 1)) ++ [n % (s + 1)]
/-- a draw: a leaf's number, or a row -/
inductive Dr | leaf (n : Nat) | row (l : List Nat)
def dOf (k : Kn) (n : Nat) : Dr := if k.leaf then .leaf n else .row (rowAt k.n n)
def drR : List Kn → Nat → List Dr
  | [], _ => []
  | k :: ks, n => dOf k (n % manyK k) :: drR ks (n / manyK k)
def drawsAt (ks : List Kn) (n : Nat) : List Dr := (drR ks.reverse n).reverse
def natsV (l : List Nat) : List V := l.map fun (n : Nat) => V.int (n : Int)
inductive A2 {α β : Type} (r : α → β → Prop) : List α → List β → Prop
  | nil : A2 r [] []
  | cons {a : α} {b : β} {as : List α} {bs : List β} : r a b → A2 r as bs → A2 r (a :: as) (b :: bs)
/-- a draw as it lies: a row's list is one of the cells -/
def DrM (M : Mem) (v : V) (d : Dr) : Prop := match d with
  | .leaf n => v = .int n
  | .row l => ∃ b, v = .ref b ∧ (b, HO.lst (natsV l)) ∈ M
def DrV (K : PySem.W.Frag) (G : Hp) (M : Mem) (v : V) (d : Dr) : Prop := match d with
  | .leaf n => v = .int n
  | .row l => ∃ b, v = .ref b ∧ LstAt K G M b (natsV l)
def KnAt (K : PySem.W.Frag) (G : Hp) (M : Mem) (a : Addr) (ks : List Kn) : Prop := ∃ us, LstAt K G M a us ∧ DpAll K G us (ks.map knD) ∧ (∀ k, k ∈ ks → KnOk k) ∧ ks.length ≤ 1000
def DrAt (K : PySem.W.Frag) (G : Hp) (M : Mem) (a : Addr) (ds : List Dr) : Prop := ∃ us, LstAt K G M a us ∧ A2 (DrV K G M) us ds
def DrOk (k : Kn) (d : Dr) : Prop := match d with
  | .leaf n => k.leaf = true ∧ n < 2 ^ k.n
  | .row l => k.leaf = false ∧ l.length = k.n ∧ ∀ (i v : Nat), l[i]? = some v → v ≤ i
def S_leaves (K : PySem.W.Frag) : KSp := sp1 fun x G M R Z => ∃ n : Nat, x = .int n ∧ n ≤ 1000 ∧ R (.int ((2 ^ n : Nat) : Int)) G M
def S_many_of (K : PySem.W.Frag) : KSp := sp1 fun x G M R Z => ∃ k : Kn, Dp K G x (knD k) ∧ k.n ≤ 64 ∧ R (.int (manyK k)) G M
def S_how_many (K : PySem.W.Frag) : KSp := sp1 fun x G M R Z => ∃ (a : Addr) (ks : List Kn), x = .ref a ∧ KnAt K G M a ks ∧ R (.int (prK ks)) G M
def S_row_at (K : PySem.W.Frag) : KSp := sp2 fun x y G M R Z => ∃ s n : Nat, x = .int s ∧ y = .int n ∧ s ≤ 64 ∧ ∀ p, Fr G M p → R (.ref p) G ((p, .lst (natsV (rowAt s n))) :: M)
def S_draws_at (K : PySem.W.Frag) : KSp := sp2 fun x y G M R Z => ∃ (a : Addr) (ks : List Kn) (T : PT), x = .ref a ∧ KnAt K G M a ks ∧ TyK K G M y T ∧ (T == .int) = isIntV y ∧
  (∀ n : Nat, y = .int n → n < prK ks → ∀ (p : Addr) (us : List V) (Mn : Mem), A2 (DrM Mn) us (drawsAt ks n) → R (.ref p) G ((p, .lst us) :: (Mn ++ M))) ∧
  (withinV y 0 ((prK ks : Int) - 1) = false → Z (.ref (cl K "NoNumber")) none G M)

/-! ### orders and rows: what they are -/
def swapL (l : List Nat) (i j : Nat) : List Nat := (l.set i (l.getD j 0)).set j (l.getD i 0)
def walkO (r : Nat → Nat) : Nat → List Nat → List Nat
  | 0, o => o
  | m + 1, o => walkO r m (swapL o (m + 1) (r (m + 1)))
def orderOf (l : List Nat) : List Nat := walkO (fun i => l.getD i 0) (l.length - 1) (List.range l.length)
def walkR (o : Nat → Nat) : Nat → List Nat → List Nat → List Nat
  | 0, _, row => row
  | m + 1, left, row => walkR o m (swapL left (m + 1) (left.idxOf (o (m + 1)))) (row.set (m + 1) (left.idxOf (o (m + 1))))
def rowOf (o : List Nat) : List Nat := walkR (fun i => o.getD i 0) (o.length - 1) (List.range o.length) (List.replicate o.length 0)
/-- a shuffle's row -/
def RowOk (l : List Nat) : Prop := ∀ (i v : Nat), l[i]? = some v → v ≤ i
/-- an order of n -/
structure OrdOk (n : Nat) (o : List Nat) : Prop where
  len : o.length = n
  nd : o.Nodup
  lt : ∀ x, x ∈ o → x < n
/-- the ints of a list of things, where all are -/
def intOf : V → Int
  | .int i => i
  | _ => 0
def orderB (xs : List V) : Bool := decide (1 ≤ xs.length) && decide (xs.length ≤ 64) && xs.all (fun x => withinV x 0 ((xs.length : Int) - 1)) && decide ((xs.map intOf).Nodup)
def ItemsTy (K : PySem.W.Frag) (G : Hp) (M : Mem) (xs : List V) : Prop := ∀ x, x ∈ xs → ∃ T : PT, TyK K G M x T ∧ (T == .int) = isIntV x
/-- a thing that may be an order -/
def ordV (K : PySem.W.Frag) (G : Hp) (M : Mem) (x : V) (b : Bool) : Prop := (∃ T : PT, TyK K G M x T ∧ T ≠ .list ∧ b = false) ∨ ∃ (a : Addr) (xs : List V), x = .ref a ∧ LstAt K G M a xs ∧ xs.length ≤ 1000 ∧ ItemsTy K G M xs ∧ b = orderB xs
def S_is_order (K : PySem.W.Frag) : KSp := sp1 fun x G M R Z => ∃ b, ordV K G M x b ∧ R (.bl b) G M
def S_exchange (K : PySem.W.Frag) : KSp := sp3 fun x y z G M R Z => ∃ (a : Addr) (n : Nat) (l : List Nat) (i j : Nat), x = .ref a ∧ y = .int i ∧ z = .int j ∧ M[n]? = some (a, .lst (natsV l)) ∧ i < l.length ∧ j < l.length ∧ R .non G (M.set n (a, .lst (natsV (swapL l i j))))
def S_order_of (K : PySem.W.Frag) : KSp := sp1 fun x G M R Z => ∃ (a : Addr) (l : List Nat), x = .ref a ∧ LstAt K G M a (natsV l) ∧ RowOk l ∧ l.length ≤ 1000 ∧ ∀ t, Fr G M t → R (.ref t) G ((t, .lst (natsV (orderOf l))) :: M)
def S_row_of (K : PySem.W.Frag) : KSp := sp1 fun x G M R Z => (ordV K G M x false ∧ Z (.ref (cl K "NoOrder")) none G M) ∨ ∃ (a : Addr) (o : List Nat), x = .ref a ∧ LstAt K G M a (natsV o) ∧ OrdOk o.length o ∧ 1 ≤ o.length ∧ o.length ≤ 64 ∧ ∀ t, Fr G M t → R (.ref t) G ((t, .lst (natsV (rowOf o))) :: M)

/-! ### looks at draws -/
def rowB (size : Nat) (xs : List V) : Bool := decide (xs.length = size) && (List.range xs.length).all fun i => withinV (xs.getD i .non) 0 (i : Int)
def RowV (K : PySem.W.Frag) (G : Hp) (M : Mem) (size : Nat) (y : V) (b : Bool) : Prop := (∃ T : PT, TyK K G M y T ∧ T ≠ .list ∧ b = false) ∨ ∃ (a : Addr) (xs : List V), y = .ref a ∧ LstAt K G M a xs ∧ xs.length ≤ 1000 ∧ ItemsTy K G M xs ∧ b = rowB size xs
def DrawV (K : PySem.W.Frag) (G : Hp) (M : Mem) (k : Kn) (y : V) (b : Bool) : Prop := if k.leaf then ∃ T : PT, TyK K G M y T ∧ (T == .int) = isIntV y ∧ b = withinV y 0 (((2 ^ k.n : Nat) : Int) - 1) else RowV K G M k.n y b
def S_is_row (K : PySem.W.Frag) : KSp := sp2 fun x y G M R Z => ∃ (n : Nat) (b : Bool), x = .int n ∧ RowV K G M n y b ∧ R (.bl b) G M
def S_is_draw (K : PySem.W.Frag) : KSp := sp2 fun x y G M R Z => ∃ (k : Kn) (b : Bool), Dp K G x (knD k) ∧ KnOk k ∧ DrawV K G M k y b ∧ R (.bl b) G M
/-- draws that are frozen -/
def DrsG (K : PySem.W.Frag) (G : Hp) (p : Addr) (ds : List Dr) : Prop := ∃ us, SqL K G p us ∧ A2 (DrV K G []) us ds
def S_copied (K : PySem.W.Frag) : KSp := sp1 fun x G M R Z => ∃ (b : Addr) (ds : List Dr), x = .ref b ∧ DrAt K G M b ds ∧ ds.length ≤ 1000 ∧ ∀ (p : Addr) (G' : Hp), Ex G G' → DrsG K G' p ds → R (.ref p) G' M

/-! errors with a place: their __init__ (needs KL32) -/
abbrev S_NoDraws_init (K : PySem.W.Frag) : KSp := S_xat "NoDraws" K
abbrev S_NoProgram_init (K : PySem.W.Frag) : KSp := S_xat "NoProgram" K

def S_law_whole (K : PySem.W.Frag) : KSp := sp1 fun x G M R Z => ∃ T : PT, TyK K G M x T ∧ R (.bl (T == .int)) G M
/-! ### things, as written data -/
mutual
def XD.pd : XD → PyData
  | .non => .none
  | .bl b => .bool b
  | .int i => .int i
  | .str s => .str s
  | .list l => .list (XD.pds l)
  | .tup l => .tuple (XD.pds l)
  | .dict => .dict []
def XD.pds : List XD → List PyData
  | [] => []
  | x :: l => x.pd :: XD.pds l
end
structure Sh4 (p w : Nat) (d : PyData) : Prop where
  s : d.showable = true
  n : d.hasDict = false
  l : d.leavesShort 40 = true
  p : d.depth ≤ p
  w : d.weight ≤ w
  c : d.canLay0 = true
def wiX (x : XD) (lo hi : Int) : Bool := match x with
  | .int i => decide (lo ≤ i) && decide (i ≤ hi)
  | _ => false
def rowX (n : Nat) : XD → Bool
  | .list l => decide (l.length = n) && (List.range l.length).all fun i => wiX (l.getD i .non) 0 (i : Int)
  | _ => false
def drawX (k : Kn) (d : XD) : Bool := if k.leaf then wiX d 0 (((2 ^ k.n : Nat) : Int) - 1) else rowX k.n d
def LenX : XD → Prop
  | .list l => l.length ≤ 1000
  | _ => True
def natX (l : List Nat) : XD := .list (l.map fun (n : Nat) => XD.int (n : Int))
def drX : Dr → XD
  | .leaf n => .int (n : Int)
  | .row l => natX l
/-- a draw that is frozen -/
def DrG (G : Hp) (v : V) (d : Dr) : Prop := match d with
  | .leaf n => v = .int n
  | .row l => ∃ b, v = .ref b ∧ G b = some (.lst (natsV l))
def ElOk (d : XD) : Prop := LenX d ∧ Sh4 2 8000 d.pd
def LenT : XD → Prop
  | .list zs => zs.length ≤ 1000 ∧ ∀ z, z ∈ zs → LenX z
  | _ => True
def ThOk (d : XD) : Prop := LenT d ∧ Sh4 3 170000 d.pd
def badsX (ks : List Kn) (zs : List XD) : List Nat := (List.range ks.length).filter fun i => !drawX (ks.getD i ⟨true, 0⟩) (zs.getD i .non)
def dueV (ks : List Kn) : XD → List V
  | .list zs => if zs.length = ks.length then natsV ((badsX ks zs).take 1) else [.non]
  | _ => [.non]
def lookV (ks : List Kn) (d : XD) : List V := match dueV ks d with
  | [] => [.str "good"]
  | l => l
def S_law_is_draw (K : PySem.W.Frag) : KSp := sp2 fun x y G M R Z => ∃ (k : Kn) (d : XD), Dp K G x (knD k) ∧ KnOk k ∧ Rp K G [] y d ∧ LenX d ∧ R (.bl (drawX k d)) G M
def S_law_due (K : PySem.W.Frag) : KSp := sp2 fun x y G M R Z => ∃ (a : Addr) (ks : List Kn) (d : XD), x = .ref a ∧ KnAt K G M a ks ∧ Rp K G [] y d ∧ LenT d ∧ ∀ p, R (.ref p) G ((p, .lst (dueV ks d)) :: M)
def S_look_at_draws (K : PySem.W.Frag) : KSp := sp2 fun x y G M R Z => ∃ (a : Addr) (ks : List Kn) (d : XD), x = .ref a ∧ KnAt K G M a ks ∧ Rp K G [] y d ∧ LenT d ∧ (dueV ks d = [] → ∀ G', Ex G G' → R .non G' M) ∧
  ∀ u l, dueV ks d = u :: l → ∀ (G' : Hp) (dx : Addr), Ex G G' → G' dx = some (.xd [("at", u)]) → Z (.ref (cl K "NoDraws")) (some dx) G' M
def S_law_looked (K : PySem.W.Frag) : KSp := sp2 fun x y G M R Z => ∃ (a : Addr) (ks : List Kn) (d : XD), x = .ref a ∧ KnAt K G M a ks ∧ Rp K G [] y d ∧ LenT d ∧ ∀ p G', Ex G G' → R (.ref p) G' ((p, .lst (lookV ks d)) :: M)
def S_law_kinds (K : PySem.W.Frag) : KSp := sp3 fun x y z G M R Z => ∃ (p : Addr) (m f : Int) (n : Nat) (c s : Int), x = .ref p ∧ y = .int m ∧ z = .int f ∧ M[n]? = some (p, pool c s) ∧ PoolOk s ∧ 0 ≤ m ∧ m ≤ 8 ∧ 1 ≤ f ∧ f ≤ 64 ∧
  ∀ (t : Addr) (us : List V) (ks : List Kn) (G' : Hp) (c' s' : Int), Ex G G' → G' t = some (.lst us) → DpAll K G' us (ks.map knD) → (∀ k, k ∈ ks → KnOk k) → ks.length ≤ m.toNat → PoolOk s' → R (.ref t) G' (M.set n (p, pool c' s'))
def S_law_draw (K : PySem.W.Frag) : KSp := sp2 fun x y G M R Z => ∃ (p : Addr) (n : Nat) (c s : Int) (k : Kn), x = .ref p ∧ M[n]? = some (p, pool c s) ∧ PoolOk s ∧ Dp K G y (knD k) ∧ KnOk k ∧
  ∀ (v : V) (d : Dr) (c' s' : Int) (G' : Hp), Ex G G' → DrG G' v d → DrOk k d → PoolOk s' → R v G' (M.set n (p, pool c' s'))
/-- draws of kinds that are frozen; they are frozen, too -/
def S_law_draws (K : PySem.W.Frag) : KSp := sp2 fun x y G M R Z => ∃ (p : Addr) (c s : Int) (a : Addr) (us : List V) (ks : List Kn), x = .ref p ∧ y = .ref a ∧ M = [(p, pool c s)] ∧ PoolOk s ∧ SqL K G a us ∧ DpAll K G us (ks.map knD) ∧ (∀ k, k ∈ ks → KnOk k) ∧ ks.length ≤ 8 ∧
  ∀ (t : Addr) (av : List V) (ds : List Dr) (c' s' : Int) (G' : Hp), Ex G G' → G' t = some (.lst av) → A2 (DrG G') av ds → A2 DrOk ks ds → PoolOk s' → R (.ref t) G' [(p, pool c' s')]
def S_law_odd (K : PySem.W.Frag) : KSp := sp2 fun x y G M R Z => ∃ (p : Addr) (n : Nat) (c s : Int) (k : Kn) (dr : Dr), x = .ref p ∧ M[n]? = some (p, pool c s) ∧ PoolOk s ∧ DrG G y dr ∧ DrOk k dr ∧ KnOk k ∧
  ∀ (v : V) (d : XD) (c' s' : Int) (G' : Hp), Ex G G' → Rp K G' [] v d → ElOk d → PoolOk s' → R v G' (M.set n (p, pool c' s'))
def S_law_bent (K : PySem.W.Frag) : KSp := sp2 fun x y G M R Z => ∃ (p : Addr) (n : Nat) (c s : Int) (a : Addr) (av : List V) (ks : List Kn) (ds : List Dr), x = .ref p ∧ y = .ref a ∧ M[n]? = some (p, pool c s) ∧ PoolOk s ∧ G a = some (.lst av) ∧ A2 (DrG G) av ds ∧ A2 DrOk ks ds ∧ (∀ k, k ∈ ks → KnOk k) ∧ ks.length ≤ 8 ∧
  ∀ (v : V) (d : XD) (c' s' : Int) (G' : Hp), Ex G G' → Rp K G' [] v d → ThOk d → PoolOk s' → R v G' (M.set n (p, pool c' s'))
def S_law_right (K : PySem.W.Frag) : KSp := sp1 fun x G M R Z => ∃ (p : Addr) (c s : Int), x = .ref p ∧ M = [(p, pool c s)] ∧ PoolOk s ∧ ∀ G' M', Ex G G' → R (.bl true) G' M'
/-! readings of the defs, printed by gen.py -/
def tab_tr_TouchError : List (Str × Bool) := [("NoDraws", true)]
def tab_is_NoDraws : List (Str × Bool) := [("NoDraws", true)]
def tab_is_ValueError : List (Str × Bool) := [("NoDraws", true)]
def tab_at : List Str := ["NoDraws"]
/-- is_whole(thing); slots 0 thing -/
def rd_is_whole (K : PySem.W.Frag) : KS :=
  kSeq (kRet (kAndV (kCB (kIsi K) (kCons (kVar 0) (kCons (kC (.ty "int")) (kNil)))) (kNotV (kCB (kIsi K) (kCons (kVar 0) (kCons (kC (.ty "bool")) (kNil))))))) (kNext)
/-- law_pool(_law_script, _law_k); slots 0 _law_script, 1 _law_k, 2 _law_cell, 3 _law_seed -/
def rd_law_pool_4 (K : PySem.W.Frag) : KS :=
  kSeq (kRet (kLst (kCons (kVar 2) (kCons (kVar 3) (kNil))))) (kNext)
def rd_law_pool_3 (K : PySem.W.Frag) : KS :=
  kSeq (kIf (kT (kBin (kI0 fun i j => .bl (decide (i < j))) (kVar 2) (kBin (kI CPow fun i j => .int (i ^ j.toNat)) (kC (.int 10)) (kC (.int 18))))) (kSeq (kSet 2 (kC (.int 0))) (kNext)) (kNext)) (rd_law_pool_4 K)
def rd_law_pool_2 (K : PySem.W.Frag) : KS :=
  kSeq (kSet 3 (kBin (kI (fun _ j => 0 < j) fun i j => .int (i % j)) (kBin (kMul) (kBin (kAdd) (kBin (kAdd) (kBin (kI (fun _ j => 0 < j) fun i j => .int (i % j)) (kVar 2) (kC (.int 1000000007))) (kBin (kMul) (kBin (kMul) (kC (.int 15485863)) (kVar 1)) (kVar 1))) (kC (.int 3))) (kC (.int 39373))) (kC (.int 2147483647)))) (rd_law_pool_3 K)
def rd_law_pool_1 (K : PySem.W.Frag) : KS :=
  kSeq (kIf (kT (kBin (kI0 fun i j => .bl (decide (i < j))) (kVar 1) (kCB (kLen K) (kCons (kVar 0) (kNil))))) (kSeq (kSet 2 (kBin (kIx K) (kVar 0) (kVar 1))) (kNext)) (kNext)) (rd_law_pool_2 K)
def rd_law_pool (K : PySem.W.Frag) : KS :=
  kSeq (kSet 2 (kC (.int 0))) (rd_law_pool_1 K)
/-- law_take(_law_pool_here, _law_many); slots 0 _law_pool_here, 1 _law_many, 2 _law_found -/
def rd_law_take_2 (K : PySem.W.Frag) : KS :=
  kSeq (kRet (kBin (kI (fun _ j => 0 < j) fun i j => .int (i % j)) (kBin (kI CDivW fun i j => .int (i / j)) (kBin (kI (fun _ j => 0 < j) fun i j => .int (i % j)) (kBin (kMul) (kBin (kIx K) (kVar 0) (kC (.int 1))) (kBin (kIx K) (kVar 0) (kC (.int 1)))) (kC (.int 2147483629))) (kC (.int 64))) (kVar 1))) (kNext)
def rd_law_take_1 (K : PySem.W.Frag) : KS :=
  kSeq (kAsg (kBin (kI (fun _ j => 0 < j) fun i j => .int (i % j)) (kBin (kAdd) (kBin (kMul) (kBin (kIx K) (kVar 0) (kC (.int 1))) (kC (.int 48271))) (kC (.int 11))) (kC (.int 2147483647))) (kgIx (kVar 0) (kC (.int 1)))) (rd_law_take_2 K)
def rd_law_take (K : PySem.W.Frag) : KS :=
  kSeq (kIf (kT (kBin (kI0 fun i j => .bl (decide (j < i))) (kBin (kIx K) (kVar 0) (kC (.int 0))) (kC (.int 0)))) (kSeq (kSet 2 (kBin (kI (fun _ j => 0 < j) fun i j => .int (i % j)) (kBin (kIx K) (kVar 0) (kC (.int 0))) (kVar 1))) (kSeq (kAsg (kBin (kI CDivW fun i j => .int (i / j)) (kBin (kIx K) (kVar 0) (kC (.int 0))) (kVar 1)) (kgIx (kVar 0) (kC (.int 0)))) (kSeq (kRet (kVar 2)) (kNext)))) (kNext)) (rd_law_take_1 K)
/-- law_kinds(_law_pool_here, _law_most, _law_far); slots 0 _law_pool_here, 1 _law_most, 2 _law_far, 3 _law_kinds_here, 4 _law_k -/
def rd_law_kinds_b0 (K : PySem.W.Frag) : KS :=
  kSeq (kIf (kT (kBin (kEqv false K) (kCall (S_law_take K) (kCons (kVar 0) (kCons (kC (.int 2)) (kNil)))) (kC (.int 0)))) (kSeq (kExpr (kBM K "list" (kAppend) (kVar 3) (kCons (kTup (kCons (kC (.str "leaf")) (kCons (kCall (S_law_take K) (kCons (kVar 0) (kCons (kC (.int 7)) (kNil)))) (kNil)))) (kNil)))) (kNext)) (kSeq (kExpr (kBM K "list" (kAppend) (kVar 3) (kCons (kTup (kCons (kC (.str "shuffle")) (kCons (kBin (kAdd) (kC (.int 1)) (kCall (S_law_take K) (kCons (kVar 0) (kCons (kBin (kIx K) (kLst (kCons (kC (.int 6)) (kCons (kVar 2) (kNil)))) (kCall (S_law_take K) (kCons (kVar 0) (kCons (kC (.int 2)) (kNil))))) (kNil))))) (kNil)))) (kNil)))) (kNext))) (kNext)
def rd_law_kinds_2 (K : PySem.W.Frag) : KS :=
  kSeq (kRet (kVar 3)) (kNext)
def rd_law_kinds_1 (K : PySem.W.Frag) : KS :=
  kSeq (kFor (kiR1 (kCons (kCall (S_law_take K) (kCons (kVar 0) (kCons (kBin (kAdd) (kVar 1) (kC (.int 1))) (kNil)))) (kNil))) (kgName 4) (rd_law_kinds_b0 K)) (rd_law_kinds_2 K)
def rd_law_kinds (K : PySem.W.Frag) : KS :=
  kSeq (kSet 3 (kLst (kNil))) (rd_law_kinds_1 K)
/-- law_draw(_law_pool_here, _law_kind); slots 0 _law_pool_here, 1 _law_kind, 2 _law_k -/
def rd_law_draw_1 (K : PySem.W.Frag) : KS :=
  kSeq (kRet (kComp (kiR1 (kCons (kBin (kIx K) (kVar 1) (kC (.int 1))) (kNil))) (kgName 2) (kYes) (kCall (S_law_take K) (kCons (kVar 0) (kCons (kBin (kAdd) (kVar 2) (kC (.int 1))) (kNil)))) [2])) (kNext)
def rd_law_draw (K : PySem.W.Frag) : KS :=
  kSeq (kIf (kT (kBin (kEqv false K) (kBin (kIx K) (kVar 1) (kC (.int 0))) (kC (.str "leaf")))) (kSeq (kRet (kCall (S_law_take K) (kCons (kVar 0) (kCons (kBin (kI CPow fun i j => .int (i * 2 ^ j.toNat)) (kC (.int 1)) (kBin (kIx K) (kVar 1) (kC (.int 1)))) (kNil))))) (kNext)) (kNext)) (rd_law_draw_1 K)
/-- law_draws(_law_pool_here, _law_kinds_here); slots 0 _law_pool_here, 1 _law_kinds_here, 2 _law_kind -/
def rd_law_draws (K : PySem.W.Frag) : KS :=
  kSeq (kRet (kComp (kiSeq K (kVar 1)) (kgName 2) (kYes) (kCall (S_law_draw K) (kCons (kVar 0) (kCons (kVar 2) (kNil)))) [2])) (kNext)
/-- law_odd(_law_pool_here, _law_draw_here); slots 0 _law_pool_here, 1 _law_draw_here, 2 _law_some, 3 _law_at, 4 _law_odd_here -/
def rd_law_odd_2 (K : PySem.W.Frag) : KS :=
  kSeq (kRet (kBin (kIx K) (kVar 2) (kCall (S_law_take K) (kCons (kVar 0) (kCons (kCB (kLen K) (kCons (kVar 2) (kNil))) (kNil)))))) (kNext)
def rd_law_odd_1 (K : PySem.W.Frag) : KS :=
  kSeq (kIf (kT (kCB (kIsi K) (kCons (kVar 1) (kCons (kC (.ty "list")) (kNil))))) (kSeq (kSet 3 (kCall (S_law_take K) (kCons (kVar 0) (kCons (kCB (kLen K) (kCons (kVar 1) (kNil))) (kNil))))) (kSeq (kSet 4 (kBin (kIx K) (kLst (kCons (kBin (kAdd) (kVar 3) (kC (.int 1))) (kCons (kUn kNeg (kC (.int 1))) (kCons (kC (.bl true)) (kCons (kC .non) (kCons (kC (.str "0")) (kCons (kLst (kCons (kC (.int 0)) (kNil))) (kCons (kVar 3) (kCons (kC (.int 0)) (kNil)))))))))) (kCall (S_law_take K) (kCons (kVar 0) (kCons (kC (.int 8)) (kNil)))))) (kSeq (kSet 2 (kBin (kAdd) (kVar 2) (kLst (kCons (kBin (kAdd) (kBin (kAdd) (kSl K (kVar 1) (kNoP) (kPart (kVar 3))) (kLst (kCons (kVar 4) (kNil)))) (kSl K (kVar 1) (kPart (kBin (kAdd) (kVar 3) (kC (.int 1)))) (kNoP))) (kCons (kSl K (kVar 1) (kNoP) (kPart (kUn kNeg (kC (.int 1))))) (kCons (kBin (kAdd) (kVar 1) (kLst (kCons (kC (.int 0)) (kNil)))) (kCons (kCB (kTuple K) (kCons (kVar 1) (kNil))) (kNil)))))))) (kNext)))) (kNext)) (rd_law_odd_2 K)
def rd_law_odd (K : PySem.W.Frag) : KS :=
  kSeq (kSet 2 (kLst (kCons (kUn kNeg (kC (.int 1))) (kCons (kC (.int 64)) (kCons (kBin (kI CPow fun i j => .int (i ^ j.toNat)) (kC (.int 10)) (kC (.int 30))) (kCons (kC (.bl true)) (kCons (kC (.bl false)) (kCons (kC .non) (kCons (kC (.str "0")) (kCons (kTup (kCons (kC (.int 0)) (kNil))) (kCons (kLst (kNil)) (kCons (kLst (kCons (kC (.int 0)) (kCons (kC (.int 0)) (kNil)))) (kCons (kC (.int 0)) (kCons (kC (.int 1)) (kNil))))))))))))))) (rd_law_odd_1 K)
/-- law_bent(_law_pool_here, _law_draws_here); slots 0 _law_pool_here, 1 _law_draws_here, 2 _law_way, 3 _law_at -/
def rd_law_bent_7 (K : PySem.W.Frag) : KS :=
  kSeq (kRet (kVar 1)) (kNext)
def rd_law_bent_6 (K : PySem.W.Frag) : KS :=
  kSeq (kIf (kAnd (kT (kBin (kI0 fun i j => .bl (decide (j < i))) (kVar 2) (kC (.int 5)))) (kT (kBin (kEqv true K) (kVar 1) (kLst (kNil))))) (kSeq (kSet 3 (kCall (S_law_take K) (kCons (kVar 0) (kCons (kCB (kLen K) (kCons (kVar 1) (kNil))) (kNil))))) (kSeq (kSet 1 (kBin (kAdd) (kBin (kAdd) (kSl K (kVar 1) (kNoP) (kPart (kVar 3))) (kLst (kCons (kC .non) (kNil)))) (kSl K (kVar 1) (kPart (kBin (kAdd) (kVar 3) (kC (.int 1)))) (kNoP)))) (kNext))) (kNext)) (rd_law_bent_7 K)
def rd_law_bent_5 (K : PySem.W.Frag) : KS :=
  kSeq (kIf (kT (kBin (kI0 fun i j => .bl (decide (i < j))) (kVar 3) (kCB (kLen K) (kCons (kVar 1) (kNil))))) (kSeq (kSet 1 (kBin (kAdd) (kBin (kAdd) (kSl K (kVar 1) (kNoP) (kPart (kVar 3))) (kLst (kCons (kCall (S_law_odd K) (kCons (kVar 0) (kCons (kBin (kIx K) (kVar 1) (kVar 3)) (kNil)))) (kNil)))) (kSl K (kVar 1) (kPart (kBin (kAdd) (kVar 3) (kC (.int 1)))) (kNoP)))) (kNext)) (kNext)) (rd_law_bent_6 K)
def rd_law_bent_4 (K : PySem.W.Frag) : KS :=
  kSeq (kIf (kT (kBin (kEqv false K) (kVar 2) (kC (.int 2)))) (kSeq (kRet (kBin (kIx K) (kLst (kCons (kCB (kTuple K) (kCons (kVar 1) (kNil))) (kCons (kC .non) (kCons (kC (.str "draws")) (kCons (kC (.int 0)) (kNil)))))) (kCall (S_law_take K) (kCons (kVar 0) (kCons (kC (.int 4)) (kNil)))))) (kNext)) (kNext)) (rd_law_bent_5 K)
def rd_law_bent_3 (K : PySem.W.Frag) : KS :=
  kSeq (kIf (kT (kBin (kEqv false K) (kVar 2) (kC (.int 1)))) (kSeq (kRet (kBin (kAdd) (kBin (kAdd) (kSl K (kVar 1) (kNoP) (kPart (kVar 3))) (kLst (kCons (kC (.int 0)) (kNil)))) (kSl K (kVar 1) (kPart (kVar 3)) (kNoP)))) (kNext)) (kNext)) (rd_law_bent_4 K)
def rd_law_bent_2 (K : PySem.W.Frag) : KS :=
  kSeq (kIf (kT (kBin (kEqv false K) (kVar 2) (kC (.int 0)))) (kSeq (kRet (kBin (kAdd) (kSl K (kVar 1) (kNoP) (kPart (kVar 3))) (kSl K (kVar 1) (kPart (kBin (kAdd) (kVar 3) (kC (.int 1)))) (kNoP)))) (kNext)) (kNext)) (rd_law_bent_3 K)
def rd_law_bent_1 (K : PySem.W.Frag) : KS :=
  kSeq (kSet 3 (kCall (S_law_take K) (kCons (kVar 0) (kCons (kBin (kAdd) (kCB (kLen K) (kCons (kVar 1) (kNil))) (kC (.int 1))) (kNil))))) (rd_law_bent_2 K)
def rd_law_bent (K : PySem.W.Frag) : KS :=
  kSeq (kSet 2 (kCall (S_law_take K) (kCons (kVar 0) (kCons (kC (.int 8)) (kNil))))) (rd_law_bent_1 K)
/-- law_whole(_law_found); slots 0 _law_found -/
def rd_law_whole (K : PySem.W.Frag) : KS :=
  kSeq (kRet (kAndV (kCB (kIsi K) (kCons (kVar 0) (kCons (kC (.ty "int")) (kNil)))) (kNotV (kCB (kIsi K) (kCons (kVar 0) (kCons (kC (.ty "bool")) (kNil))))))) (kNext)
/-- law_is_draw(_law_kind, _law_thing); slots 0 _law_kind, 1 _law_thing, 2 _law_k -/
def rd_law_is_draw_2 (K : PySem.W.Frag) : KS :=
  kSeq (kRet (kBin (kEqv false K) (kComp (kiR1 (kCons (kCB (kLen K) (kCons (kVar 1) (kNil))) (kNil))) (kgName 2) (kOr (kNot (kT (kCall (S_law_whole K) (kCons (kBin (kIx K) (kVar 1) (kVar 2)) (kNil))))) (kOr (kT (kBin (kI0 fun i j => .bl (decide (i < j))) (kBin (kIx K) (kVar 1) (kVar 2)) (kC (.int 0)))) (kT (kBin (kI0 fun i j => .bl (decide (j < i))) (kBin (kIx K) (kVar 1) (kVar 2)) (kVar 2))))) (kVar 2) [2]) (kLst (kNil)))) (kNext)
def rd_law_is_draw_1 (K : PySem.W.Frag) : KS :=
  kSeq (kIf (kOr (kNot (kT (kCB (kIsi K) (kCons (kVar 1) (kCons (kC (.ty "list")) (kNil)))))) (kT (kBin (kEqv true K) (kCB (kLen K) (kCons (kVar 1) (kNil))) (kBin (kIx K) (kVar 0) (kC (.int 1)))))) (kSeq (kRet (kC (.bl false))) (kNext)) (kNext)) (rd_law_is_draw_2 K)
def rd_law_is_draw (K : PySem.W.Frag) : KS :=
  kSeq (kIf (kT (kBin (kEqv false K) (kBin (kIx K) (kVar 0) (kC (.int 0))) (kC (.str "leaf")))) (kSeq (kRet (kAndV (kCall (S_law_whole K) (kCons (kVar 1) (kNil))) (kChain (kI0 fun i j => .bl (decide (i ≤ j))) (kI0 fun i j => .bl (decide (i < j))) (kC (.int 0)) (kVar 1) (kBin (kI CPow fun i j => .int (i * 2 ^ j.toNat)) (kC (.int 1)) (kBin (kIx K) (kVar 0) (kC (.int 1))))))) (kNext)) (kNext)) (rd_law_is_draw_1 K)
/-- law_due(_law_kinds_here, _law_thing); slots 0 _law_kinds_here, 1 _law_thing, 2 _law_k -/
def rd_law_due_1 (K : PySem.W.Frag) : KS :=
  kSeq (kRet (kSl K (kComp (kiR1 (kCons (kCB (kLen K) (kCons (kVar 0) (kNil))) (kNil))) (kgName 2) (kNot (kT (kCall (S_law_is_draw K) (kCons (kBin (kIx K) (kVar 0) (kVar 2)) (kCons (kBin (kIx K) (kVar 1) (kVar 2)) (kNil)))))) (kVar 2) [2]) (kNoP) (kPart (kC (.int 1))))) (kNext)
def rd_law_due (K : PySem.W.Frag) : KS :=
  kSeq (kIf (kOr (kNot (kT (kCB (kIsi K) (kCons (kVar 1) (kCons (kC (.ty "list")) (kNil)))))) (kT (kBin (kEqv true K) (kCB (kLen K) (kCons (kVar 1) (kNil))) (kCB (kLen K) (kCons (kVar 0) (kNil)))))) (kSeq (kRet (kLst (kCons (kC .non) (kNil)))) (kNext)) (kNext)) (rd_law_due_1 K)
/-- NoDraws_init(self, at); slots 0 self, 1 at -/
def rd_NoDraws_init_1 (K : PySem.W.Frag) : KS :=
  kSeq (kSetAt (cl K "NoDraws") (kVar 0) (kVar 1)) (kNext)
def rd_NoDraws_init (K : PySem.W.Frag) : KS :=
  kSeq (kExpr (kVeI (cl K "NoDraws") (kCons (kVar 0) (kCons (kC (.str "no draws of these kinds")) (kNil))))) (rd_NoDraws_init_1 K)
/-- leaves(high); slots 0 high -/
def rd_leaves (K : PySem.W.Frag) : KS :=
  kSeq (kRet (kBin (kI CPow fun i j => .int (i * 2 ^ j.toNat)) (kC (.int 1)) (kVar 0))) (kNext)
/-- is_within(thing, least, most); slots 0 thing, 1 least, 2 most -/
def rd_is_within (K : PySem.W.Frag) : KS :=
  kSeq (kRet (kAndV (kCall (S_is_whole K) (kCons (kVar 0) (kNil))) (kChain (kI0 fun i j => .bl (decide (i ≤ j))) (kI0 fun i j => .bl (decide (i ≤ j))) (kVar 1) (kVar 0) (kVar 2)))) (kNext)
/-- is_row(size, thing); slots 0 size, 1 thing, 2 place, 3 number -/
def rd_is_row_1 (K : PySem.W.Frag) : KS :=
  kSeq (kRet (kCB (kAll K) (kCons (kComp (kiEnum K (kCons (kVar 1) (kNil))) (kgTup K 2 (kgsCons (kgName 2) (kgsCons (kgName 3) (kgsNil)))) (kYes) (kCall (S_is_within K) (kCons (kVar 3) (kCons (kC (.int 0)) (kCons (kVar 2) (kNil))))) [2, 3]) (kNil)))) (kNext)
def rd_is_row (K : PySem.W.Frag) : KS :=
  kSeq (kIf (kOr (kNot (kT (kCB (kIsi K) (kCons (kVar 1) (kCons (kC (.ty "list")) (kNil)))))) (kT (kBin (kEqv true K) (kCB (kLen K) (kCons (kVar 1) (kNil))) (kVar 0)))) (kSeq (kRet (kC (.bl false))) (kNext)) (kNext)) (rd_is_row_1 K)
/-- is_draw(kind, thing); slots 0 kind, 1 thing -/
def rd_is_draw_1 (K : PySem.W.Frag) : KS :=
  kSeq (kRet (kCall (S_is_row K) (kCons (kBin (kIx K) (kVar 0) (kC (.int 1))) (kCons (kVar 1) (kNil))))) (kNext)
def rd_is_draw (K : PySem.W.Frag) : KS :=
  kSeq (kIf (kT (kBin (kEqv false K) (kBin (kIx K) (kVar 0) (kC (.int 0))) (kC (.str "leaf")))) (kSeq (kRet (kCall (S_is_within K) (kCons (kVar 1) (kCons (kC (.int 0)) (kCons (kBin (kI0 fun i j => .int (i - j)) (kCall (S_leaves K) (kCons (kBin (kIx K) (kVar 0) (kC (.int 1))) (kNil))) (kC (.int 1))) (kNil)))))) (kNext)) (kNext)) (rd_is_draw_1 K)
/-- look_at_draws(kinds, thing); slots 0 kinds, 1 thing, 2 place, 3 kind -/
def rd_look_at_draws_b0 (K : PySem.W.Frag) : KS :=
  kSeq (kIf (kNot (kT (kCall (S_is_draw K) (kCons (kVar 3) (kCons (kBin (kIx K) (kVar 1) (kVar 2)) (kNil)))))) (kSeq (kRaiseX K "NoDraws" (kCons (kVar 2) (kNil))) (kNext)) (kNext)) (kNext)
def rd_look_at_draws_1 (K : PySem.W.Frag) : KS :=
  kSeq (kFor (kiEnum K (kCons (kVar 0) (kNil))) (kgTup K 2 (kgsCons (kgName 2) (kgsCons (kgName 3) (kgsNil)))) (rd_look_at_draws_b0 K)) (kNext)
def rd_look_at_draws (K : PySem.W.Frag) : KS :=
  kSeq (kIf (kOr (kNot (kT (kCB (kIsi K) (kCons (kVar 1) (kCons (kC (.ty "list")) (kNil)))))) (kT (kBin (kEqv true K) (kCB (kLen K) (kCons (kVar 1) (kNil))) (kCB (kLen K) (kCons (kVar 0) (kNil)))))) (kSeq (kRaiseX K "NoDraws" (kCons (kC .non) (kNil))) (kNext)) (kNext)) (rd_look_at_draws_1 K)
/-- law_looked(_law_kinds_here, _law_thing); slots 0 _law_kinds_here, 1 _law_thing, 2 _law_found, 3 _law_told, 4 e -/
def rd_law_looked_5 (K : PySem.W.Frag) : KS :=
  kSeq (kRet (kLst (kCons (kXAt K tab_at (kVar 2)) (kNil)))) (kNext)
def rd_law_looked_4 (K : PySem.W.Frag) : KS :=
  kSeq (kIf (kOr (kNot (kT (kCB (kIsXd K (.ref (cl K "NoDraws")) tab_is_NoDraws) (kCons (kVar 2) (kCons (kC (.ref (cl K "NoDraws"))) (kNil)))))) (kOr (kNot (kT (kCB (kIsXd K (.ty "ValueError") tab_is_ValueError) (kCons (kVar 2) (kCons (kC (.ty "ValueError")) (kNil)))))) (kT (kCB (kIsi K) (kCons (kXAt K tab_at (kVar 2)) (kCons (kC (.ty "bool")) (kNil))))))) (kSeq (kRet (kLst (kCons (kC (.str "other")) (kNil)))) (kNext)) (kNext)) (rd_law_looked_5 K)
def rd_law_looked_3 (K : PySem.W.Frag) : KS :=
  kSeq (kIf (kT (kBin (kIs2 false) (kVar 2) (kC .non))) (kSeq (kRet (kSl K (kLst (kCons (kC (.str "good")) (kNil))) (kNoP) (kPart (kBin (kI0 fun i j => .int (i - j)) (kBin (kAdd) (kC (.int 1)) (kCB (kInt) (kCons (kBin (kIs2 false) (kVar 3) (kC .non)) (kNil)))) (kC (.int 1)))))) (kNext)) (kNext)) (rd_law_looked_4 K)
def rd_law_looked_2 (K : PySem.W.Frag) : KS :=
  kSeq (kTry K tab_tr_TouchError 4 2 (kSeq (kSet 3 (kCall (S_look_at_draws K) (kCons (kVar 0) (kCons (kVar 1) (kNil))))) (kNext))) (rd_law_looked_3 K)
def rd_law_looked_1 (K : PySem.W.Frag) : KS :=
  kSeq (kSet 3 (kC .non)) (rd_law_looked_2 K)
def rd_law_looked (K : PySem.W.Frag) : KS :=
  kSeq (kSet 2 (kC .non)) (rd_law_looked_1 K)
/-- law_right(_law_pool_here); slots 0 _law_pool_here, 1 _law_kinds_here, 2 _law_draws_here, 3 _law_thing, 4 _law_kept, 5 _law_due_here, 6 _law_handed, 7 _law_k, 8 _law_found -/
def rd_law_right_b0_3 (K : PySem.W.Frag) : KS :=
  kSeq (kIf (kOr (kT (kBin (kEqv true K) (kCall (S_law_looked K) (kCons (kVar 6) (kCons (kVar 3) (kNil)))) (kBin (kIx K) (kLst (kCons (kVar 5) (kCons (kLst (kCons (kC (.str "good")) (kNil))) (kNil)))) (kCB (kInt) (kCons (kBin (kEqv false K) (kVar 5) (kLst (kNil))) (kNil)))))) (kOr (kT (kBin (kEqv true K) (kCB (kRepr K) (kCons (kVar 3) (kNil))) (kVar 4))) (kT (kBin (kEqv true K) (kVar 6) (kVar 1))))) (kSeq (kRet (kC (.bl false))) (kNext)) (kNext)) (kNext)
def rd_law_right_b0_2 (K : PySem.W.Frag) : KS :=
  kSeq (kSet 6 (kCB (kList K) (kCons (kVar 1) (kNil)))) (rd_law_right_b0_3 K)
def rd_law_right_b0_1 (K : PySem.W.Frag) : KS :=
  kSeq (kSet 5 (kCall (S_law_due K) (kCons (kVar 1) (kCons (kVar 3) (kNil))))) (rd_law_right_b0_2 K)
def rd_law_right_b0 (K : PySem.W.Frag) : KS :=
  kSeq (kSet 4 (kCB (kRepr K) (kCons (kVar 3) (kNil)))) (rd_law_right_b0_1 K)
def rd_law_right_b2_1 (K : PySem.W.Frag) : KS :=
  kSeq (kIf (kOr (kNot (kT (kCB (kIsi K) (kCons (kVar 8) (kCons (kC (.ty "bool")) (kNil)))))) (kT (kBin (kEqv true K) (kVar 8) (kCall (S_law_is_draw K) (kCons (kBin (kIx K) (kVar 1) (kVar 7)) (kCons (kVar 3) (kNil))))))) (kSeq (kRet (kC (.bl false))) (kNext)) (kNext)) (kNext)
def rd_law_right_b2 (K : PySem.W.Frag) : KS :=
  kSeq (kSet 8 (kCall (S_is_draw K) (kCons (kBin (kIx K) (kVar 1) (kVar 7)) (kCons (kVar 3) (kNil))))) (rd_law_right_b2_1 K)
def rd_law_right_b1 (K : PySem.W.Frag) : KS :=
  kSeq (kFor (kiW (kiSeq K (kLst (kCons (kBin (kIx K) (kVar 2) (kVar 7)) (kCons (kCall (S_law_odd K) (kCons (kVar 0) (kCons (kBin (kIx K) (kVar 2) (kVar 7)) (kNil)))) (kCons (kBin (kI CPow fun i j => .int (i * 2 ^ j.toNat)) (kC (.int 1)) (kBin (kI (fun _ j => 0 < j) fun i j => .int (i % j)) (kBin (kIx K) (kBin (kIx K) (kVar 1) (kVar 7)) (kC (.int 1))) (kC (.int 8)))) (kNil))))))) (kgName 3) (rd_law_right_b2 K)) (kNext)
def rd_law_right_4 (K : PySem.W.Frag) : KS :=
  kSeq (kRet (kC (.bl true))) (kNext)
def rd_law_right_3 (K : PySem.W.Frag) : KS :=
  kSeq (kFor (kiR1 (kCons (kCB (kLen K) (kCons (kVar 1) (kNil))) (kNil))) (kgName 7) (rd_law_right_b1 K)) (rd_law_right_4 K)
def rd_law_right_2 (K : PySem.W.Frag) : KS :=
  kSeq (kFor (kiW (kiSeq K (kLst (kCons (kVar 2) (kCons (kCall (S_law_bent K) (kCons (kVar 0) (kCons (kVar 2) (kNil)))) (kNil)))))) (kgName 3) (rd_law_right_b0 K)) (rd_law_right_3 K)
def rd_law_right_1 (K : PySem.W.Frag) : KS :=
  kSeq (kSet 2 (kCall (S_law_draws K) (kCons (kVar 0) (kCons (kVar 1) (kNil))))) (rd_law_right_2 K)
def rd_law_right (K : PySem.W.Frag) : KS :=
  kSeq (kSet 1 (kCall (S_law_kinds K) (kCons (kVar 0) (kCons (kC (.int 8)) (kCons (kC (.int 64)) (kNil)))))) (rd_law_right_1 K)
/-- law(_law_script); slots 0 _law_script, 1 _law_things, 2 _law_k, 3 _law_found -/
def rd_law_b0_1 (K : PySem.W.Frag) : KS :=
  kSeq (kIf (kOr (kNot (kT (kCB (kIsi K) (kCons (kVar 3) (kCons (kC (.ty "bool")) (kNil)))))) (kT (kBin (kEqv true K) (kVar 3) (kBin (kI0 fun i j => .bl (decide (i < j))) (kVar 2) (kC (.int 5)))))) (kSeq (kRet (kC (.bl false))) (kNext)) (kNext)) (kNext)
def rd_law_b0 (K : PySem.W.Frag) : KS :=
  kSeq (kSet 3 (kCall (S_is_whole K) (kCons (kBin (kIx K) (kVar 1) (kVar 2)) (kNil)))) (rd_law_b0_1 K)
def rd_law_b1 (K : PySem.W.Frag) : KS :=
  kSeq (kIf (kNot (kT (kCall (S_law_right K) (kCons (kCall (S_law_pool K) (kCons (kVar 0) (kCons (kVar 2) (kNil)))) (kNil))))) (kSeq (kRet (kC (.bl false))) (kNext)) (kNext)) (kNext)
def rd_law_3 (K : PySem.W.Frag) : KS :=
  kSeq (kRet (kC (.bl true))) (kNext)
def rd_law_2 (K : PySem.W.Frag) : KS :=
  kSeq (kFor (kiR1 (kCons (kCB (kMax2) (kCons (kC (.int 1)) (kCons (kCB (kMin2) (kCons (kCB (kLen K) (kCons (kVar 0) (kNil))) (kCons (kC (.int 24)) (kNil)))) (kNil)))) (kNil))) (kgName 2) (rd_law_b1 K)) (rd_law_3 K)
def rd_law_1 (K : PySem.W.Frag) : KS :=
  kSeq (kFor (kiR1 (kCons (kCB (kLen K) (kCons (kVar 1) (kNil))) (kNil))) (kgName 2) (rd_law_b0 K)) (rd_law_2 K)
def rd_law (K : PySem.W.Frag) : KS :=
  kSeq (kSet 1 (kLst (kCons (kC (.int 0)) (kCons (kC (.int 1)) (kCons (kUn kNeg (kC (.int 1))) (kCons (kBin (kI CPow fun i j => .int (i ^ j.toNat)) (kC (.int 10)) (kC (.int 59))) (kCons (kC (.int 7)) (kCons (kC (.bl true)) (kCons (kC (.bl false)) (kCons (kC .non) (kCons (kC (.str "1")) (kCons (kC (.str "")) (kCons (kLst (kCons (kC (.int 1)) (kNil))) (kCons (kTup (kCons (kC (.int 1)) (kNil))) (kCons (kLst (kNil)) (kCons (kDNew) (kCons (kTup (kNil)) (kCons (kLst (kCons (kC (.int 0)) (kNil))) (kNil))))))))))))))))))) (rd_law_1 K)
section
variable {K : PySem.W.Frag} {vs : List V} {G : Hp} {M : Mem} {R : KR} {Z : KX}
theorem pf_law_take (h : S_law_take K vs G M R Z) : rd_law_take K (ends R Z) (sta 3 vs) G M := by
  obtain ⟨_, _, rfl, p, m, n, c, s, rfl, rfl, hn, hs, hm0, hm1, q⟩ := sp2_of h
  have hS : SeqAt' K G M p [.int c, .int s] := lst_n hn
  refine ⟨G, M, Wk.refl, _, _, hS, rfl, ite2' (fun e => ?_) (fun e => ?_)⟩
  · refine ⟨G, M, Wk.refl, _, _, hS, rfl, hm0, ?_⟩
    refine ⟨G, M, Wk.refl, _, _, hS, rfl, divW hm0 hm1 c, n, _, 0, hn, rfl, ?_⟩
    refine ⟨G, _, Wk.refl, ?_⟩
    exact ret0 (q _ _ _ (Int.emod_nonneg _ (by omega)) (Int.emod_lt_of_pos _ hm0) hs)
  · obtain ⟨s0, s1⟩ := hs
    have hs' : PoolOk ((s * 48271 + 11) % 2147483647) := ⟨Int.emod_nonneg _ (by decide), Int.emod_lt_of_pos _ (by decide)⟩
    refine ⟨G, M, Wk.refl, _, _, hS, rfl, mul_r (by decide) (by decide), (by show (0 : Int) < _; decide), n, _, 1, hn, rfl, ?_⟩
    have hn' : (M.set n (p, pool c ((s * 48271 + 11) % 2147483647)))[n]? = some (p, pool c ((s * 48271 + 11) % 2147483647)) := set_n hn
    have hS' : SeqAt' K G (M.set n (p, pool c ((s * 48271 + 11) % 2147483647))) p [.int c, .int ((s * 48271 + 11) % 2147483647)] := lst_n hn'
    refine ⟨G, _, Wk.refl, _, _, hS', rfl, _, _, hS', rfl, mul_l (by have := hs'.1; omega) (by have := hs'.2; omega), (by show (0 : Int) < _; decide), divW (by decide) (by decide) _, hm0, ?_⟩
    exact ret0 (q _ _ _ (Int.emod_nonneg _ (by omega)) (Int.emod_lt_of_pos _ hm0) hs')
theorem b01 (b : Bool) : -(2 ^ 64) < (if b then (1 : Int) else 0) ∧ (if b then (1 : Int) else 0) < 2 ^ 64 := by cases b <;> decide
end

section
variable {K : PySem.W.Frag} {vs : List V} {G : Hp} {M : Mem} {R : KR} {Z : KX}
theorem pf_law_pool (h : S_law_pool K vs G M R Z) : rd_law_pool K (ends R Z) (sta 4 vs) G M := by
  obtain ⟨_, _, rfl, a, ns, k, rfl, rfl, hS, k0, k1, hl, q⟩ := sp2_of h
  have rest : ∀ cell : Int, rd_law_pool_2 K (ends R Z) [some (.ref a), some (.int k), some (.int cell), none] G M := fun cell => by
    refine ⟨G, M, Wk.refl, (by show (0 : Int) < _; decide), mul_l (by decide) (by decide), mul_r (by omega) (by omega), mul_r (by decide) (by decide), (by show (0 : Int) < _; decide), ?_⟩
    refine ⟨G, M, Wk.refl, pow10_18, ite2' (fun e => ?_) (fun e => ?_)⟩
    · exact ⟨G, M, Wk.refl, G, M, Wk.refl, sz2, fun p fp => ret0 (q p _ _ fp ⟨Int.emod_nonneg _ (by decide), Int.emod_lt_of_pos _ (by decide)⟩)⟩
    · exact ⟨G, M, Wk.refl, sz2, fun p fp => ret0 (q p _ _ fp ⟨Int.emod_nonneg _ (by decide), Int.emod_lt_of_pos _ (by decide)⟩)⟩
  refine ⟨G, M, Wk.refl, ?_⟩
  refine ⟨G, M, Wk.refl, _, lst_g hS, ite2' (fun e => ?_) (fun e => rest _)⟩
  have e1 : k < ((ns.map V.int).length : Int) := of_decide_eq_true e
  rw [List.length_map] at e1
  exact ⟨G, M, Wk.refl, _, _, lst_g hS, atI_int k0 e1, rest _⟩
end

section
variable {K : PySem.W.Frag} {vs : List V} {G : Hp} {M : Mem} {R : KR} {Z : KX}
theorem set_self {α : Type} {l : List α} {n : Nat} {x : α} (h : l[n]? = some x) : l.set n x = l := by
  apply List.ext_getElem? 
  intro i
  rw [List.getElem?_set]
  by_cases e : n = i
  · subst e
    rw [if_pos rfl, if_pos (List.getElem?_eq_some_iff.mp h).1, h]
  · rw [if_neg e]
theorem at_two {x y : V} {r : Int} (h0 : 0 ≤ r) (h1 : r < 2) : ∃ v, atI [x, y] r = some v ∧ (v = x ∨ v = y) := by
  have e : r = 0 ∨ r = 1 := by omega
  rcases e with rfl | rfl
  · exact ⟨x, rfl, .inl rfl⟩
  · exact ⟨y, rfl, .inr rfl⟩
theorem fr_set {n : Nat} {p : Addr} {o : HO} {x : Addr × HO} {t : Addr} (hn : M[n]? = some (p, o)) (h : Fr G M t) (e : x.1 = p := by rfl) : Fr G (M.set n x) t := by
  refine ⟨h.1, fun y hy => ?_⟩
  rcases List.mem_or_eq_of_mem_set hy with hy | rfl
  · exact h.2 y hy
  · rw [e]; exact h.2 _ (List.mem_of_getElem? hn)
theorem fr_unset {n : Nat} {p : Addr} {o : HO} {x : Addr × HO} {t : Addr} (hn : M[n]? = some (p, o)) (h : Fr G (M.set n x) t) (e : x.1 = p := by rfl) : Fr G M t := by
  have hl : n < M.length := (List.getElem?_eq_some_iff.mp hn).1
  refine ⟨h.1, fun y hy => ?_⟩
  obtain ⟨m, hm⟩ := List.getElem?_of_mem hy
  by_cases z : n = m
  · subst z
    rw [hn] at hm; cases hm
    have := h.2 x (List.mem_of_getElem? (List.getElem?_set_self hl))
    rw [e] at this; exact this
  · exact h.2 y (List.mem_of_getElem? (by rw [List.getElem?_set_ne z]; exact hm))
end

section
variable {K : PySem.W.Frag} {vs : List V} {G : Hp} {M : Mem} {R : KR} {Z : KX}
theorem pf_is_whole (h : S_is_whole K vs G M R Z) : rd_is_whole K (ends R Z) (sta 1 vs) G M := by
  obtain ⟨x, rfl, T, hT, q⟩ := sp1_of h
  refine ⟨G, M, Wk.refl, .type T.name, .type "int", _, .ty "int", hT, kit_pt T .int, ite2' (fun e => ?_) (fun e => ?_)⟩
  · refine ⟨.type T.name, .type "bool", _, .ty "bool", hT, kit_pt T .bool, ret0 ?_⟩
    have e2 : (!isaB T .bool) = (T == .int) := by revert e; cases T <;> decide
    rw [e2]; exact q
  · have e2 : false = (T == .int) := by revert e; cases T <;> decide
    refine ret0 ?_
    rw [e2]; exact q
theorem pf_is_within (h : S_is_within K vs G M R Z) : rd_is_within K (ends R Z) (sta 3 vs) G M := by
  obtain ⟨x, _, _, rfl, T, lo, hi, rfl, rfl, hT, hx, q⟩ := sp3_of h
  refine ⟨G, M, Wk.refl, T, hT, ite2' (fun e => ?_) (fun e => ?_)⟩
  · rw [e] at hx
    cases x with
    | int i =>
      have q : R (.bl (decide (lo ≤ i) && decide (i ≤ hi))) G M := q
      refine ite2' (fun e1 => ?_) (fun e1 => ?_)
      · rw [e1, Bool.true_and] at q; exact ret0 q
      · rw [e1, Bool.false_and] at q; exact ret0 q
    | _ => cases hx
  · rw [e] at hx
    have e2 : withinV x lo hi = false := by cases x <;> first | rfl | cases hx
    rw [e2] at q
    exact ret0 q
end

section
variable {K : PySem.W.Frag} {vs : List V} {G : Hp} {M : Mem} {R : KR} {Z : KX}
section
variable {α β : Type} {r : α → β → Prop}
theorem A2.len {as : List α} {bs : List β} (h : A2 r as bs) : as.length = bs.length := by
  induction h with
  | nil => rfl
  | cons _ _ ih => simp [ih]
theorem A2.app {as as' : List α} {bs bs' : List β} (h : A2 r as bs) (h' : A2 r as' bs') : A2 r (as ++ as') (bs ++ bs') := by
  induction h with
  | nil => exact h'
  | cons a _ ih => exact .cons a ih
theorem A2.rev {as : List α} {bs : List β} (h : A2 r as bs) : A2 r as.reverse bs.reverse := by
  induction h with
  | nil => exact .nil
  | cons a _ ih => rw [List.reverse_cons, List.reverse_cons]; exact ih.app (.cons a .nil)
theorem A2.get {as : List α} {bs : List β} (h : A2 r as bs) : ∀ {i : Nat} {b : β}, bs[i]? = some b → ∃ a, as[i]? = some a ∧ r a b := by
  induction h with
  | nil => intro i b e; simp at e
  | cons a _ ih =>
    intro i b e
    cases i with
    | zero => cases e; exact ⟨_, rfl, a⟩
    | succ i => exact ih e
theorem A2.get' {as : List α} {bs : List β} (h : A2 r as bs) : ∀ {i : Nat} {a : α}, as[i]? = some a → ∃ b, bs[i]? = some b ∧ r a b := by
  induction h with
  | nil => intro i b e; simp at e
  | cons a _ ih =>
    intro i b e
    cases i with
    | zero => cases e; exact ⟨_, rfl, a⟩
    | succ i => exact ih e
theorem A2.mono {r' : α → β → Prop} (m : ∀ a b, r a b → r' a b) {as : List α} {bs : List β} (h : A2 r as bs) : A2 r' as bs := by
  induction h with
  | nil => exact .nil
  | cons a _ ih => exact .cons (m _ _ a) ih
end
theorem drM_v {Mn : Mem} (hs : ∀ x, x ∈ Mn → x ∈ M) {v : V} {d : Dr} (h : DrM Mn v d) : DrV K G M v d := by
  cases d with
  | leaf n => exact h
  | row l => obtain ⟨b, rfl, h⟩ := h; exact ⟨b, rfl, .inl (hs _ h)⟩
theorem drM_sub {Mn Mm : Mem} (hs : ∀ x, x ∈ Mn → x ∈ Mm) {v : V} {d : Dr} (h : DrM Mn v d) : DrM Mm v d := by
  cases d with
  | leaf n => exact h
  | row l => obtain ⟨b, rfl, h⟩ := h; exact ⟨b, rfl, hs _ h⟩
theorem dp_kn_inv {v : V} {k : Kn} (h : Dp K G v (knD k)) : ∃ t, v = .ref t ∧ SqT K G t [.str k.txt, .int k.n] := by
  obtain ⟨t, xs, rfl, s, a⟩ := dp_tup_inv h
  refine ⟨t, rfl, ?_⟩
  cases a with
  | cons a b =>
    cases b with
    | cons b c =>
      cases c
      cases a
      cases b
      exact s
theorem dp_kn {t : Addr} {k : Kn} (h : SqT K G t [.str k.txt, .int k.n]) : Dp K G (.ref t) (knD k) := .tup h (.cons (.str _) (.cons (.int _) .nil))
theorem shp_kns {n : Nat} (ks : List Kn) : Shp (n + 2) (.list (ks.map knD)) := .list fun d hd => by
  obtain ⟨p, _, rfl⟩ := List.mem_map.mp hd
  refine .tuple fun d hd => ?_
  rcases List.mem_cons.mp hd with rfl | hd
  · exact .str (by obtain ⟨b, n⟩ := p; cases b <;> (show PyData.strOk _ = true; first | exact (by decide +kernel : PyData.strOk ("leaf" : Str) = true) | exact (by decide +kernel : PyData.strOk ("shuffle" : Str) = true)))
  · rcases List.mem_cons.mp hd with rfl | hd
    · exact .int
    · cases hd
theorem txt_leaf (k : Kn) : decide ((V.str k.txt) = (.str "leaf")) = k.leaf := by
  obtain ⟨b, n⟩ := k
  cases b
  · exact decide_eq_false (by intro h; injection h with h; exact absurd (show ("shuffle" : Str) = "leaf" from h) (by decide))
  · exact decide_eq_true rfl
/-! sizes -/
theorem fac_pos : ∀ n, 0 < fac n
  | 0 => by decide
  | n + 1 => Nat.mul_pos (by omega) (fac_pos n)
theorem fac_mono : ∀ {m n : Nat}, m ≤ n → fac m ≤ fac n := by
  intro m n h
  induction n with
  | zero => have : m = 0 := by omega
            subst this; exact Nat.le_refl _
  | succ n ih =>
    by_cases e : m = n + 1
    · subst e; exact Nat.le_refl _
    · have h1 := ih (by omega)
      show fac m ≤ (n + 1) * fac n
      have : 1 * fac n ≤ (n + 1) * fac n := Nat.mul_le_mul_right _ (by omega)
      omega
theorem fac_64 : fac 64 < 2 ^ 300 := by decide +kernel
theorem manyK_pos (k : Kn) : 0 < manyK k := by
  unfold manyK; split
  · exact Nat.pow_pos (by decide)
  · exact fac_pos _
theorem manyK_lt {k : Kn} (h : KnOk k) : manyK k < 2 ^ 300 := by
  unfold manyK; split
  · exact Nat.pow_lt_pow_right (by decide) (by have := h.1; omega)
  · exact Nat.lt_of_le_of_lt (fac_mono h.1) fac_64
theorem prK_pos : ∀ ks, 0 < prK ks
  | [] => by decide
  | k :: ks => Nat.mul_pos (manyK_pos k) (prK_pos ks)
theorem prK_lt : ∀ ks : List Kn, (∀ k, k ∈ ks → KnOk k) → prK ks < 2 ^ (300 * ks.length + 1)
  | [], _ => by decide
  | k :: ks, h => by
    have h1 := manyK_lt (h k List.mem_cons_self)
    have h2 := prK_lt ks fun q hq => h q (List.mem_cons_of_mem _ hq)
    show manyK k * prK ks < _
    rw [List.length_cons, show 300 * (ks.length + 1) + 1 = 300 + (300 * ks.length + 1) by omega, Nat.pow_add]
    exact Nat.mul_lt_mul'' h1 h2
theorem prK_snoc (ks : List Kn) (k : Kn) : prK (ks ++ [k]) = prK ks * manyK k := by
  induction ks with
  | nil => simp [prK]
  | cons a ks ih => show manyK a * prK (ks ++ [k]) = manyK a * prK ks * manyK k; rw [ih, Nat.mul_assoc]
theorem prK_take_le (ks : List Kn) (i : Nat) (h : ∀ k, k ∈ ks → KnOk k) : ∀ k, k ∈ ks.take i → KnOk k := fun k hk => h k (List.mem_of_mem_take hk)
theorem take_succ' {α : Type} {l : List α} {i : Nat} {x : α} (h : l[i]? = some x) : l.take (i + 1) = l.take i ++ [x] := by
  rw [List.take_succ, h]; rfl
end

section
variable {K : PySem.W.Frag} {vs : List V} {G : Hp} {M : Mem} {R : KR} {Z : KX}
theorem pf_leaves (h : S_leaves K vs G M R Z) : rd_leaves K (ends R Z) (sta 1 vs) G M := by
  obtain ⟨_, rfl, n, rfl, hn, q⟩ := sp1_of h
  refine ⟨G, M, Wk.refl, ⟨by omega, by omega, by decide⟩, ret0 ?_⟩
  have e : (1 : Int) * 2 ^ (n : Int).toNat = ((2 ^ n : Nat) : Int) := by simp
  show R (.int ((1 : Int) * 2 ^ (n : Int).toNat)) G M
  rw [e]; exact q
theorem natsV_rev (l : List Nat) : (natsV l).reverse = natsV l.reverse := by unfold natsV; rw [List.map_reverse]
theorem lat_app {Mn : Mem} {a : Addr} {xs : List V} (h : LstAt K G M a xs) : LstAt K G (Mn ++ M) a xs := by
  rcases h with h | h
  · exact .inl (List.mem_append_right _ h)
  · exact .inr h
theorem rev_get {α : Type} {l : List α} {i : Nat} (h : i < l.length) : l.reverse[i]? = l[l.length - 1 - i]? := by
  rw [List.getElem?_reverse h]
theorem drop_get {α : Type} {l : List α} {i : Nat} {x : α} (h : l[i]? = some x) : l.drop i = x :: l.drop (i + 1) := by
  obtain ⟨hi, rfl⟩ := List.getElem?_eq_some_iff.mp h
  exact List.drop_eq_getElem_cons hi
end

section
variable {K : PySem.W.Frag} {vs : List V} {G : Hp} {M : Mem} {R : KR} {Z : KX}
theorem natsV_get {l : List Nat} {i v : Nat} (h : l[i]? = some v) : (natsV l)[i]? = some (.int (v : Int)) := by
  unfold natsV; rw [List.getElem?_map, h]; rfl
theorem natsV_len (l : List Nat) : (natsV l).length = l.length := by unfold natsV; rw [List.length_map]
theorem atI_nats {l : List Nat} {i v : Nat} (h : l[i]? = some v) : atI (natsV l) (i : Int) = some (.int (v : Int)) := atI_nat (natsV_get h)
theorem at_mem {l : List V} {r : Int} (h0 : 0 ≤ r) (h1 : r < l.length) : ∃ v, atI l r = some v ∧ v ∈ l := by
  obtain ⟨j, rfl⟩ := Int.eq_ofNat_of_zero_le h0
  have hj : l[j]? = some l[j] := List.getElem?_eq_getElem (by omega)
  exact ⟨_, atI_nat hj, List.mem_of_getElem? hj⟩
theorem dpall_rep {v : V} {d : PyData} (h : Dp K G v d) : ∀ n, DpAll K G (List.replicate n v) (List.replicate n d)
  | 0 => .nil
  | n + 1 => .cons h (dpall_rep h n)
theorem dpall_app2 : ∀ {vs ws : List V} {ds es : List PyData}, DpAll K G vs ds → DpAll K G ws es → DpAll K G (vs ++ ws) (ds ++ es)
  | _, _, _, _, .nil, h => h
  | _, _, _, _, .cons a b, h => .cons a (dpall_app2 b h)
theorem dpall_flat {us : List V} {ds : List PyData} (h : DpAll K G us ds) : ∀ n, DpAll K G (List.replicate n us).flatten (List.replicate n ds).flatten
  | 0 => .nil
  | n + 1 => dpall_app2 h (dpall_flat h n)
theorem ex_lat {G' : Hp} {M' : Mem} {a : Addr} {us : List V} (x : Ex G G') (hm : ∀ x, x ∈ M → x ∈ M') (h : LstAt K G M a us) : LstAt K G' M' a us := by
  rcases h with h | h
  · exact .inl (hm _ h)
  · exact .inr (ex_l x h)
theorem wi_hi {i lo hi : Int} (h : hi < i) : withinV (.int i) lo hi = false := by
  show (decide (lo ≤ i) && decide (i ≤ hi)) = false
  rw [decide_eq_false (p := i ≤ hi) (by omega), Bool.and_false]
theorem wi_lo {i lo hi : Int} (h : i < lo) : withinV (.int i) lo hi = false := by
  show (decide (lo ≤ i) && decide (i ≤ hi)) = false
  rw [decide_eq_false (p := lo ≤ i) (by omega), Bool.false_and]
theorem wi_in {i lo hi : Int} (h : lo ≤ i) (h2 : i ≤ hi) : withinV (.int i) lo hi = true := by
  show (decide (lo ≤ i) && decide (i ≤ hi)) = true
  rw [decide_eq_true h, decide_eq_true h2]; rfl
theorem Wk.sub' {G : Hp} {M M' : Mem} (h : List.Sublist M' M) : Wk G M G M' := fun H hv => ⟨hv.ex, fun x hx => hv.mu x (h.subset hx), hv.nd.sublist (h.map _), fun x hx => hv.dj x (h.subset hx)⟩
end

section
theorem swap_len {l : List Nat} {i j : Nat} : (swapL l i j).length = l.length := by unfold swapL; simp
theorem getD_lt {l : List Nat} {i : Nat} (h : i < l.length) : l.getD i 0 = l[i] := by rw [List.getD_eq_getElem?_getD, List.getElem?_eq_getElem h]; rfl
theorem getD_set {l : List Nat} {i j v : Nat} (h : i < l.length) : (l.set i v).getD j 0 = if j = i then v else l.getD j 0 := by
  rw [List.getD_eq_getElem?_getD, List.getElem?_set]
  by_cases e : i = j
  · subst e; simp [h]
  · rw [if_neg e, if_neg (Ne.symm e), List.getD_eq_getElem?_getD]
theorem swap_getD {l : List Nat} {i j k : Nat} (hi : i < l.length) (hj : j < l.length) : (swapL l i j).getD k 0 = if k = j then l.getD i 0 else if k = i then l.getD j 0 else l.getD k 0 := by
  unfold swapL
  rw [getD_set (by simpa using hj), getD_set hi]
theorem ext_getD {l m : List Nat} (hl : l.length = m.length) (h : ∀ i, i < l.length → l.getD i 0 = m.getD i 0) : l = m := by
  apply List.ext_getElem hl
  intro i h1 h2
  have := h i h1
  rwa [getD_lt h1, getD_lt h2] at this
theorem nodup_getD {l : List Nat} : l.Nodup ↔ ∀ i j, i < l.length → j < l.length → l.getD i 0 = l.getD j 0 → i = j := by
  constructor
  · intro h i j hi hj e
    rw [getD_lt hi, getD_lt hj] at e
    exact (List.getElem_inj h).mp e
  · intro h
    rw [List.nodup_iff_pairwise_ne, List.pairwise_iff_getElem]
    intro i j hi hj hij e
    have := h i j hi hj (by rw [getD_lt hi, getD_lt hj]; exact e)
    omega
theorem mem_getD {l : List Nat} {x : Nat} : x ∈ l ↔ ∃ i, i < l.length ∧ l.getD i 0 = x := by
  constructor
  · intro h
    obtain ⟨i, hi, e⟩ := List.getElem_of_mem h
    exact ⟨i, hi, by rw [getD_lt hi]; exact e⟩
  · rintro ⟨i, hi, e⟩
    rw [getD_lt hi] at e
    rw [← e]; exact List.getElem_mem hi
theorem swap_mem {l : List Nat} {i j x : Nat} (hi : i < l.length) (hj : j < l.length) : x ∈ swapL l i j ↔ x ∈ l := by
  rw [mem_getD, mem_getD, swap_len]
  constructor
  · rintro ⟨k, hk, e⟩
    rw [swap_getD hi hj] at e
    by_cases e1 : k = j
    · rw [if_pos e1] at e; exact ⟨i, hi, e⟩
    · rw [if_neg e1] at e
      by_cases e2 : k = i
      · rw [if_pos e2] at e; exact ⟨j, hj, e⟩
      · rw [if_neg e2] at e; exact ⟨k, hk, e⟩
  · rintro ⟨k, hk, e⟩
    by_cases e1 : k = j
    · refine ⟨i, hi, ?_⟩
      rw [swap_getD hi hj, if_pos rfl]
      by_cases e3 : i = j
      · rw [if_pos e3, e3, ← e1, e]
      · rw [if_neg e3, ← e1, e]
    · by_cases e2 : k = i
      · exact ⟨j, hj, by rw [swap_getD hi hj, if_pos rfl, ← e2, e]⟩
      · exact ⟨k, hk, by rw [swap_getD hi hj, if_neg e1, if_neg e2, e]⟩
theorem swap_nodup {l : List Nat} {i j : Nat} (hi : i < l.length) (hj : j < l.length) (h : l.Nodup) : (swapL l i j).Nodup := by
  rw [nodup_getD] at h ⊢
  rw [swap_len]
  intro a b ha hb e
  have pi : ∀ k, (swapL l i j).getD k 0 = l.getD (if k = j then i else if k = i then j else k) 0 := fun k => by
    rw [swap_getD hi hj]; split <;> first | rfl | (split <;> rfl)
  rw [pi, pi] at e
  have lt : ∀ k, k < l.length → (if k = j then i else if k = i then j else k) < l.length := fun k hk => by split <;> first | assumption | (split <;> assumption)
  have q := h _ _ (lt a ha) (lt b hb) e
  split at q <;> split at q <;> first | omega | (split at q <;> first | omega | (split at q <;> omega))
theorem OrdOk.swap {n : Nat} {o : List Nat} {i j : Nat} (h : OrdOk n o) (hi : i < n) (hj : j < n) : OrdOk n (swapL o i j) :=
  have hi' : i < o.length := by rw [h.len]; exact hi
  have hj' : j < o.length := by rw [h.len]; exact hj
  ⟨by rw [swap_len]; exact h.len, swap_nodup hi' hj' h.nd, fun x hx => h.lt x ((swap_mem hi' hj').mp hx)⟩
theorem ord_range (n : Nat) : OrdOk n (List.range n) := ⟨List.length_range, List.nodup_range, fun x hx => List.mem_range.mp hx⟩
theorem nodup_lt_len : ∀ (m : Nat) (l : List Nat), l.Nodup → (∀ x, x ∈ l → x < m) → l.length ≤ m
  | 0, l, _, h => by
    cases l with
    | nil => exact Nat.le_refl _
    | cons x l => exact absurd (h x List.mem_cons_self) (Nat.not_lt_zero _)
  | m + 1, l, hn, h => by
    by_cases hm : m ∈ l
    · have e := List.length_erase_of_mem hm
      have ih := nodup_lt_len m (l.erase m) (hn.erase m) fun x hx => by
        have q := hn.mem_erase_iff.mp hx
        have := h x q.2
        have := q.1
        omega
      omega
    · have ih := nodup_lt_len m l hn fun x hx => by
        have := h x hx
        have : x ≠ m := fun z => hm (z ▸ hx)
        omega
      omega
/-- a list of different numbers below n, n long, has them all -/
theorem ord_has {n : Nat} {o : List Nat} (h : OrdOk n o) (x : Nat) (hx : x < n) : x ∈ o := by
  apply Classical.byContradiction
  intro hm
  have := nodup_lt_len n (x :: o) (List.nodup_cons.mpr ⟨hm, h.nd⟩) fun y hy => by
    rcases List.mem_cons.mp hy with rfl | hy
    · exact hx
    · exact h.lt y hy
  rw [List.length_cons, h.len] at this
  omega
/-- the walk keeps what is behind -/
theorem walkO_ok {n : Nat} {r : Nat → Nat} (hr : ∀ i, i < n → r i ≤ i) : ∀ (m : Nat) (o : List Nat), m < n → OrdOk n o → OrdOk n (walkO r m o) ∧ ∀ j, m < j → (walkO r m o).getD j 0 = o.getD j 0
  | 0, o, _, h => ⟨h, fun _ _ => rfl⟩
  | m + 1, o, hm, h => by
    have r1 := hr (m + 1) hm
    have h1 := h.swap (i := m + 1) (j := r (m + 1)) hm (by omega)
    obtain ⟨a, b⟩ := walkO_ok hr m (swapL o (m + 1) (r (m + 1))) (by omega) h1
    refine ⟨a, fun j hj => ?_⟩
    show (walkO r m (swapL o (m + 1) (r (m + 1)))).getD j 0 = _
    rw [b j (by omega), swap_getD (by rw [h.len]; omega) (by rw [h.len]; omega), if_neg (by omega), if_neg (by omega)]
theorem rowok_getD {l : List Nat} (h : RowOk l) : ∀ i, i < l.length → l.getD i 0 ≤ i := fun i hi => h i _ (by rw [getD_lt hi, List.getElem?_eq_getElem hi])
theorem order_ok {l : List Nat} (h : RowOk l) : OrdOk l.length (orderOf l) := by
  unfold orderOf
  by_cases e : l.length = 0
  · rw [e]; exact ord_range 0
  · exact (walkO_ok (rowok_getD h) _ _ (by omega) (ord_range _)).1
theorem order_len {l : List Nat} (h : RowOk l) : (orderOf l).length = l.length := (order_ok h).len
theorem idx_of_nodup {l : List Nat} {i : Nat} (h : l.Nodup) (hi : i < l.length) : l.idxOf (l.getD i 0) = i := by
  have hm : l.getD i 0 ∈ l := mem_getD.mpr ⟨i, hi, rfl⟩
  have hlt : l.idxOf (l.getD i 0) < l.length := List.idxOf_lt_length_iff.mpr hm
  have e : l[l.idxOf (l.getD i 0)] = l.getD i 0 := List.getElem_idxOf hlt
  exact nodup_getD.mp h _ _ hlt hi (by rw [getD_lt hlt]; exact e)
theorem getD_idx {l : List Nat} {x : Nat} (h : x ∈ l) : l.idxOf x < l.length ∧ l.getD (l.idxOf x) 0 = x := by
  have hlt : l.idxOf x < l.length := List.idxOf_lt_length_iff.mpr h
  exact ⟨hlt, by rw [getD_lt hlt]; exact List.getElem_idxOf hlt⟩
/-- the row of the order of a row -/
theorem walkR_of {n : Nat} {r : Nat → Nat} (hr : ∀ i, i < n → r i ≤ i) : ∀ (m : Nat) (o row : List Nat), m < n → OrdOk n o → row.length = n →
    (walkR (fun i => (walkO r m o).getD i 0) m o row).length = n ∧ ∀ j, j < n → (walkR (fun i => (walkO r m o).getD i 0) m o row).getD j 0 = if 1 ≤ j ∧ j ≤ m then r j else row.getD j 0
  | 0, o, row, hm, h, hl => ⟨hl, fun j hj => by rw [if_neg (by omega)]; rfl⟩
  | m + 1, o, row, hm, h, hl => by
    have r1 := hr (m + 1) hm
    have h1 := h.swap (i := m + 1) (j := r (m + 1)) hm (by omega)
    obtain ⟨a, b⟩ := walkO_ok hr m _ (by omega : m < n) h1
    have e1 : (walkO r (m + 1) o).getD (m + 1) 0 = o.getD (r (m + 1)) 0 := by
      show (walkO r m (swapL o (m + 1) (r (m + 1)))).getD (m + 1) 0 = _
      rw [b (m + 1) (by omega), swap_getD (by rw [h.len]; omega) (by rw [h.len]; omega)]
      by_cases z : m + 1 = r (m + 1)
      · rw [if_pos z, ← z]
      · rw [if_neg z, if_pos rfl]
    have e2 : o.idxOf ((walkO r (m + 1) o).getD (m + 1) 0) = r (m + 1) := by
      rw [e1]; exact idx_of_nodup h.nd (by rw [h.len]; omega)
    obtain ⟨c, d⟩ := walkR_of hr m (swapL o (m + 1) (r (m + 1))) (row.set (m + 1) (r (m + 1))) (by omega) h1 (by simpa using hl)
    have e3 : walkR (fun i => (walkO r (m + 1) o).getD i 0) (m + 1) o row = walkR (fun i => (walkO r m (swapL o (m + 1) (r (m + 1)))).getD i 0) m (swapL o (m + 1) (r (m + 1))) (row.set (m + 1) (r (m + 1))) := by
      show walkR (fun i => (walkO r (m + 1) o).getD i 0) m (swapL o (m + 1) (o.idxOf ((walkO r (m + 1) o).getD (m + 1) 0))) (row.set (m + 1) (o.idxOf ((walkO r (m + 1) o).getD (m + 1) 0))) = _
      rw [e2]; rfl
    rw [e3]
    refine ⟨c, fun j hj => ?_⟩
    rw [d j hj, getD_set (by omega)]
    by_cases z : j = m + 1
    · rw [if_neg (by omega), if_pos z, if_pos (by omega), z]
    · by_cases y : 1 ≤ j ∧ j ≤ m
      · rw [if_pos y, if_pos (by omega)]
      · rw [if_neg y, if_neg z, if_neg (by omega)]
theorem row_order {l : List Nat} (h : RowOk l) : rowOf (orderOf l) = l := by
  by_cases e : l.length = 0
  · have : l = [] := List.length_eq_zero_iff.mp e
    subst this; rfl
  have hr := rowok_getD h
  obtain ⟨a, b⟩ := walkR_of hr (l.length - 1) (List.range l.length) (List.replicate l.length 0) (by omega) (ord_range _) List.length_replicate
  have e1 : rowOf (orderOf l) = walkR (fun i => (walkO (fun i => l.getD i 0) (l.length - 1) (List.range l.length)).getD i 0) (l.length - 1) (List.range l.length) (List.replicate l.length 0) := by
    unfold rowOf
    rw [order_len h]; rfl
  rw [e1]
  refine ext_getD a fun i hi => ?_
  rw [a] at hi
  rw [b i hi]
  by_cases z : 1 ≤ i ∧ i ≤ l.length - 1
  · rw [if_pos z]
  · rw [if_neg z]
    have hi0 : i = 0 := by omega
    have := hr 0 (by omega)
    subst hi0
    rw [getD_lt (by simp; omega)]
    simp
    simp at this
    omega
/-- the order of the row of an order -/
theorem left_idx {n m : Nat} {o left : List Nat} (ho : OrdOk n o) (hl : OrdOk n left) (hm : m < n) (hj : ∀ j, m < j → j < n → left.getD j 0 = o.getD j 0) : left.idxOf (o.getD m 0) ≤ m ∧ left.getD (left.idxOf (o.getD m 0)) 0 = o.getD m 0 := by
  have hin : o.getD m 0 ∈ left := ord_has hl _ (ho.lt _ (mem_getD.mpr ⟨m, by rw [ho.len]; exact hm, rfl⟩))
  obtain ⟨a, b⟩ := getD_idx hin
  refine ⟨Nat.not_lt.mp fun z => ?_, b⟩
  rw [hl.len] at a
  have e := hj _ z a
  rw [b] at e
  have := nodup_getD.mp ho.nd m _ (by rw [ho.len]; exact hm) (by rw [ho.len]; exact a) e
  omega
theorem walkR_row {n : Nat} {o : List Nat} (ho : OrdOk n o) : ∀ (m : Nat) (left row : List Nat), m < n → OrdOk n left → row.length = n → (∀ j, m < j → j < n → left.getD j 0 = o.getD j 0) →
    (walkR (fun i => o.getD i 0) m left row).length = n ∧ (∀ j, m < j → (walkR (fun i => o.getD i 0) m left row).getD j 0 = row.getD j 0) ∧ ((∀ j, j < n → row.getD j 0 ≤ j) → ∀ j, j < n → (walkR (fun i => o.getD i 0) m left row).getD j 0 ≤ j) ∧
    ∀ r : Nat → Nat, (∀ j, j < n → r j = (walkR (fun i => o.getD i 0) m left row).getD j 0) → OrdOk n (walkO r m left) ∧ ∀ j, 1 ≤ j → j < n → (walkO r m left).getD j 0 = o.getD j 0
  | 0, left, row, hm, hl, hr, hj => ⟨hr, fun _ _ => rfl, fun h => h, fun r _ => ⟨hl, fun j h1 h2 => hj j h1 h2⟩⟩
  | m + 1, left, row, hm, hl, hr, hj => by
    obtain ⟨i1, i2⟩ := left_idx ho hl hm hj
    have hs := hl.swap (i := m + 1) (j := left.idxOf (o.getD (m + 1) 0)) hm (by omega)
    obtain ⟨a, b, c, d⟩ := walkR_row ho m (swapL left (m + 1) (left.idxOf (o.getD (m + 1) 0))) (row.set (m + 1) (left.idxOf (o.getD (m + 1) 0))) (by omega) hs (by simpa using hr) (fun j h1 h2 => by
      rw [swap_getD (by rw [hl.len]; omega) (by rw [hl.len]; omega)]
      by_cases z : j = left.idxOf (o.getD (m + 1) 0)
      · have : j = m + 1 := by omega
        rw [if_pos z]
        rw [← z] at i2
        subst this; exact i2
      · rw [if_neg z]
        by_cases y : j = m + 1
        · rw [if_pos y, i2, y]
        · rw [if_neg y]; exact hj j (by omega) h2)
    refine ⟨a, fun j h1 => ?_, fun h => c fun j h2 => ?_, fun r hr2 => ?_⟩
    · show (walkR (fun i => o.getD i 0) m _ _).getD j 0 = _
      rw [b j (by omega), getD_set (by omega), if_neg (by omega)]
    · rw [getD_set (by omega)]
      by_cases y : j = m + 1
      · rw [if_pos y, y]; exact i1
      · rw [if_neg y]; exact h j h2
    · have e : r (m + 1) = left.idxOf (o.getD (m + 1) 0) := by
        rw [hr2 (m + 1) hm]
        show (walkR (fun i => o.getD i 0) m _ _).getD (m + 1) 0 = _
        rw [b (m + 1) (by omega), getD_set (by omega), if_pos rfl]
      show OrdOk n (walkO r m (swapL left (m + 1) (r (m + 1)))) ∧ ∀ j, 1 ≤ j → j < n → (walkO r m (swapL left (m + 1) (r (m + 1)))).getD j 0 = _
      rw [e]
      exact d r hr2
theorem row_ok {o : List Nat} (h : OrdOk o.length o) : (rowOf o).length = o.length ∧ RowOk (rowOf o) := by
  by_cases e : o.length = 0
  · have : o = [] := List.length_eq_zero_iff.mp e
    subst this
    exact ⟨rfl, fun i v q => by simp [rowOf, walkR] at q⟩
  obtain ⟨a, b, c, d⟩ := walkR_row h (o.length - 1) (List.range o.length) (List.replicate o.length 0) (by omega) (ord_range _) List.length_replicate (fun j h1 h2 => by omega)
  refine ⟨a, fun i v q => ?_⟩
  obtain ⟨hi, ev⟩ := List.getElem?_eq_some_iff.mp q
  have hi2 : i < o.length := by rw [← a]; exact hi
  have := c (fun j hj => by rw [getD_lt (by simpa using hj)]; simp) i hi2
  rw [← ev, ← getD_lt hi]; exact this
theorem order_row {o : List Nat} (h : OrdOk o.length o) : orderOf (rowOf o) = o := by
  by_cases e : o.length = 0
  · have : o = [] := List.length_eq_zero_iff.mp e
    subst this; rfl
  obtain ⟨a, b, c, d⟩ := walkR_row h (o.length - 1) (List.range o.length) (List.replicate o.length 0) (by omega) (ord_range _) List.length_replicate (fun j h1 h2 => by omega)
  obtain ⟨x, y⟩ := d (fun i => (rowOf o).getD i 0) (fun _ _ => rfl)
  have e1 : orderOf (rowOf o) = walkO (fun i => (rowOf o).getD i 0) (o.length - 1) (List.range o.length) := by
    unfold orderOf
    rw [(row_ok h).1]
  rw [e1]
  refine ext_getD x.len fun i hi => ?_
  rw [x.len] at hi
  by_cases z : 1 ≤ i
  · exact y i z hi
  have hi0 : i = 0 := by omega
  subst hi0
  -- the number that is left
  have hm := ord_has x _ (h.lt _ (mem_getD.mpr ⟨0, hi, rfl⟩))
  obtain ⟨j, hj, ej⟩ := mem_getD.mp hm
  by_cases z : j = 0
  · subst z; exact ej
  · rw [x.len] at hj
    rw [y j (by omega) hj] at ej
    have := nodup_getD.mp h.nd j 0 hj hi ej
    omega
end

section
variable {K : PySem.W.Frag} {vs : List V} {G : Hp} {M : Mem} {R : KR} {Z : KX}
theorem asg_C {lo c v : Int} {n i : Nat} {g : KG} {σ : St} {R : St → Hp → Mem → Prop} (e : lo + (i : Nat) * c = v) (q : g.val (.int v) σ G M R) : asg g ((srcC lo c n).get i) σ G M R := by subst e; exact q
theorem asg_R {lo v : Int} {n i : Nat} {g : KG} {σ : St} {R : St → Hp → Mem → Prop} (e : lo + (i : Nat) = v) (q : g.val (.int v) σ G M R) : asg g ((srcR lo n).get i) σ G M R := by subst e; exact q
theorem rgV_nats (n : Nat) : rgV 0 (n : Int) = natsV (List.range n) := by
  unfold rgV natsV
  rw [show ((n : Int) - 0).toNat = n by omega]
  refine List.map_congr_left fun i _ => ?_
  rw [Int.zero_add]
theorem atI_natD {l : List Nat} {i : Nat} (h : i < l.length) : atI (natsV l) (i : Int) = some (.int (l.getD i 0 : Nat)) := atI_nats (by rw [getD_lt h, List.getElem?_eq_getElem h])
theorem ixN_nat {n i : Nat} (h : i < n) : ixN n (i : Int) = some i := by rw [ixN_int (by omega) (by omega)]; rfl
theorem natsV_set {l : List Nat} {i v : Nat} : (natsV l).set i (.int (v : Int)) = natsV (l.set i v) := by unfold natsV; rw [List.map_set]
theorem tyk_cons {x : V} {T : PT} {y : Addr × HO} (h : TyK K G M x T) : TyK K G (y :: M) x T := fun H hv => h H (Wk.drop0 H hv)
theorem all_snoc (bs : List Bool) (b : Bool) : (bs ++ [b]).all id = (bs.all id && b) := by simp
theorem within_int {x : V} {lo hi : Int} (h : withinV x lo hi = true) : ∃ i, x = .int i ∧ lo ≤ i ∧ i ≤ hi := by
  cases x with
  | int i =>
    have h : (decide (lo ≤ i) && decide (i ≤ hi)) = true := h
    rw [Bool.and_eq_true] at h
    exact ⟨i, rfl, of_decide_eq_true h.1, of_decide_eq_true h.2⟩
  | _ => cases h
theorem map_intOf {xs : List V} {hi : Int} (h : xs.all (fun x => withinV x 0 hi) = true) : xs = (xs.map intOf).map V.int := by
  rw [List.map_map]
  have : ∀ x, x ∈ xs → x = (V.int ∘ intOf) x := fun x hx => by
    obtain ⟨i, rfl, _⟩ := within_int (List.all_eq_true.mp h x hx)
    rfl
  exact (List.map_id xs).symm.trans (List.map_congr_left this)
theorem ints_ty {l : List Nat} : ItemsTy K G M (natsV l) := fun x hx => by
  obtain ⟨n, _, rfl⟩ := List.mem_map.mp hx
  exact ⟨.int, ty_int, rfl⟩
theorem nodup_natsV {l : List Nat} : ((natsV l).map intOf).Nodup ↔ l.Nodup := by
  unfold natsV
  rw [List.map_map]
  constructor
  · intro h
    exact (List.pairwise_map.mp h).imp fun {a b} (z : ((a : Nat) : Int) ≠ (b : Nat)) (e : a = b) => z (by rw [e])
  · intro h
    exact List.pairwise_map.mpr (h.imp fun {a b} z (e : ((a : Nat) : Int) = (b : Nat)) => z (by omega))
theorem orderB_nats {o : List Nat} (h : OrdOk o.length o) (h1 : 1 ≤ o.length) (h2 : o.length ≤ 64) : orderB (natsV o) = true := by
  unfold orderB
  rw [natsV_len, decide_eq_true h1, decide_eq_true h2, decide_eq_true (nodup_natsV.mpr h.nd), List.all_eq_true.mpr]
  · rfl
  · intro x hx
    obtain ⟨n, hn, rfl⟩ := List.mem_map.mp hx
    have := h.lt n hn
    exact wi_in (by omega) (by omega)
theorem ordV_nats {a : Addr} {o : List Nat} (ha : LstAt K G M a (natsV o)) (h : OrdOk o.length o) (h1 : 1 ≤ o.length) (h2 : o.length ≤ 64) : ordV K G M (.ref a) true :=
  .inr ⟨a, _, rfl, ha, by rw [natsV_len]; omega, ints_ty, (orderB_nats h h1 h2).symm⟩
theorem natsV_flat (l : List Nat) : (natsV l).all flatV = true := List.all_eq_true.mpr fun x hx => by
  obtain ⟨n, _, rfl⟩ := List.mem_map.mp hx
  rfl
theorem idx_before {l : List Nat} {x m : Nat} (h : m < l.idxOf x) (hl : m < l.length) : l.getD m 0 ≠ x := fun e => by
  have := List.not_of_lt_findIdx (p := fun y => y == x) (xs := l) (i := m) h
  rw [getD_lt hl] at e
  rw [e] at this
  simp at this
theorem rep_zeros (n : Nat) : (List.replicate n [V.int 0]).flatten = natsV (List.replicate n 0) := by
  induction n with
  | zero => rfl
  | succ n ih => rw [List.replicate_succ, List.flatten_cons, ih]; rfl
end

section
variable {K : PySem.W.Frag} {vs : List V} {G : Hp} {M : Mem} {R : KR} {Z : KX}
theorem Fr.keys {M M' : Mem} {p : Addr} (h : Fr G M p) (e : M'.map (·.1) = M.map (·.1) := by rfl) : Fr G M' p := ⟨h.1, fun x hx z => by
  have : x.1 ∈ M'.map (·.1) := List.mem_map.mpr ⟨x, hx, rfl⟩
  rw [e] at this
  obtain ⟨y, hy, ey⟩ := List.mem_map.mp this
  exact h.2 y hy (ey.trans z)⟩
/-! ### cells that were just laid, frozen together -/
inductive Frs (G : Hp) (M : Mem) : Mem → Prop
  | nil : Frs G M []
  | cons {p : Addr} {o : HO} {Mx : Mem} : Fr G (Mx ++ M) p → Frs G M Mx → Frs G M ((p, o) :: Mx)
theorem Frs.key {Mx : Mem} (h : Frs G M Mx) : ∀ x, x ∈ Mx → G x.1 = none ∧ ∀ y, y ∈ M → y.1 ≠ x.1 := by
  induction h with
  | nil => intro x hx; cases hx
  | cons f _ ih =>
    intro x hx
    rcases List.mem_cons.mp hx with rfl | hx
    · exact ⟨f.1, fun y hy => f.2 y (List.mem_append.mpr (.inr hy))⟩
    · exact ih x hx
theorem Frs.upd {Mx : Mem} {p : Addr} {o : HO} (h : Frs G M Mx) (f : ∀ x, x ∈ Mx → x.1 ≠ p) : Frs (upd G p o) M Mx := by
  induction h with
  | nil => exact .nil
  | cons f1 _ ih => exact .cons ⟨by rw [upd_ne (f _ List.mem_cons_self)]; exact f1.1, f1.2⟩ (ih fun x hx => f x (List.mem_cons_of_mem _ hx))
theorem frz_pre {M : Mem} : ∀ {Mx : Mem} {G : Hp}, Frs G M Mx → ∃ G', Ex G G' ∧ (∀ x, x ∈ Mx → G' x.1 = some x.2) ∧ Wk G (Mx ++ M) G' M ∧ ∀ q, G q = none → (∀ x, x ∈ Mx → x.1 ≠ q) → G' q = none
  | [], G, _ => ⟨G, Ex.refl, fun _ h => (nomatch h), Wk.refl, fun _ h _ => h⟩
  | (p, o) :: Mx, G, h => by
    cases h with
    | cons f h =>
      have hp : ∀ x, x ∈ Mx → x.1 ≠ p := fun x hx => f.2 x (List.mem_append.mpr (.inl hx))
      obtain ⟨G', e, a, w, n⟩ := frz_pre (h.upd (o := o) hp)
      refine ⟨G', (Ex.new f).trans e, fun x hx => ?_, Wk.frz0.trans w, fun q hq hx => ?_⟩
      · rcases List.mem_cons.mp hx with rfl | hx
        · exact e p o upd_same
        · exact a x hx
      · exact n q (by rw [upd_ne (Ne.symm (hx (p, o) List.mem_cons_self))]; exact hq) fun x h2 => hx x (List.mem_cons_of_mem _ h2)
theorem Frs.more {Mx : Mem} {x : Addr × HO} (h : Frs G M Mx) (f : ∀ y, y ∈ Mx → x.1 ≠ y.1) : Frs G (x :: M) Mx := by
  induction h with
  | nil => exact .nil
  | @cons p o Mx f1 _ ih =>
    refine .cons ⟨f1.1, fun y hy => ?_⟩ (ih fun y hy => f y (List.mem_cons_of_mem _ hy))
    rcases List.mem_append.mp hy with hy | hy
    · exact f1.2 y (List.mem_append.mpr (.inl hy))
    · rcases List.mem_cons.mp hy with rfl | hy
      · exact f _ List.mem_cons_self
      · exact f1.2 y (List.mem_append.mpr (.inr hy))
/-- the same beneath one cell -/
theorem frz_pre1 {Mx : Mem} {s : Addr} {o : HO} (h : Frs G M Mx) (f : Fr G (Mx ++ M) s) : ∃ G', Ex G G' ∧ (∀ x, x ∈ Mx → G' x.1 = some x.2) ∧ Wk G ((s, o) :: (Mx ++ M)) G' ((s, o) :: M) ∧ Fr G' M s := by
  obtain ⟨G', a, b, c, d⟩ := frz_pre (h.more (x := (s, o)) fun y hy => Ne.symm (f.2 y (List.mem_append.mpr (.inl hy))))
  exact ⟨G', a, b, (Wk.perm List.perm_middle).trans c, d s f.1 fun x hx => f.2 x (List.mem_append.mpr (.inl hx)), fun x hx => f.2 x (List.mem_append.mpr (.inr hx))⟩
theorem kseq_wk {t u : KS} {D : Kd} {σ : St} {G G' : Hp} {M M' : Mem} (w : Wk G M G' M') (h : kSeq t u D σ G' M') : kSeq t u D σ G M := by
  obtain ⟨a, b, c, d⟩ := h
  exact ⟨a, b, w.trans c, d⟩
/-! ### things whose type is known -/
theorem ty_ex {G' : Hp} {x : V} {T : PT} (e : Ex G G') (h : ∀ M, TyK K G M x T) : ∀ M, TyK K G' M x T := fun M H hv => h M H (Wk.less e H hv)
theorem WOk.ex {G' : Hp} {w : V} (e : Ex G G') (h : WOk K G w) : WOk K G' w := by
  obtain ⟨S, h1, h2⟩ := h
  exact ⟨S, ty_ex e h1, h2⟩
theorem IOk.ex {G' : Hp} {w : V} (e : Ex G G') (h : IOk K G w) : IOk K G' w := by
  obtain ⟨S, h1, h2⟩ := h
  exact ⟨S, ty_ex e h1, h2⟩
theorem iok_int {i : Int} : IOk K G (.int i) := ⟨.int, fun _ => ty_int, rfl⟩
theorem iok_non : IOk K G .non := ⟨.non, fun _ => ty_non, rfl⟩
theorem iok_bl {b : Bool} : IOk K G (.bl b) := ⟨.bool, fun _ => ty_bl, rfl⟩
theorem iok_str {b : Str} : IOk K G (.str b) := ⟨.str, fun _ => ty_str, rfl⟩
theorem iok_tup {a : Addr} {xs : List V} (h : SqT K G a xs) : IOk K G (.ref a) := ⟨.tuple, fun _ => ty_tup h, rfl⟩
theorem iok_lst {a : Addr} {xs : List V} (h : SqL K G a xs) : IOk K G (.ref a) := ⟨.list, fun _ => ty_lst (.inr h), rfl⟩
theorem iok_dict {a : Addr} {xs : List (Key × V)} (h : G a = some (.dK xs)) : IOk K G (.ref a) := ⟨.dict, fun _ => ty_dict (.inr h), rfl⟩
theorem wok_str {b : Str} : WOk K G (.str b) := ⟨.str, fun _ => ty_str, rfl⟩
def boolsD (l : List Bool) : PyData := .list (l.map .bool)
theorem dp_bools : ∀ l : List Bool, DpAll K G (l.map V.bl) (l.map PyData.bool)
  | [] => .nil
  | b :: l => .cons (.bl b) (dp_bools l)
theorem shp_bools (l : List Bool) : Shp 1 (boolsD l) := .list fun d hd => by
  obtain ⟨b, _, rfl⟩ := List.mem_map.mp hd
  exact .bl
/-! ### slices of numbers -/
theorem cut_take {xs : List V} {k : Nat} : cutV xs none (some (k : Int)) = xs.take k := by
  unfold cutV
  rw [HT.sIx_none, HT.sIx_nat, List.drop_zero, Nat.sub_zero]
  rw [Nat.min_def]; split
  · rfl
  · rw [List.take_length, List.take_of_length_le (by omega)]
theorem cut_drop {xs : List V} {k : Nat} : cutV xs (some (k : Int)) none = xs.drop k := by
  unfold cutV
  rw [HT.sIx_none, HT.sIx_nat, Nat.min_def]; split
  · rw [List.take_of_length_le (by rw [List.length_drop]; exact Nat.le_refl _)]
  · rw [List.drop_length, List.take_nil, List.drop_of_length_le (by omega)]
theorem cut_init {xs : List V} : cutV xs none (some (-1)) = xs.dropLast := by
  unfold cutV
  rw [HT.sIx_none, List.drop_zero, Nat.sub_zero, List.dropLast_eq_take]
  have e : HT.sIx xs.length xs.length (some (-1)) = xs.length - 1 := by
    show (if (-1 : Int) < 0 then (-1 + (xs.length : Int)).toNat else min (-1 : Int).toNat xs.length) = _
    rw [if_pos (by decide)]; omega
  rw [e]
theorem natsV_take {l : List Nat} {k : Nat} : (natsV l).take k = natsV (l.take k) := by unfold natsV; rw [List.map_take]
theorem natsV_drop {l : List Nat} {k : Nat} : (natsV l).drop k = natsV (l.drop k) := by unfold natsV; rw [List.map_drop]
theorem natsV_app {l m : List Nat} : natsV l ++ natsV m = natsV (l ++ m) := by unfold natsV; rw [List.map_append]
/-- numbers as data -/
def natsD (l : List Nat) : List PyData := l.map fun (n : Nat) => PyData.int (n : Int)
theorem dp_nats : ∀ (l : List Nat), DpAll K G (natsV l) (natsD l)
  | [] => .nil
  | n :: l => .cons (.int _) (dp_nats l)
theorem shp_nats {n : Nat} (l : List Nat) : Shp (n + 1) (.list (natsD l)) := .list fun d hd => by
  obtain ⟨i, _, rfl⟩ := List.mem_map.mp hd
  exact .int
theorem dat_nats {a : Addr} {l : List Nat} (h : LstAt K G M a (natsV l)) : DatAt K G M (.ref a) (.list (natsD l)) := dat_list h (dats_g (dp_nats l))
theorem natsD_inj : ∀ {l m : List Nat}, natsD l = natsD m → l = m
  | [], [], _ => rfl
  | [], _ :: _, h => by cases h
  | _ :: _, [], h => by cases h
  | a :: l, b :: m, h => by
    have h1 := List.cons.inj h
    have := PyData.int.inj h1.1
    rw [natsD_inj h1.2]
    congr 1; omega
/-- something drawn from a written list -/
theorem pick {l : List V} {p : Addr} {n : Nat} {c s : Int} (hn : M[n]? = some (p, pool c s)) (hs : PoolOk s) (h0 : 0 < l.length) (h1 : l.length ≤ 1000)
    (q : ∀ y c' s' d, y ∈ l → PoolOk s' → Fr G M d → R y G ((d, .lst l) :: M.set n (p, pool c' s'))) :
    l.length ≤ sizeLine ∧ ∀ d, Fr G M d → S_law_take K [.ref p, .int (l.length : Int)] G ((d, .lst l) :: M) (fun y G M => kIx K (.ref d) y G M R) E0 := by
  refine ⟨sz (by omega), fun d fd => ⟨p, l.length, n + 1, c, s, rfl, rfl, hn, hs, by omega, ?_, fun r c' s' r0 r1 hs' => ?_⟩⟩
  · have : (l.length : Int) ≤ 1000 := by omega
    have : (1000 : Int) < 2 ^ 200 := by decide
    omega
  · obtain ⟨y, hy, hm⟩ := at_mem (l := l) r0 r1
    exact ⟨l, y, lst_n (n := 0) rfl, hy, q y c' s' d hm hs' fd⟩
end

section
variable {K : PySem.W.Frag} {vs : List V} {G : Hp} {M : Mem} {R : KR} {Z : KX}
theorem pf_law_whole (h : S_law_whole K vs G M R Z) : rd_law_whole K (ends R Z) (sta 1 vs) G M := by
  obtain ⟨x, rfl, T, hT, q⟩ := sp1_of h
  refine ⟨G, M, Wk.refl, .type T.name, .type "int", _, .ty "int", hT, kit_pt T .int, ite2' (fun e => ?_) (fun e => ?_)⟩
  · refine ⟨.type T.name, .type "bool", _, .ty "bool", hT, kit_pt T .bool, ret0 ?_⟩
    have e2 : (!isaB T .bool) = (T == .int) := by revert e; cases T <;> decide
    rw [e2]; exact q
  · have e2 : false = (T == .int) := by revert e; cases T <;> decide
    refine ret0 ?_
    rw [e2]; exact q
end

section
theorem eqvA_ints : ∀ xs ys : List Int, PyData.eqvAll (xs.map .int) (ys.map .int) = decide (xs = ys)
  | [], [] => by simp [PyData.eqvAll]
  | [], _ :: _ => by simp [PyData.eqvAll]
  | _ :: _, [] => by simp [PyData.eqvAll]
  | x :: xs, y :: ys => by
    show (PyData.eqv (.int x) (.int y) && PyData.eqvAll (xs.map .int) (ys.map .int)) = _
    rw [eqvA_ints xs ys]
    have : PyData.eqv (.int x) (.int y) = decide (x = y) := by
      show (x == y) = _
      by_cases e : x = y <;> simp [e]
    rw [this]
    by_cases e1 : x = y <;> by_cases e2 : xs = ys <;> simp [e1, e2]
theorem eqvL_ints (xs ys : List Int) : PyData.eqv (.list (xs.map .int)) (.list (ys.map .int)) = decide (xs = ys) := eqvA_ints xs ys
theorem natsD_ints (l : List Nat) : natsD l = (l.map fun (n : Nat) => (n : Int)).map PyData.int := by unfold natsD; rw [List.map_map]; rfl
theorem eqvL_nats (l m : List Nat) : PyData.eqv (.list (natsD l)) (.list (natsD m)) = decide (l = m) := by
  rw [natsD_ints, natsD_ints, eqvL_ints]
  by_cases e : l = m
  · subst e; simp
  · rw [decide_eq_false e, decide_eq_false]
    intro z
    exact e (natsD_inj (by rw [natsD_ints, natsD_ints, z]))
theorem eqvL_nil (ds : List PyData) : PyData.eqv (.list ds) (.list []) = ds.isEmpty := by
  cases ds <;> rfl
end

section
variable {K : PySem.W.Frag} {vs : List V} {G : Hp} {M : Mem} {R : KR} {Z : KX}
theorem range_all_succ (f : Nat → Bool) (i : Nat) : (List.range (i + 1)).all f = ((List.range i).all f && f i) := by rw [List.range_succ, List.all_append]; simp
theorem pf_is_row (h : S_is_row K vs G M R Z) : rd_is_row K (ends R Z) (sta 4 vs) G M := by
  obtain ⟨_, y, rfl, n, b, rfl, hy, q⟩ := sp2_of h
  rcases hy with ⟨T, hT, hne, rfl⟩ | ⟨a, xs, rfl, ha, hl, hi, rfl⟩
  · refine ⟨G, M, Wk.refl, .type T.name, .type "list", _, .ty "list", hT, kit_pt T .list, ite2' (c := !isaB T .list) (fun _ => ⟨G, M, Wk.refl, ret0 q⟩) (fun e => ?_)⟩
    exfalso; revert e hne; cases T <;> decide
  refine ⟨G, M, Wk.refl, .type PT.list.name, .type "list", _, .ty "list", ty_lst ha, kit_pt .list .list, ?_⟩
  refine ⟨xs, .inl ha, ite2' (c := !decide (V.int (xs.length : Int) = .int (n : Int))) (fun e => ?_) (fun e => ?_)⟩
  · have e : ¬ xs.length = n := fun z => by rw [decide_eq_true (by rw [z])] at e; cases e
    have e2 : rowB n xs = false := by unfold rowB; rw [decide_eq_false e, Bool.false_and]
    rw [e2] at q
    exact ⟨G, M, Wk.refl, ret0 q⟩
  have e : xs.length = n := by
    have e : decide (V.int (xs.length : Int) = .int (n : Int)) = true := by simpa using e
    have := V.int.inj (of_decide_eq_true e); omega
  refine ⟨G, M, Wk.refl, xs, ha, sz (by show xs.length ≤ _; omega), fun i acc G' M' => acc = ((List.range i).map fun (j : Nat) => withinV (xs.getD j .non) 0 (j : Int)).map V.bl ∧ G' = G ∧ M' = M, ⟨rfl, rfl, rfl⟩, ?_, ?_, ?_⟩
  · rintro i acc G' M' _ ⟨rfl, rfl, rfl⟩; exact ha
  · rintro i acc G' M' D hi2 _ ⟨rfl, rfl, rfl⟩ fD
    obtain ⟨v, hv⟩ : ∃ v, xs[i]? = some v := ⟨_, List.getElem?_eq_getElem hi2⟩
    obtain ⟨T, hT, ht⟩ := hi v (List.mem_of_getElem? hv)
    refine asg_E hv ⟨rfl, T, 0, (i : Int), rfl, rfl, tyk_cons hT, ht, _, _, Wk.refl, ?_, rfl, rfl⟩
    rw [List.range_succ, List.map_append, List.map_append]
    show _ = _ ++ [V.bl (withinV (xs.getD i .non) 0 (i : Int))]
    rw [getD_of hv]
  · rintro acc G' M' p ⟨rfl, rfl, rfl⟩ _ fp
    refine ⟨_, lat_0, retW Wk.drop0 ?_⟩
    have e2 : rowB n xs = ((List.range xs.length).map fun (j : Nat) => withinV (xs.getD j .non) 0 (j : Int)).all id := by unfold rowB; rw [decide_eq_true e, Bool.true_and, List.all_map]; rfl
    rw [e2] at q
    exact q
theorem pf_is_draw (h : S_is_draw K vs G M R Z) : rd_is_draw K (ends R Z) (sta 2 vs) G M := by
  obtain ⟨x, y, rfl, k, b, hk, hok, hy, q⟩ := sp2_of h
  obtain ⟨t, rfl, ht⟩ := dp_kn_inv hk
  have hS : SeqAt' K G M t [.str k.txt, .int k.n] := .inr ht
  refine ⟨G, M, Wk.refl, _, _, hS, rfl, ite2' (c := decide (V.str k.txt = .str "leaf")) (fun e => ?_) (fun e => ?_)⟩
  · rw [txt_leaf] at e
    unfold DrawV at hy
    rw [if_pos e] at hy
    obtain ⟨T, hT, hti, rfl⟩ := hy
    have := hok.2.1 e
    exact ⟨G, M, Wk.refl, _, _, hS, rfl, k.n, rfl, by omega, T, 0, ((2 ^ k.n : Nat) : Int) - 1, rfl, rfl, hT, hti, ret0 q⟩
  · rw [txt_leaf] at e
    unfold DrawV at hy
    rw [if_neg (by rw [e]; exact Bool.false_ne_true)] at hy
    exact ⟨G, M, Wk.refl, _, _, hS, rfl, k.n, b, rfl, hy, ret0 q⟩
theorem draw_ok {k : Kn} {d : Dr} {v : V} (h : DrOk k d) (hk : KnOk k) (hv : DrV K G M v d) : DrawV K G M k v true := by
  unfold DrawV
  cases d with
  | leaf n =>
    obtain ⟨e, hn⟩ := h
    rw [if_pos e]
    have hv : v = .int n := hv
    subst hv
    exact ⟨.int, ty_int, rfl, (wi_in (by omega) (by omega)).symm⟩
  | row l =>
    obtain ⟨e, hl, hr⟩ := h
    rw [if_neg (by rw [e]; exact Bool.false_ne_true)]
    obtain ⟨b, rfl, hb⟩ := hv
    have := hk.1
    refine .inr ⟨b, natsV l, rfl, hb, by rw [natsV_len]; omega, ints_ty, ?_⟩
    unfold rowB
    rw [natsV_len, decide_eq_true hl, Bool.true_and]
    refine (List.all_eq_true.mpr fun i hi => ?_).symm
    have hi := List.mem_range.mp hi
    have hg := List.getElem?_eq_getElem hi
    rw [getD_of (natsV_get hg)]
    have := hr i _ hg
    exact wi_in (by omega) (by omega)
theorem DrV.ex {G' : Hp} {v : V} {d : Dr} (e : Ex G G') (h : DrV K G M v d) : DrV K G' M v d := by
  cases d with
  | leaf n => exact h
  | row l => obtain ⟨b, rfl, hb⟩ := h; exact ⟨b, rfl, lat_ex e hb⟩
theorem DrsG.ex {G' : Hp} {p : Addr} {ds : List Dr} (e : Ex G G') (h : DrsG K G p ds) : DrsG K G' p ds := by
  obtain ⟨us, h1, h2⟩ := h
  exact ⟨us, ex_l e h1, h2.mono fun _ _ q => q.ex e⟩
end

section
variable {K : PySem.W.Frag} {vs : List V} {G : Hp} {M : Mem} {R : KR} {Z : KX}
theorem Wk.of_eq {N : Mem} (e : M = N) : Wk G M G N := e ▸ Wk.refl
theorem get_app {B N : Mem} {n : Nat} {x : Addr × HO} (h : N[n]? = some x) : (B ++ N)[B.length + n]? = some x := by
  rw [List.getElem?_append_right (by omega), Nat.add_sub_cancel_left]; exact h
theorem set_app {B N : Mem} {n : Nat} {x : Addr × HO} : (B ++ N).set (B.length + n) x = B ++ N.set n x := by
  rw [List.set_append_right _ _ (by omega), Nat.add_sub_cancel_left]
theorem set_keys : ∀ {N : Mem} {n : Nat} {p : Addr} {o o' : HO}, N[n]? = some (p, o) → (N.set n (p, o')).map (·.1) = N.map (·.1)
  | [], _, _, _, _, h => by simp at h
  | _ :: _, 0, _, _, _, h => by cases h; rfl
  | x :: N, n + 1, p, o, o', h => by
    show x.1 :: (N.set n (p, o')).map (·.1) = x.1 :: N.map (·.1)
    rw [set_keys (by simpa using h)]
theorem natsV_app2 (a b : List Nat) : natsV (a ++ b) = natsV a ++ natsV b := by unfold natsV; rw [List.map_append]
theorem in_nats {c : Nat} {l : List Nat} : inV (.int (c : Int)) (natsV l) = decide (c ∈ l) := by
  induction l with
  | nil => rfl
  | cons x l ih =>
    show (((x : Int) == (c : Int)) || inV (.int (c : Int)) (natsV l)) = _
    rw [ih]
    by_cases e : x = c
    · subst e; simp
    · have : ¬ ((x : Int) = (c : Int)) := by omega
      have e2 : ¬ (c = x) := fun z => e z.symm
      simp [this, e2]
theorem flat_nats (l : List Nat) : (natsV l).all flatV = true := List.all_eq_true.mpr fun v hv => by
  obtain ⟨n, _, rfl⟩ := List.mem_map.mp hv; rfl
theorem ints_nats : ∀ {ys : List Int}, (∀ y, y ∈ ys → 0 ≤ y) → ∃ l : List Nat, ys = l.map fun (i : Nat) => (i : Int)
  | [], _ => ⟨[], rfl⟩
  | y :: ys, h => by
    obtain ⟨l, rfl⟩ := ints_nats fun z hz => h z (List.mem_cons_of_mem _ hz)
    obtain ⟨n, rfl⟩ := Int.eq_ofNat_of_zero_le (h y List.mem_cons_self)
    exact ⟨n :: l, rfl⟩
theorem natsV_ints (l : List Nat) : (l.map fun (i : Nat) => (i : Int)).map V.int = natsV l := by unfold natsV; rw [List.map_map]; rfl
theorem perm_nats {l m : List Nat} (h : (l.map fun (i : Nat) => (i : Int)).Perm (m.map fun (i : Nat) => (i : Int))) : l.Perm m := by
  have := h.map Int.toNat
  rw [List.map_map, List.map_map, List.map_congr_left (g := id) (fun _ _ => by simp), List.map_congr_left (l := m) (g := id) (fun _ _ => by simp), List.map_id, List.map_id] at this
  exact this
theorem nat_sorted_eq {a b : List Nat} (h : a.Perm b) (ha : a.Pairwise (· ≤ ·)) (hb : b.Pairwise (· ≤ ·)) : a = b := List.Perm.eq_of_pairwise (fun x y _ _ h1 h2 => by omega) ha hb h
end

section
theorem rowok_snoc {l : List Nat} {v : Nat} (h : RowOk l) (hv : v ≤ l.length) : RowOk (l ++ [v]) := fun i w e => by
  by_cases z : i < l.length
  · rw [List.getElem?_append_left z] at e; exact h i w e
  · rw [List.getElem?_append_right (by omega)] at e
    have : i - l.length = 0 := by
      apply Decidable.byContradiction
      intro hn
      rw [List.getElem?_eq_none (by show 1 ≤ _; omega)] at e; cases e
    rw [this] at e
    cases e
    omega
end

section
variable {K : PySem.W.Frag} {vs : List V} {G : Hp} {M : Mem} {R : KR} {Z : KX}
theorem pf_NoDraws_init (h : S_NoDraws_init K vs G M R Z) : rd_NoDraws_init K (ends R Z) (sta 2 vs) G M := by
  obtain ⟨_, v, rfl, a, F, rfl, rfl, q⟩ := sp2_of h
  exact ⟨G, _, Wk.refl, a, _, rfl, Nat.le_of_ble_eq_true rfl, .inl List.mem_cons_self, G, _, Wk.refl, a, 0, rfl, rfl, fun dx fd => ret0 (q dx fd)⟩
end

section
variable {K : PySem.W.Frag} {vs : List V} {G : Hp} {M : Mem} {R : KR} {Z : KX}
/-! things -/
theorem rp_int {v : V} {d : XD} (r : Rp K G [] v d) : (d.ty == .int) = isIntV v := by cases r <;> rfl
theorem rp_wi {v : V} {d : XD} (r : Rp K G [] v d) (lo hi : Int) : withinV v lo hi = wiX d lo hi := by cases r <;> rfl
theorem rpa_len {us : List V} {ds : List XD} (h : RpA K G [] us ds) : us.length = ds.length := h.len
theorem rpa_at {us : List V} {ds : List XD} (h : RpA K G [] us ds) : ∀ {i : Nat} {v : V} {d : XD}, us[i]? = some v → ds[i]? = some d → Rp K G [] v d := by
  induction us generalizing ds with
  | nil => intro i v d e; simp at e
  | cons u us ih =>
    cases h with
    | cons a b =>
      intro i v d e1 e2
      cases i with
      | zero => cases e1; cases e2; exact a
      | succ i => exact ih b (by simpa using e1) (by simpa using e2)
theorem rpa_get {us : List V} {ds : List XD} (h : RpA K G [] us ds) {i : Nat} {d : XD} (e : ds[i]? = some d) : ∃ v, us[i]? = some v ∧ Rp K G [] v d := by
  obtain ⟨v, d', h1, h2, h3⟩ := h.get (i := i) (by rw [h.len]; exact (List.getElem?_eq_some_iff.mp e).1)
  rw [e] at h2; cases h2
  exact ⟨v, h1, h3⟩
theorem row_bx {us : List V} {ds : List XD} (h : RpA K G [] us ds) (n : Nat) : rowB n us = rowX n (.list ds) := by
  unfold rowB
  show _ = (decide (ds.length = n) && (List.range ds.length).all fun i => wiX (ds.getD i .non) 0 (i : Int))
  rw [h.len]
  congr 1
  refine Bool.eq_iff_iff.mpr ⟨fun e => List.all_eq_true.mpr fun i hi => ?_, fun e => List.all_eq_true.mpr fun i hi => ?_⟩
  all_goals
    have e := List.all_eq_true.mp e i hi
    obtain ⟨v, d, h1, h2, h3⟩ := h.get (i := i) (by rw [h.len]; exact List.mem_range.mp hi)
    have g1 : us.getD i .non = v := getD_of h1
    have g2 : ds.getD i .non = d := by rw [List.getD_eq_getElem?_getD, h2]; rfl
    first
      | (rw [g1, rp_wi h3] at e; rw [g2]; exact e)
      | (rw [g2] at e; rw [g1, rp_wi h3]; exact e)
theorem rpa_ty {us : List V} {ds : List XD} (h : RpA K G [] us ds) : ItemsTy K G M us := fun v hv => by
  obtain ⟨i, hi⟩ := List.getElem?_of_mem hv
  obtain ⟨v', d, h1, h2, h3⟩ := h.get (i := i) (List.getElem?_eq_some_iff.mp hi).1
  rw [hi] at h1; cases h1
  exact ⟨d.ty, rp_ty h3 M, rp_int h3⟩
theorem drawV_of {k : Kn} {v : V} {d : XD} (r : Rp K G [] v d) (hl : LenX d) : DrawV K G M k v (drawX k d) := by
  unfold DrawV drawX
  cases hk : k.leaf with
  | true => exact ⟨d.ty, rp_ty r M, rp_int r, (rp_wi r _ _).symm⟩
  | false =>
    show RowV K G M k.n v (rowX k.n d)
    cases d with
    | list ds =>
      cases r with
      | @list a us _ ha hs => exact .inr ⟨a, us, rfl, .inr (sql_of (ha.elim (fun z => nomatch z) id)), by rw [hs.len]; exact hl, rpa_ty hs, (row_bx hs _).symm⟩
    | _ => exact .inl ⟨_, rp_ty r M, (fun z => nomatch z), rfl⟩
theorem xd_isl {d : XD} (e : (!isaB d.ty .list) = false) : ∃ ds, d = .list ds := by
  cases d with
  | list ds => exact ⟨ds, rfl⟩
  | _ => exact nomatch (show true = false from e)
theorem row_nl {n : Nat} {d : XD} (e : (!isaB d.ty .list) = true) : rowX n d = false := by
  cases d with
  | list ds => exact nomatch (show false = true from e)
  | _ => rfl
theorem wi_nint {d : XD} {lo hi : Int} (e : (d.ty == .int) = false) : wiX d lo hi = false := by
  cases d with
  | int i => exact nomatch (show true = false from e)
  | _ => rfl
theorem xd_int {d : XD} (e : (d.ty == .int) = true) : ∃ i, d = .int i := by
  cases d with
  | int i => exact ⟨i, rfl⟩
  | _ => exact nomatch (show false = true from e)
theorem flt_yes {p : Nat → Bool} {i : Nat} (h : p i = true) : natsV ((List.range i).filter p) ++ [.int (i : Nat)] = natsV ((List.range (i + 1)).filter p) := by
  rw [List.range_succ, List.filter_append, List.filter_cons_of_pos (p := p) h]
  unfold natsV
  rw [List.map_append]; rfl
theorem flt_no {p : Nat → Bool} {i : Nat} (h : p i = false) : natsV ((List.range i).filter p) = natsV ((List.range (i + 1)).filter p) := by
  rw [List.range_succ, List.filter_append, List.filter_cons_of_neg (p := p) (by rw [h]; exact Bool.false_ne_true), List.filter_nil, List.append_nil]
theorem flt_all {p : Nat → Bool} : ∀ l : List Nat, (l.filter fun i => !p i).isEmpty = l.all p
  | [] => rfl
  | i :: l => by
    rw [List.all_cons, ← flt_all l]
    cases h : p i with
    | true => rw [List.filter_cons_of_neg (by rw [h]; decide), Bool.true_and]
    | false => rw [List.filter_cons_of_pos (by rw [h]; decide), Bool.false_and]; rfl
theorem decV (i : Int) (j : Int) : decide (V.int i = V.int j) = decide (i = j) := by
  rw [Bool.eq_iff_iff, decide_eq_true_iff, decide_eq_true_iff]
  exact ⟨fun e => V.int.inj e, fun e => by rw [e]⟩
theorem nil_eq {a b : Addr} {l : List Nat} (ha : LstAt K G M a (natsV l)) (hb : LstAt K G M b []) (q : R (.bl l.isEmpty) G M) : kEqv false K (.ref a) (.ref b) G M R := by
  have hz : natsV l = (l.map fun n : Nat => (n : Int)).map V.int := by unfold natsV; rw [List.map_map]; rfl
  rw [hz] at ha
  show ∃ d e, DatAt K G M (.ref a) d ∧ DatAt K G M (.ref b) e ∧ SeqAt.shaped d = true ∧ SeqAt.shaped e = true ∧ R (.bl (PyData.eqv d e)) G M
  refine ⟨_, _, dat_ints ha, dat_ints (ns := []) hb, (shp_ints (n := 0) _).shaped (by decide), (shp_ints (n := 0) []).shaped (by decide), ?_⟩
  have e : PyData.eqv (.list ((l.map fun n : Nat => (n : Int)).map PyData.int)) (.list (([] : List Int).map PyData.int)) = l.isEmpty := by
    rw [PyData.eqv]
    cases l with
    | nil => rfl
    | cons a l => rfl
  rw [e]; exact q
/-! the law's own look at a draw -/
theorem pf_law_is_draw (h : S_law_is_draw K vs G M R Z) : rd_law_is_draw K (ends R Z) (sta 3 vs) G M := by
  obtain ⟨x, y, rfl, k, d, hx, hk, r, hl, q⟩ := sp2_of h
  clear h
  obtain ⟨t, rfl, ht⟩ := dp_kn_inv hx
  refine ⟨G, M, Wk.refl, _, _, tup_g ht, rfl, ?_⟩
  show if decide (V.str k.txt = .str "leaf") = true then _ else _
  rw [txt_leaf]
  refine ite2' (fun e => ?_) (fun e => ?_)
  · have h6 := hk.2.1 e
    have e2 : (1 : Int) * 2 ^ (k.n : Int).toNat = ((2 ^ k.n : Nat) : Int) := by simp
    have hd : drawX k d = wiX d 0 (((2 ^ k.n : Nat) : Int) - 1) := by unfold drawX; rw [if_pos e]
    refine ⟨G, M, Wk.refl, d.ty, rp_ty r M, ?_⟩
    show if (d.ty == .int) = true then _ else _
    refine ite2' (fun e1 => ?_) (fun e1 => ?_)
    · obtain ⟨i, rfl⟩ := xd_int e1
      cases r
      show if decide ((0 : Int) ≤ i) = true then _ else _
      refine ite2' (fun e3 => ?_) (fun e3 => ?_)
      · refine ⟨_, _, tup_g ht, rfl, ⟨by omega, by omega, by decide⟩, ?_⟩
        show wkR R (.bl (decide (i < 1 * 2 ^ (k.n : Int).toNat))) G M
        rw [e2]
        refine ret0 ?_
        have : drawX k (.int i) = decide (i < ((2 ^ k.n : Nat) : Int)) := by
          rw [hd]
          show (decide ((0 : Int) ≤ i) && decide (i ≤ ((2 ^ k.n : Nat) : Int) - 1)) = _
          rw [e3, Bool.true_and, Bool.eq_iff_iff, decide_eq_true_iff, decide_eq_true_iff]; omega
        rw [← this]; exact q
      · refine ret0 ?_
        have : drawX k (.int i) = false := by
          rw [hd]
          show (decide ((0 : Int) ≤ i) && decide (i ≤ ((2 ^ k.n : Nat) : Int) - 1)) = _
          rw [e3, Bool.false_and]
        rw [this] at q; exact q
    · refine ret0 ?_
      rw [hd, wi_nint e1] at q
      exact q
  · have hd : drawX k d = rowX k.n d := by unfold drawX; rw [if_neg (by rw [e]; exact Bool.false_ne_true)]
    rw [hd] at q
    refine ⟨G, M, Wk.refl, .type d.ty.name, .type "list", _, .ty "list", rp_ty r M, kit_pt d.ty .list, ite2' (c := !isaB d.ty .list) (fun e1 => ⟨G, M, Wk.refl, ret0 (by rw [row_nl e1] at q; exact q)⟩) (fun e1 => ?_)⟩
    obtain ⟨ds, rfl⟩ := xd_isl e1
    cases r with
    | @list a us _ ha hs =>
      have hsq : SqL K G a us := sql_of (ha.elim (fun z => nomatch z) id)
      have hlen := hs.len
      refine ⟨us, lst_g hsq, _, _, tup_g ht, rfl, ite2' (c := !decide (V.int (us.length : Int) = .int (k.n : Int))) (fun e2 => ⟨G, M, Wk.refl, ret0 ?_⟩) (fun e2 => ?_)⟩
      · have : rowX k.n (.list ds) = false := by
          show (decide (ds.length = k.n) && _) = false
          rw [decide_eq_false, Bool.false_and]
          intro z
          rw [hlen, z, decide_eq_true rfl] at e2; cases e2
        rw [this] at q; exact q
      have hn : ds.length = k.n := by
        have : decide (V.int (us.length : Int) = .int (k.n : Int)) = true := by simpa using e2
        have := V.int.inj (of_decide_eq_true this)
        omega
      have hk1 := hk.1
      refine ⟨G, M, Wk.refl, us, lst_g hsq, ⟨by omega, by omega⟩, sz (by show (us.length : Int).toNat ≤ _; omega), fun i acc G' M' => G' = G ∧ M' = M ∧ acc = natsV ((List.range i).filter fun j => !wiX (ds.getD j .non) 0 (j : Int)), ⟨rfl, rfl, rfl⟩, fun _ _ _ _ _ _ => trivial, ?_, ?_⟩
      · rintro i acc G' M' D hi _ ⟨hG, hM, rfl⟩ fD
        subst hG
        subst hM
        have hi : i < (us.length : Int).toNat := hi
        obtain ⟨v, z, h1, h2, h3⟩ := hs.get (i := i) (by omega)
        have gz : ds.getD i .non = z := by rw [List.getD_eq_getElem?_getD, h2]; rfl
        refine asg_R (v := (i : Int)) (by omega) ⟨rfl, us, v, lst_g hsq, atI_nat h1, z.ty, rp_ty h3 _, ?_⟩
        have yes : wiX z 0 (i : Int) = false → ∃ G2 M2, Wk G' ((D, HO.lst (natsV ((List.range i).filter fun j => !wiX (ds.getD j .non) 0 (j : Int)))) :: M') G2 ((D, .lst (natsV ((List.range i).filter fun j => !wiX (ds.getD j .non) 0 (j : Int)))) :: M2) ∧ G2 = G' ∧ M2 = M' ∧ natsV ((List.range i).filter fun j => !wiX (ds.getD j .non) 0 (j : Int)) ++ [.int (i : Nat)] = natsV ((List.range (i + 1)).filter fun j => !wiX (ds.getD j .non) 0 (j : Int)) := fun e => ⟨G', M', Wk.refl, rfl, rfl, flt_yes (by rw [gz, e]; rfl)⟩
        refine ite2' (c := !(z.ty == .int)) (fun e3 => yes (wi_nint (by simpa using e3))) (fun e3 => ?_)
        obtain ⟨j, rfl⟩ := xd_int (d := z) (by simpa using e3)
        cases h3
        refine ⟨us, .int j, lst_g hsq, atI_nat h1, ?_⟩
        show if decide (j < 0) = true then _ else _
        refine ite2' (fun e4 => yes ?_) (fun e4 => ?_)
        · show (decide ((0 : Int) ≤ j) && _) = false
          rw [decide_eq_false (by have := of_decide_eq_true e4; omega), Bool.false_and]
        refine ⟨us, .int j, lst_g hsq, atI_nat h1, ?_⟩
        show if decide ((i : Int) < j) = true then _ else _
        refine ite2' (fun e5 => yes ?_) (fun e5 => ?_)
        · show (_ && decide (j ≤ (i : Int))) = false
          rw [decide_eq_false (p := j ≤ (i : Int)) (by have := of_decide_eq_true e5; omega), Bool.and_false]
        refine ⟨G', M', Wk.refl, rfl, rfl, flt_no ?_⟩
        rw [gz]
        show (!(decide ((0 : Int) ≤ j) && decide (j ≤ (i : Int)))) = false
        rw [decide_eq_true (p := (0 : Int) ≤ j) (by have := of_decide_eq_false e4; omega), decide_eq_true (p := j ≤ (i : Int)) (by have := of_decide_eq_false e5; omega)]; rfl
      · rintro acc G' M' lp ⟨hG, hM, rfl⟩ _ flp
        subst hG
        subst hM
        have en : (srcR 0 (us.length : Int).toNat).n = ds.length := by show (us.length : Int).toNat = _; omega
        rw [en]
        refine ⟨sz0, fun np fnp => nil_eq (lat_n (n := 1) rfl) (lat_n (n := 0) rfl) ?_⟩
        rw [flt_all]
        refine retW (Wk.drop0.trans Wk.drop0) ?_
        have : rowX k.n (.list ds) = (List.range ds.length).all fun i => wiX (ds.getD i .non) 0 (i : Int) := by
          show (decide (ds.length = k.n) && _) = _
          rw [decide_eq_true hn, Bool.true_and]
        rw [← this]; exact q
theorem KnAt.get {a : Addr} {ks : List Kn} (h : KnAt K G M a ks) : ∃ us, LstAt K G M a us ∧ us.length = ks.length ∧ ks.length ≤ 1000 ∧ (∀ k, k ∈ ks → KnOk k) ∧ ∀ (i : Nat) (k : Kn), ks[i]? = some k → ∃ v, us[i]? = some v ∧ Dp K G v (knD k) := by
  obtain ⟨us, h1, h2, h3, h4⟩ := h
  refine ⟨us, h1, by rw [dpall_len h2, List.length_map], h4, h3, fun i k hk => ?_⟩
  exact dpall_get (i := i) (d := knD k) h2 (by rw [List.getElem?_map, hk]; rfl)
theorem due_nl {ks : List Kn} {d : XD} (e : (!isaB d.ty .list) = true) : dueV ks d = [.non] := by
  cases d with
  | list ds => exact nomatch (show false = true from e)
  | _ => rfl
theorem due_len {ks : List Kn} {zs : List XD} (e : ¬ zs.length = ks.length) : dueV ks (.list zs) = [.non] := if_neg e
theorem pf_law_due (h : S_law_due K vs G M R Z) : rd_law_due K (ends R Z) (sta 3 vs) G M := by
  obtain ⟨_, y, rfl, a, ks, d, rfl, hk, r, hl, q⟩ := sp2_of h
  clear h
  obtain ⟨uk, huk, hukl, hkl, hkn, hkg⟩ := hk.get
  have no : dueV ks d = [.non] → ∃ G' M', Wk G M G' M' ∧ (1 ≤ sizeLine ∧ ∀ p, Fr G' M' p → wkR R (.ref p) G' ((p, .lst [.non]) :: M')) := fun e => ⟨G, M, Wk.refl, sz1, fun p fp => ret0 (by rw [← e]; exact q p)⟩
  refine ⟨G, M, Wk.refl, .type d.ty.name, .type "list", _, .ty "list", rp_ty r M, kit_pt d.ty .list, ite2' (c := !isaB d.ty .list) (fun e1 => no (due_nl e1)) (fun e1 => ?_)⟩
  obtain ⟨zs, rfl⟩ := xd_isl e1
  cases r with
  | @list b us _ hb hs =>
    have hsq : SqL K G b us := sql_of (hb.elim (fun z => nomatch z) id)
    have hlen := hs.len
    refine ⟨us, lst_g hsq, uk, .inl huk, ite2' (c := !decide (V.int (us.length : Int) = .int (uk.length : Int))) (fun e2 => no (due_len fun z => ?_)) (fun e2 => ?_)⟩
    · rw [hlen, z, hukl, decide_eq_true rfl] at e2; cases e2
    have hn : zs.length = ks.length := by
      have : decide (V.int (us.length : Int) = .int (uk.length : Int)) = true := by simpa using e2
      have := V.int.inj (of_decide_eq_true this)
      omega
    have hl2 : zs.length ≤ 1000 := hl.1
    refine ⟨G, M, Wk.refl, uk, .inl huk, ⟨by omega, by omega⟩, sz (by show (uk.length : Int).toNat ≤ _; omega), fun i acc G' M' => G' = G ∧ M' = M ∧ acc = natsV ((List.range i).filter fun j => !drawX (ks.getD j ⟨true, 0⟩) (zs.getD j .non)), ⟨rfl, rfl, rfl⟩, fun _ _ _ _ _ _ => trivial, ?_, ?_⟩
    · rintro i acc G' M' D hi _ ⟨hG, hM, rfl⟩ fD
      subst hG
      subst hM
      have hi : i < (uk.length : Int).toNat := hi
      obtain ⟨k, hk1⟩ : ∃ k, ks[i]? = some k := ⟨_, List.getElem?_eq_getElem (by omega)⟩
      obtain ⟨kv, hkv, hkd⟩ := hkg i k hk1
      obtain ⟨v, z, h1, h2, h3⟩ := hs.get (i := i) (by omega)
      have gz : zs.getD i .non = z := by rw [List.getD_eq_getElem?_getD, h2]; rfl
      have gk : ks.getD i ⟨true, 0⟩ = k := by rw [List.getD_eq_getElem?_getD, hk1]; rfl
      refine asg_R (v := (i : Int)) (by omega) ⟨rfl, uk, kv, .inl (lat_cons huk), atI_nat hkv, us, v, lst_g hsq, atI_nat h1, k, z, hkd, hkn k (List.mem_of_getElem? hk1), h3, hl.2 z (List.mem_of_getElem? h2), ?_⟩
      refine ite2' (c := !drawX k z) (fun e3 => ⟨G', M', Wk.refl, rfl, rfl, flt_yes (by rw [gz, gk]; exact e3)⟩) (fun e3 => ⟨G', M', Wk.refl, rfl, rfl, flt_no (by rw [gz, gk]; exact e3)⟩)
    · rintro acc G' M' lp ⟨hG, hM, rfl⟩ _ flp
      subst hG
      subst hM
      have en : (srcR 0 (uk.length : Int).toNat).n = ks.length := by show (uk.length : Int).toNat = _; omega
      rw [en]
      refine ⟨_, lat_0, fun p fp => ?_⟩
      have hd : dueV ks (.list zs) = cutV (natsV (badsX ks zs)) none (some (1 : Int)) := by
        show (if zs.length = ks.length then natsV ((badsX ks zs).take 1) else [.non]) = _
        rw [if_pos hn, show (some (1 : Int)) = some ((1 : Nat) : Int) from rfl, cut_take]
        unfold natsV
        rw [List.map_take]
      have q := q p
      rw [hd] at q
      exact retW Wk.drop1 q
end
section
variable {K : PySem.W.Frag} {vs : List V} {G : Hp} {M : Mem} {R : KR} {Z : KX}
theorem first_bad {p : Nat → Bool} {i : Nat} (h0 : ∀ j, j < i → p j = false) (h1 : p i = true) : ∀ n, i < n → ((List.range n).filter p).take 1 = [i]
  | 0, h => absurd h (Nat.not_lt_zero _)
  | n + 1, h => by
    rw [List.range_succ, List.filter_append]
    by_cases e : i < n
    · have ih := first_bad h0 h1 n e
      cases hf : (List.range n).filter p with
      | nil => rw [hf] at ih; cases ih
      | cons a t =>
        rw [hf] at ih
        exact ih
    · have e : i = n := by omega
      subst e
      have : (List.range i).filter p = [] := List.filter_eq_nil_iff.mpr fun j hj => by rw [h0 j (List.mem_range.mp hj)]; exact Bool.false_ne_true
      rw [this, List.filter_cons_of_pos h1]; rfl
theorem due_one {ks : List Kn} {d : XD} {u : V} {l : List V} (h : dueV ks d = u :: l) : l = [] ∧ (u = .non ∨ ∃ i : Int, u = .int i) := by
  have one : ([.non] : List V) = u :: l → l = [] ∧ (u = .non ∨ ∃ i : Int, u = .int i) := fun h => by cases h; exact ⟨rfl, .inl rfl⟩
  cases d with
  | list zs =>
    by_cases e : zs.length = ks.length
    · have hd : dueV ks (.list zs) = natsV ((badsX ks zs).take 1) := if_pos e
      rw [hd] at h
      cases hb : badsX ks zs with
      | nil => rw [hb] at h; cases h
      | cons a t => rw [hb] at h; cases h; exact ⟨rfl, .inr ⟨_, rfl⟩⟩
    · rw [due_len e] at h; exact one h
  | _ => exact one h
theorem pf_look_at_draws (h : S_look_at_draws K vs G M R Z) : rd_look_at_draws K (ends R Z) (sta 4 vs) G M := by
  obtain ⟨_, y, rfl, a, ks, d, rfl, hk, r, hl, q1, q2⟩ := sp2_of h
  clear h
  obtain ⟨uk, huk, hukl, hkl, hkn, hkg⟩ := hk.get
  have no : dueV ks d = [.non] → ∃ G' M', Wk G M G' M' ∧ ∃ v, ([V.non] : List V) = [v] ∧ ∀ dx, Fr G' M' dx → (ends R Z).xc (.ref (cl K "NoDraws")) (some dx) [some (.ref a), some y, none, none] (upd G' dx (.xd [("at", v)])) M' := fun e => ⟨G, M, Wk.refl, .non, rfl, fun dx fd => excX (q2 .non [] e _ dx (Ex.new fd) upd_same)⟩
  refine ⟨G, M, Wk.refl, .type d.ty.name, .type "list", _, .ty "list", rp_ty r M, kit_pt d.ty .list, ite2' (c := !isaB d.ty .list) (fun e1 => no (due_nl e1)) (fun e1 => ?_)⟩
  obtain ⟨zs, rfl⟩ := xd_isl e1
  cases r with
  | @list b us _ hb hs =>
    have hsq : SqL K G b us := sql_of (hb.elim (fun z => nomatch z) id)
    have hlen := hs.len
    refine ⟨us, lst_g hsq, uk, .inl huk, ite2' (c := !decide (V.int (us.length : Int) = .int (uk.length : Int))) (fun e2 => no (due_len fun z => ?_)) (fun e2 => ?_)⟩
    · rw [hlen, z, hukl, decide_eq_true rfl] at e2; cases e2
    have hn : zs.length = ks.length := by
      have : decide (V.int (us.length : Int) = .int (uk.length : Int)) = true := by simpa using e2
      have := V.int.inj (of_decide_eq_true this)
      omega
    have hdue : dueV ks (.list zs) = natsV ((badsX ks zs).take 1) := if_pos hn
    refine ⟨G, M, Wk.refl, uk, huk, fun i σ G' M' => ∃ y2 y3, σ = [some (.ref a), some (.ref b), y2, y3] ∧ G' = G ∧ M' = M ∧ ∀ j, j < i → (!drawX (ks.getD j ⟨true, 0⟩) (zs.getD j .non)) = false, ⟨none, none, rfl, rfl, rfl, fun j hj => absurd hj (Nat.not_lt_zero _)⟩, ?_, ?_, ?_⟩
    · rintro i σ G' M' _ ⟨y2, y3, rfl, rfl, rfl, _⟩; exact huk
    · rintro i σ G' M' hi ⟨y2, y3, rfl, hG, hM, hgood⟩
      subst hG
      subst hM
      have hi : i < uk.length := hi
      obtain ⟨k, hk1⟩ : ∃ k, ks[i]? = some k := ⟨_, List.getElem?_eq_getElem (by omega)⟩
      obtain ⟨kv, hkv, hkd⟩ := hkg i k hk1
      obtain ⟨v, z, h1, h2, h3⟩ := hs.get (i := i) (by omega)
      have gz : zs.getD i .non = z := by rw [List.getD_eq_getElem?_getD, h2]; rfl
      have gk : ks.getD i ⟨true, 0⟩ = k := by rw [List.getD_eq_getElem?_getD, hk1]; rfl
      refine asg_E hkv ⟨G', M', Wk.refl, us, v, lst_g hsq, atI_nat h1, k, drawX k z, hkd, hkn k (List.mem_of_getElem? hk1), drawV_of h3 (hl.2 z (List.mem_of_getElem? h2)), ?_⟩
      refine ite2' (c := !drawX k z) (fun e3 => ?_) (fun e3 => ?_)
      · refine ⟨G', M', Wk.refl, .int (i : Nat), rfl, fun dx fd => ⟨_, _, Wk.refl, q2 (.int (i : Nat)) [] ?_ _ dx (Ex.new fd) upd_same⟩⟩
        rw [hdue]
        unfold badsX
        rw [first_bad hgood (by rw [gz, gk]; exact e3) _ (by omega)]; rfl
      · refine ⟨G', M', Wk.refl, _, _, rfl, rfl, rfl, fun j hj => ?_⟩
        rcases Nat.lt_succ_iff_lt_or_eq.mp hj with hj | rfl
        · exact hgood j hj
        · rw [gz, gk]; exact e3
    · rintro σ G' M' ⟨y2, y3, rfl, hG, hM, hgood⟩
      subst hG
      subst hM
      have hgood : ∀ j, j < uk.length → (!drawX (ks.getD j ⟨true, 0⟩) (zs.getD j .non)) = false := hgood
      refine ret0 (q1 ?_ G' Ex.refl)
      rw [hdue]
      have : badsX ks zs = [] := List.filter_eq_nil_iff.mpr fun j hj => by rw [hgood j (by rw [hukl]; exact List.mem_range.mp hj)]; exact Bool.false_ne_true
      rw [this]; rfl
theorem look_due {ks : List Kn} {d : XD} {u : V} (h : dueV ks d = [u]) : lookV ks d = [u] := by unfold lookV; rw [h]
theorem look_nil {ks : List Kn} {d : XD} (h : dueV ks d = []) : lookV ks d = [.str "good"] := by unfold lookV; rw [h]
theorem pf_law_looked (h : S_law_looked K vs G M R Z) : rd_law_looked K (ends R Z) (sta 5 vs) G M := by
  obtain ⟨_, y, rfl, a, ks, d, rfl, hk, r, hl, q⟩ := sp2_of h
  clear h
  refine ⟨G, M, Wk.refl, G, M, Wk.refl, G, M, Wk.refl, ?_⟩
  refine ⟨G, M, Wk.refl, a, ks, d, rfl, hk, r, hl, fun e G' ex => ?_, fun u l e G' dx ex hx => ?_⟩
  · refine ⟨G', M, Wk.refl, ?_⟩
    refine ⟨G', M, Wk.refl, sz1, fun l1 fl1 => ⟨[.str "good"], lat_0, fun p fp => ?_⟩⟩
    have q := q p G' ex
    rw [look_nil e] at q
    exact retW Wk.drop1 q
  · obtain ⟨rfl, hu⟩ := due_one e
    refine ⟨("NoDraws", true), by decide, rfl, fun b fb => ?_⟩
    have eb : Ex G' (upd G' b (ErA K "NoDraws" (some dx) b)) := Ex.new fb
    have hx' := eb _ _ hx
    refine ⟨_, M, Wk.refl, ?_⟩
    refine ⟨_, M, Wk.refl, rfl, ("NoDraws", true), by decide, some dx, .inr upd_same, .inr ⟨dx, _, rfl, .inr hx'⟩, ?_⟩
    refine ⟨rfl, ("NoDraws", true), by decide, some dx, .inr upd_same, .inr ⟨dx, _, rfl, .inr hx'⟩, ?_⟩
    obtain ⟨T, hT, hnb⟩ : ∃ T : PT, (∀ G M, TyK K G M u T) ∧ isaB T .bool = false := by
      rcases hu with rfl | ⟨i, rfl⟩
      · exact ⟨.non, fun _ _ => ty_non, rfl⟩
      · exact ⟨.int, fun _ _ => ty_int, rfl⟩
    refine ⟨"NoDraws", by decide, b, dx, u, rfl, .inr upd_same, .inr hx', .type T.name, .type "bool", _, .ty "bool", hT _ _, kit_pt T .bool, ?_⟩
    refine ite2' (c := isaB T .bool) (fun z => by rw [hnb] at z; cases z) (fun _ => ?_)
    refine ⟨_, M, Wk.refl, "NoDraws", by decide, b, dx, u, rfl, .inr upd_same, .inr hx', sz1, fun p fp => ?_⟩
    have q := q p _ (ex.trans eb)
    rw [look_due e] at q
    exact ret0 q
end
section
variable {K : PySem.W.Frag} {vs : List V} {G : Hp} {M : Mem} {R : KR} {Z : KX}
theorem at_two' {x y : Int} {r : Int} (h0 : 0 ≤ r) (h1 : r < 2) : ∃ v, atI [V.int x, V.int y] r = some (V.int v) ∧ (v = x ∨ v = y) := by
  have e : r = 0 ∨ r = 1 := by omega
  rcases e with rfl | rfl
  · exact ⟨x, rfl, .inl rfl⟩
  · exact ⟨y, rfl, .inr rfl⟩
theorem pf_law_kinds (h : S_law_kinds K vs G M R Z) : rd_law_kinds K (ends R Z) (sta 5 vs) G M := by
  obtain ⟨_, _, _, rfl, p, m, f, n, c, s, rfl, rfl, rfl, hn, hs, m0, m1, f0, f1, q⟩ := sp3_of h
  refine ⟨G, M, Wk.refl, sz0, fun t ft => ?_⟩
  refine ⟨G, _, Wk.refl, p, m + 1, n + 1, c, s, rfl, rfl, hn, hs, by omega, by omega, fun r c1 s1 r0 r1 hs1 => ⟨⟨by omega, by omega⟩, fun i σ G' M' => ∃ (us : List V) (ks : List Kn) (c' s' : Int) (y4 : Option V), σ = [some (.ref p), some (.int m), some (.int f), some (.ref t), y4] ∧ Ex G G' ∧ M' = (t, .lst us) :: M.set n (p, pool c' s') ∧ DpAll K G' us (ks.map knD) ∧ (∀ k, k ∈ ks → KnOk k) ∧ ks.length = i ∧ PoolOk s',
    ⟨[], [], c1, s1, none, rfl, Ex.refl, rfl, .nil, fun _ z => absurd z List.not_mem_nil, rfl, hs1⟩, fun _ _ _ _ _ _ => trivial, ?_, ?_⟩⟩
  · rintro i σ G' M' hi ⟨us, ks, c2, s2, y4, rfl, ex, rfl, hd, hk, hl, hs2⟩
    have hi : i < r.toNat := hi
    have hul : us.length = ks.length := by rw [dpall_len hd, List.length_map]
    refine ⟨G', _, Wk.refl, p, 2, n + 1, c2, s2, rfl, rfl, set_n hn, hs2, by decide, by decide, fun w c3 s3 w0 w1 hs3 => ite2' (fun e => ?_) (fun e => ?_)⟩
    · refine ⟨_, _, Wk.refl, tyl_n (n := 0) rfl, p, 7, n + 1, c3, s3, rfl, rfl, set_n (set_n hn), hs3, by decide, by decide, fun hgt c4 s4 h0 h1 hs4 => ⟨sz2, fun T fT => ⟨0, _, rfl, sz (by show us.length + 1 ≤ _; omega), ?_⟩⟩⟩
      obtain ⟨hh, rfl⟩ := Int.eq_ofNat_of_zero_le h0
      refine ⟨_, _, Wk.refl, us ++ [.ref T], ks ++ [⟨true, hh⟩], c4, s4, _, rfl, ex.trans (Ex.new fT), ?_, ?_, ?_, by simp [hl], hs4⟩
      · simp only [List.set_cons_succ, List.set_set, List.set_cons_zero]
      · rw [List.map_append]; exact dpall_snoc (ex_ds (Ex.new fT) _ hd) (dp_kn sqt_new)
      · intro k hkm
        rcases List.mem_append.mp hkm with hkm | hkm
        · exact hk k hkm
        · have e : k = ⟨true, hh⟩ := by simpa using hkm
          subst e
          exact ⟨by show hh ≤ 64; omega, fun _ => by show hh ≤ 6; omega, fun z => by cases z⟩
    · refine ⟨_, _, Wk.refl, tyl_n (n := 0) rfl, sz2, fun w2 fw2 => ⟨p, 2, n + 2, c3, s3, rfl, rfl, set_n (set_n hn), hs3, by decide, by decide, fun w3 c4 s4 h0 h1 hs4 => ?_⟩⟩
      obtain ⟨v, hv, hv2⟩ := at_two' (x := 6) (y := f) h0 h1
      have hv3 : 1 ≤ v ∧ v ≤ 64 := by omega
      refine ⟨_, _, lst_n (n := 0) rfl, hv, p, v, n + 2, c4, s4, rfl, rfl, set_n (set_n (set_n hn)), hs4, by omega, by omega, fun sz_ c5 s5 z0 z1 hs5 => ⟨sz2, fun T fT => ⟨1, _, rfl, sz (by show us.length + 1 ≤ _; omega), ?_⟩⟩⟩
      obtain ⟨hh, rfl⟩ := Int.eq_ofNat_of_zero_le z0
      refine ⟨_, _, Wk.drop0, us ++ [.ref T], ks ++ [⟨false, 1 + hh⟩], c5, s5, _, rfl, ex.trans (Ex.new fT), ?_, ?_, ?_, by simp [hl], hs5⟩
      · simp only [List.set_cons_succ, List.set_set, List.set_cons_zero]
      · rw [List.map_append]; exact dpall_snoc (ex_ds (Ex.new fT) _ hd) (dp_kn (k := ⟨false, 1 + hh⟩) sqt_new)
      · intro k hkm
        rcases List.mem_append.mp hkm with hkm | hkm
        · exact hk k hkm
        · have e : k = ⟨false, 1 + hh⟩ := by simpa using hkm
          subst e
          exact ⟨by show 1 + hh ≤ 64; omega, fun z => (by cases z), fun _ => by show 1 ≤ 1 + hh; omega⟩
  · rintro σ G' M' ⟨us, ks, c2, s2, y4, rfl, ex, rfl, hd, hk, hl, hs2⟩
    have hl : ks.length = r.toNat := hl
    refine ⟨_, _, Wk.refl, fun H hv => ?_⟩
    have ft : G' t = none := hv.dj _ List.mem_cons_self
    have e2 := Ex.new' (o := .lst us) ft
    exact ⟨_, _, Wk.frz0 H hv, q t us ks _ c2 s2 (ex.trans e2) upd_same (ex_ds e2 _ hd) hk (by omega) hs2⟩
theorem pf_law_draw (h : S_law_draw K vs G M R Z) : rd_law_draw K (ends R Z) (sta 3 vs) G M := by
  obtain ⟨_, _, rfl, p, n, c, s, k, rfl, hn, hs, hd, hk, q⟩ := sp2_of h
  obtain ⟨t, rfl, ht⟩ := dp_kn_inv hd
  have hk1 := hk.1
  refine ⟨G, M, Wk.refl, _, _, tup_g ht, rfl, ?_⟩
  show if decide (V.str k.txt = .str "leaf") = true then _ else _
  rw [txt_leaf]
  refine ite2' (fun e => ?_) (fun e => ?_)
  · have h6 := hk.2.1 e
    have e2 : (1 : Int) * 2 ^ (k.n : Int).toNat = ((2 ^ k.n : Nat) : Int) := by simp
    have p0 : 0 < 2 ^ k.n := Nat.pow_pos (by decide)
    have p6 : 2 ^ k.n ≤ 64 := Nat.pow_le_pow_right (n := 2) (by decide) h6
    refine ⟨G, M, Wk.refl, _, _, tup_g ht, rfl, ⟨by omega, by omega, by decide⟩, p, _, n, c, s, rfl, rfl, hn, hs, ?_, ?_, fun r c1 s1 r0 r1 hs1 => ?_⟩
    · rw [e2]; omega
    · rw [e2]
      have : (64 : Int) < 2 ^ 200 := by decide
      omega
    · rw [e2] at r1
      obtain ⟨v, rfl⟩ := Int.eq_ofNat_of_zero_le r0
      exact ret0 (q _ (.leaf v) c1 s1 G Ex.refl rfl ⟨e, by omega⟩ hs1)
  · refine ⟨G, M, Wk.refl, ?_⟩
    refine ⟨_, _, tup_g ht, rfl, ⟨by omega, by omega⟩, sz (by show (k.n : Int).toNat ≤ _; omega), fun i acc G' M' => ∃ (l : List Nat) (c' s' : Int), G' = G ∧ M' = M.set n (p, pool c' s') ∧ PoolOk s' ∧ l.length = i ∧ acc = natsV l ∧ RowOk l,
      ⟨[], c, s, rfl, (set_self hn).symm, hs, rfl, rfl, fun i v e => by simp at e⟩, fun _ _ _ _ _ _ => trivial, ?_, ?_⟩
    · rintro i acc G' M' D hi hacc ⟨l, c1, s1, rfl, rfl, hs1, rfl, rfl, hl⟩ fD
      have hi : l.length < (k.n : Int).toNat := hi
      have e0 : (0 : Int) + (l.length : Int) = (l.length : Int) := by omega
      refine ⟨rfl, p, (0 : Int) + (l.length : Int) + 1, n + 1, c1, s1, rfl, rfl, set_n hn, hs1, by omega, ?_, fun r c2 s2 r0 r1 hs2 => ?_⟩
      · have : (100 : Int) < 2 ^ 200 := by decide
        omega
      · obtain ⟨v, rfl⟩ := Int.eq_ofNat_of_zero_le r0
        refine ⟨G', M.set n (p, pool c2 s2), Wk.of_eq (by rw [List.set_cons_succ, List.set_set]), l ++ [v], c2, s2, rfl, rfl, hs2, by rw [List.length_append]; rfl, by rw [natsV_app2]; rfl, rowok_snoc hl (by omega)⟩
    · rintro acc G' M' w ⟨l, c1, s1, rfl, rfl, hs1, hl, rfl, hlr⟩ hacc fw
      have hl : l.length = (k.n : Int).toNat := hl
      refine retW (Wk.frz0 (M := M.set n (p, pool c1 s1))) (q _ (.row l) c1 s1 _ (Ex.new fw) ⟨w, rfl, upd_same⟩ ⟨?_, by omega, hlr⟩ hs1)
      cases e3 : k.leaf with
      | false => rfl
      | true => rw [e3] at e; cases e
theorem DrG.ex {G' : Hp} {v : V} {d : Dr} (e : Ex G G') (h : DrG G v d) : DrG G' v d := by
  cases d with
  | leaf n => exact h
  | row l =>
    obtain ⟨b, rfl, hb⟩ := h
    exact ⟨b, rfl, e _ _ hb⟩
theorem pf_law_draws (h : S_law_draws K vs G M R Z) : rd_law_draws K (ends R Z) (sta 3 vs) G M := by
  obtain ⟨_, _, rfl, p, c, s, a, us, ks, rfl, rfl, rfl, hs, hu, hd, hk, hl, q⟩ := sp2_of h
  clear h
  have hul := dpall_len hd
  rw [List.length_map] at hul
  refine ⟨G, _, Wk.refl, us, .inr hu, sz (by show us.length ≤ _; omega), fun i acc G' M' => ∃ (ds : List Dr) (c' s' : Int), Ex G G' ∧ M' = [(p, pool c' s')] ∧ PoolOk s' ∧ A2 (DrG G') acc ds ∧ A2 DrOk (ks.take i) ds,
    ⟨[], c, s, Ex.refl, rfl, hs, .nil, .nil⟩, ?_, ?_, ?_⟩
  · rintro i acc G' M' _ ⟨ds, c', s', ex, rfl, _⟩; exact .inr (ex_l ex hu)
  · rintro i acc G' M' D hi hacc ⟨ds, c1, s1, ex, rfl, hs1, ha, hok⟩ fD
    have hi : i < us.length := hi
    obtain ⟨k, hki⟩ : ∃ k, ks[i]? = some k := ⟨_, List.getElem?_eq_getElem (by omega)⟩
    obtain ⟨v, hv, hvd⟩ := dpall_get hd (i := i) (d := knD k) (by rw [List.getElem?_map, hki]; rfl)
    refine asg_L hv ⟨rfl, p, 1, c1, s1, k, rfl, rfl, hs1, ex_d ex _ hvd, hk k (List.mem_of_getElem? hki), fun y d c2 s2 G2 e2 hy hyd hs2 => ?_⟩
    refine ⟨G2, [(p, pool c2 s2)], Wk.refl, ds ++ [d], c2, s2, ex.trans e2, rfl, hs2, (ha.mono fun _ _ z => z.ex e2).app (.cons hy .nil), ?_⟩
    rw [take_succ' hki]
    exact hok.app (.cons hyd .nil)
  · rintro acc G' M' w ⟨ds, c1, s1, ex, rfl, hs1, ha, hok⟩ hacc fw
    have hok : A2 DrOk (ks.take us.length) ds := hok
    rw [hul, List.take_length] at hok
    exact retW Wk.frz0 (q w acc ds c1 s1 _ (ex.trans (Ex.new fw)) upd_same (ha.mono fun _ _ z => z.ex (Ex.new fw)) hok hs1)
/-! data that may be shown -/
theorem Sh4.up {p p' w w' : Nat} {d : PyData} (h : Sh4 p w d) (hp : p ≤ p') (hw : w ≤ w') : Sh4 p' w' d := ⟨h.s, h.n, h.l, Nat.le_trans h.p hp, Nat.le_trans h.w hw, h.c⟩
theorem sh4_of {p w : Nat} {d : PyData} (h : Sho p w d) (hl : d.leavesShort 40 = true) (hc : d.canLay0 = true) : Sh4 p w d := ⟨h.s, h.n, hl, h.p, h.w, hc⟩
theorem sh4_int {i : Int} (h0 : 0 ≤ i) (h : i < 10 ^ 20) : Sh4 0 101 (.int i) := by
  refine (sh4_of (sho_int h0 h) ?_ (by simp [PyData.canLay0])).up (Nat.le_refl _) (by decide)
  show decide ((PyData.shown (.int i)).length ≤ 40) = true
  have := PyProof.Rows.toString_length_le h0 (k := 20) (by decide) h
  exact decide_eq_true (Nat.le_trans this (by decide))
theorem sh4_nat {n : Nat} (h : n ≤ 1000) : Sh4 0 101 (.int (n : Int)) := sh4_int (by omega) (Int.lt_of_le_of_lt (b := 1000) (by omega) (by decide))
theorem sh4_all {p w : Nat} : ∀ {ds : List PyData}, (∀ d, d ∈ ds → Sh4 p w d) → PyData.showableAll ds = true ∧ PyData.hasDictAll ds = false ∧ PyData.leavesShortAll 40 ds = true ∧ PyData.depthAll ds ≤ p ∧ PyData.weightAll ds ≤ ds.length * (w + 1) ∧ PyData.canLayAll0 ds = true
  | [], _ => ⟨rfl, rfl, rfl, Nat.zero_le _, Nat.zero_le _, by simp [PyData.canLayAll0]⟩
  | d :: ds, h => by
    obtain ⟨a1, a2, a3, a4, a5, a6⟩ := sh4_all (ds := ds) fun x hx => h x (List.mem_cons_of_mem _ hx)
    have b := h d List.mem_cons_self
    refine ⟨?_, ?_, ?_, ?_, ?_, ?_⟩
    · show (d.showable && PyData.showableAll ds) = true
      rw [b.s, a1]; rfl
    · show (d.hasDict || PyData.hasDictAll ds) = false
      rw [b.n, a2]; rfl
    · show (d.leavesShort 40 && PyData.leavesShortAll 40 ds) = true
      rw [b.l, a3]; rfl
    · show max d.depth (PyData.depthAll ds) ≤ p
      have := b.p; omega
    · show d.weight + 1 + PyData.weightAll ds ≤ (ds.length + 1) * (w + 1)
      have := b.w
      rw [Nat.succ_mul]; omega
    · simp [PyData.canLayAll0, b.c, a6]
theorem sh4_list {p w n : Nat} {ds : List PyData} (h : ∀ d, d ∈ ds → Sh4 p w d) (hl : ds.length ≤ n) : Sh4 (p + 1) (n * (w + 1)) (.list ds) := by
  obtain ⟨a1, a2, a3, a4, a5, a6⟩ := sh4_all h
  exact ⟨a1, a2, a3, Nat.succ_le_succ a4, Nat.le_trans a5 (Nat.mul_le_mul_right _ hl), by simp [PyData.canLay0, a6]⟩
theorem sh4_tup {p w n : Nat} {ds : List PyData} (h : ∀ d, d ∈ ds → Sh4 p w d) (hl : ds.length ≤ n) : Sh4 (p + 1) (n * (w + 1)) (.tuple ds) := by
  obtain ⟨a1, a2, a3, a4, a5, a6⟩ := sh4_all h
  exact ⟨a1, a2, a3, Nat.succ_le_succ a4, Nat.le_trans a5 (Nat.mul_le_mul_right _ hl), by simp [PyData.canLay0, a6]⟩
end
section
variable {K : PySem.W.Frag} {vs : List V} {G : Hp} {M : Mem} {R : KR} {Z : KX}
theorem pds_map : ∀ ds : List XD, XD.pds ds = ds.map XD.pd
  | [] => rfl
  | d :: ds => by rw [List.map_cons, ← pds_map ds]; rfl
mutual
theorem toD_pd : ∀ d : XD, d.pd.hasDict = false → d.toD = some d.pd
  | .non, _ => rfl
  | .bl _, _ => rfl
  | .int _, _ => rfl
  | .str _, _ => rfl
  | .list l, h => by
    show (XD.toDs l).map PyData.list = _
    rw [toDs_pds l h]; rfl
  | .tup l, h => by
    show (XD.toDs l).map PyData.tuple = _
    rw [toDs_pds l h]; rfl
  | .dict, h => by cases h
theorem toDs_pds : ∀ l : List XD, PyData.hasDictAll (XD.pds l) = false → XD.toDs l = some (XD.pds l)
  | [], _ => rfl
  | d :: l, h => by
    have h : (d.pd.hasDict || PyData.hasDictAll (XD.pds l)) = false := h
    obtain ⟨h1, h2⟩ := Bool.or_eq_false_iff.mp h
    show (match d.toD, XD.toDs l with | some d, some ds => some (d :: ds) | _, _ => none) = _
    rw [toD_pd d h1, toDs_pds l h2]; rfl
end
theorem rp_dat {v : V} {d : XD} {p w : Nat} (r : Rp K G [] v d) (h : Sh4 p w d.pd) : DatAt K G M v d.pd := fun H hv => by
  have := rp_dp r (toD_pd d h.n)
  exact ex_d hv.exx _ this
theorem Sh4.shaped {p w : Nat} {d : PyData} (h : Sh4 p w d) (hp : p ≤ 64) : SeqAt.shaped d = true := by
  unfold SeqAt.shaped
  rw [h.c, decide_eq_true (Nat.le_trans h.p hp)]; rfl
/-! one of written things -/
def ItOk (d : XD) : Prop := Sh4 1 110 d.pd
theorem sh4_non : Sh4 0 101 .none := by constructor <;> decide +kernel
theorem sh4_bl (b : Bool) : Sh4 0 101 (.bool b) := by cases b <;> constructor <;> decide +kernel
theorem sh4_s0 : Sh4 0 101 (.str "0") := by constructor <;> decide +kernel
theorem sh4_m1 : Sh4 0 101 (.int (-1)) := by constructor <;> decide +kernel
theorem sh4_big : Sh4 0 101 (.int (10 ^ (30 : Int).toNat)) := by constructor <;> decide +kernel
theorem sh4_dr : Sh4 0 101 (.str "draws") := by constructor <;> decide +kernel
theorem it_of {d : XD} {p w : Nat} (h : Sh4 p w d.pd) (hp : p ≤ 1) (hw : w ≤ 110) : ItOk d := h.up hp hw
theorem it_nat {n : Nat} (h : n ≤ 1000) : ItOk (.int (n : Int)) := it_of (sh4_nat h) (by decide) (by decide)
theorem it_l0 : ItOk (.list [.int 0]) := it_of (sh4_list (n := 1) (p := 0) (w := 101) (fun d hd => by rw [List.mem_singleton.mp hd]; exact sh4_nat (n := 0) (by decide)) (Nat.le_refl _)) (by decide) (by decide)
theorem el_list {l : List XD} (h : ∀ x, x ∈ l → ItOk x) (hl : l.length ≤ 66) : ElOk (.list l) := by
  refine ⟨by show l.length ≤ 1000; omega, ?_⟩
  show Sh4 2 8000 (.list (XD.pds l))
  rw [pds_map]
  refine (sh4_list (n := 66) (w := 110) (p := 1) (fun d hd => ?_) (by rw [List.length_map]; exact hl)).up (by decide) (by decide)
  obtain ⟨x, hx, rfl⟩ := List.mem_map.mp hd
  exact h x hx
theorem el_tup {l : List XD} (h : ∀ x, x ∈ l → ItOk x) (hl : l.length ≤ 66) : ElOk (.tup l) := by
  refine ⟨trivial, ?_⟩
  show Sh4 2 8000 (.tuple (XD.pds l))
  rw [pds_map]
  refine (sh4_tup (n := 66) (w := 110) (p := 1) (fun d hd => ?_) (by rw [List.length_map]; exact hl)).up (by decide) (by decide)
  obtain ⟨x, hx, rfl⟩ := List.mem_map.mp hd
  exact h x hx
theorem el_it {d : XD} (h : ItOk d) (hl : LenX d) : ElOk d := ⟨hl, h.up (by decide) (by decide)⟩
def nx (l : List Nat) : List XD := l.map fun (n : Nat) => XD.int (n : Int)
theorem nx_ok {l : List Nat} (h : ∀ x, x ∈ l → x ≤ 64) : ∀ x, x ∈ nx l → ItOk x := fun x hx => by
  obtain ⟨n, hn, rfl⟩ := List.mem_map.mp hx
  exact it_nat (by have := h n hn; omega)
theorem rpa_nx {Mx : Mem} : ∀ l : List Nat, RpA K G Mx (natsV l) (nx l)
  | [] => .nil
  | n :: l => .cons (.int _) (rpa_nx l)
def base12 : List XD := [.int (-1), .int 64, .int (10 ^ (30 : Int).toNat), .bl true, .bl false, .non, .str "0", .tup [.int 0], .list [], .list [.int 0, .int 0], .int 0, .int 1]
theorem it_one {a : XD} (h : ItOk a) : ∀ x, x ∈ [a] → ItOk x := fun x hx => by rw [List.mem_singleton.mp hx]; exact h
theorem base_ok {d : XD} (hd : d ∈ base12) : ElOk d := by
  unfold base12 at hd
  simp only [List.mem_cons, List.not_mem_nil, or_false] at hd
  have i0 : ItOk (.int 0) := it_nat (n := 0) (by decide)
  rcases hd with rfl | rfl | rfl | rfl | rfl | rfl | rfl | rfl | rfl | rfl | rfl | rfl
  · exact el_it (it_of sh4_m1 (by decide) (by decide)) trivial
  · exact el_it (it_nat (n := 64) (by decide)) trivial
  · exact el_it (it_of sh4_big (by decide) (by decide)) trivial
  · exact el_it (it_of (sh4_bl _) (by decide) (by decide)) trivial
  · exact el_it (it_of (sh4_bl _) (by decide) (by decide)) trivial
  · exact el_it (it_of sh4_non (by decide) (by decide)) trivial
  · exact el_it (it_of sh4_s0 (by decide) (by decide)) trivial
  · exact el_tup (it_one i0) (by decide)
  · exact el_list (fun x hx => nomatch hx) (by decide)
  · refine el_list (fun x hx => ?_) (by decide)
    simp only [List.mem_cons, List.not_mem_nil, or_false] at hx
    rcases hx with rfl | rfl <;> exact i0
  · exact el_it i0 trivial
  · exact el_it (it_nat (n := 1) (by decide)) trivial
def items8 (at_ : Nat) : List XD := [.int ((at_ : Int) + 1), .int (-1), .bl true, .non, .str "0", .list [.int 0], .int (at_ : Int), .int 0]
theorem items_ok {i : Nat} (hi : i ≤ 64) {d : XD} (hd : d ∈ items8 i) : ItOk d := by
  unfold items8 at hd
  simp only [List.mem_cons, List.not_mem_nil, or_false] at hd
  rcases hd with rfl | rfl | rfl | rfl | rfl | rfl | rfl | rfl
  · exact it_nat (n := i + 1) (by omega)
  · exact it_of sh4_m1 (by decide) (by decide)
  · exact it_of (sh4_bl _) (by decide) (by decide)
  · exact it_of sh4_non (by decide) (by decide)
  · exact it_of sh4_s0 (by decide) (by decide)
  · exact it_l0
  · exact it_nat (by omega)
  · exact it_nat (n := 0) (by decide)
def ex4 (l : List Nat) (i : Nat) (z : XD) : List XD := [.list ((nx (l.take i) ++ [z]) ++ nx (l.drop (i + 1))), .list (nx l.dropLast), .list (nx l ++ [.int 0]), .tup (nx l)]
theorem ex4_ok {l : List Nat} {i : Nat} {z : XD} (h : ∀ x, x ∈ l → x ≤ 64) (hl : l.length ≤ 64) (hz : ItOk z) {d : XD} (hd : d ∈ ex4 l i z) : ElOk d := by
  unfold ex4 at hd
  simp only [List.mem_cons, List.not_mem_nil, or_false] at hd
  have nl : ∀ l : List Nat, (nx l).length = l.length := fun l => List.length_map ..
  rcases hd with rfl | rfl | rfl | rfl
  · refine el_list (fun x hx => ?_) ?_
    · rcases List.mem_append.mp hx with hx | hx
      · rcases List.mem_append.mp hx with hx | hx
        · exact nx_ok (fun y hy => h y (List.mem_of_mem_take hy)) x hx
        · exact it_one hz x hx
      · exact nx_ok (fun y hy => h y (List.mem_of_mem_drop hy)) x hx
    · rw [List.length_append, List.length_append, nl, nl, List.length_take, List.length_drop, List.length_singleton]; omega
  · exact el_list (nx_ok fun y hy => h y (List.dropLast_subset l hy)) (by rw [nl, List.length_dropLast]; omega)
  · refine el_list (fun x hx => ?_) (by rw [List.length_append, nl, List.length_singleton]; omega)
    rcases List.mem_append.mp hx with hx | hx
    · exact nx_ok h x hx
    · exact it_one (it_nat (n := 0) (by decide)) x hx
  · exact el_tup (nx_ok h) (by rw [nl]; omega)
theorem lit_sl {tl th : KO} {lo hi : Option Int} {σ : St} {i : Nat} {b : Addr} {us us' : List V} {ds' : List XD} (hσ : σ[i]? = some (some (.ref b))) (hb : G b = some (.lst us)) (hl : ∀ G M R E, R lo G M → tl σ G M R E) (hh : ∀ G M R E, R hi G M → th σ G M R E) (hc : cutV us lo hi = us') (hr : RpA K G [] us' ds') :
    LitOk K (kSl K (kVar i) tl th) σ G (.list ds') := by
  intro G0 My M R E e n q
  simp only [kSl, kVar, hσ]
  refine hl _ _ _ _ (hh _ _ _ _ ⟨us, .inr (sql_of (e _ _ hb)), fun p fp => ?_⟩)
  rw [hc]
  exact q (.ref p) G0 [(p, .lst us')] Ex.refl (n.cell fp) (.list (.inl List.mem_cons_self) (hr.up e fun _ z => absurd z List.not_mem_nil))
theorem lit_tuple {σ : St} {i : Nat} {b : Addr} {vs : List V} {ds : List XD} (hσ : σ[i]? = some (some (.ref b))) (hb : G b = some (.lst vs)) (hr : RpA K G [] vs ds) : LitOk K (kCB (kTuple K) (kCons (kVar i) kNil)) σ G (.tup ds) := by
  intro G0 My M R E e n q
  simp only [kCB, kCons, kVar, hσ]
  exact .inl ⟨vs, .inr (sql_of (e _ _ hb)), fun p fp => q _ _ [] (Ex.new fp) (n.tup fp) (.tup sqt_new (hr.ex (e.trans (Ex.new fp))))⟩
/-! what is answered -/
def ResR (P : XD → Prop) (K : PySem.W.Frag) (G : Hp) (N : Mem) (n : Nat) (p : Addr) (R : KR) : Prop := ∀ (v : V) (d : XD) (c' s' : Int) (G' : Hp), Ex G G' → Rp K G' [] v d → P d → PoolOk s' → R v G' (N.set n (p, pool c' s'))
theorem set_id {x : Addr × HO} {n : Nat} (h : M[n]? = some x) : M = M.set n x := (set_self h).symm
theorem res_fin {P : XD → Prop} {n : Nat} {p : Addr} {G' : Hp} {N N' Mx : Mem} {v : V} {d : XD} {c' s' : Int} (q : ResR P K G N n p R) (ex : Ex G G') (hr : Rp K G' Mx v d) (hd : P d) (hs : PoolOk s') (hN : N' = N.set n (p, pool c' s')) : wkR R v G' (Mx ++ N') := fun H hv => by
  have nc := Hv.newc ⟨H, hv⟩
  subst hN
  exact retW (frzA_wk Mx _ _) (q v d c' s' _ (ex.trans (frzA_ex nc)) (hr.frz nc) hd hs) H hv
theorem ResR.ex {P : XD → Prop} {n : Nat} {p : Addr} {G' : Hp} {N : Mem} (q : ResR P K G N n p R) (ex : Ex G G') : ResR P K G' N n p R := fun v d c' s' G2 e2 hr hp hs => q v d c' s' G2 (ex.trans e2) hr hp hs
theorem ResR.set {P : XD → Prop} {n : Nat} {p : Addr} {N : Mem} {x : Addr × HO} (q : ResR P K G N n p R) : ResR P K G (N.set n x) n p R := fun v d c' s' G2 e2 hr hp hs => by
  rw [List.set_set]; exact q v d c' s' G2 e2 hr hp hs
theorem odd_fin {p : Addr} {n : Nat} {y v2 : V} {y3 y4 : Option V} {c s : Int} {ds : List XD} (q : ResR ElOk K G M n p R) (hn : M[n]? = some (p, pool c s)) (hs : PoolOk s) (r : Rp K G [] v2 (.list ds)) (hd : ∀ d, d ∈ ds → ElOk d) (h0 : 0 < ds.length) (h1 : ds.length ≤ 1000) :
    rd_law_odd_2 K (ends R Z) [some (.ref p), some y, some v2, y3, y4] G M := by
  cases r with
  | @list a us _ ha hs1 =>
    have hsq : SqL K G a us := sql_of (ha.elim (fun z => nomatch z) id)
    have hlen := hs1.len
    have h200 : (1000 : Int) < 2 ^ 200 := by decide
    refine ⟨G, M, Wk.refl, us, lst_g hsq, p, (us.length : Int), n, c, s, rfl, rfl, hn, hs, by omega, by omega, fun r c1 s1 r0 r1 hs' => ?_⟩
    obtain ⟨j, rfl⟩ := Int.eq_ofNat_of_zero_le r0
    obtain ⟨u, d, g1, g2, g3⟩ := hs1.get (i := j) (by omega)
    exact ⟨us, u, lst_g hsq, atI_nat g1, ret0 (q u d c1 s1 G Ex.refl g3 (hd d (List.mem_of_getElem? g2)) hs')⟩
theorem pf_law_odd (h : S_law_odd K vs G M R Z) : rd_law_odd K (ends R Z) (sta 5 vs) G M := by
  obtain ⟨_, y, rfl, p, n, c, s, k, dr, rfl, hn, hs, hy, hdr, hk, q⟩ := sp2_of h
  clear h
  have q : ResR ElOk K G M n p R := q
  have hL : LitOk K (kLst (kCons (kUn kNeg (kC (.int 1))) (kCons (kC (.int 64)) (kCons (kBin (kI CPow fun i j => .int (i ^ j.toNat)) (kC (.int 10)) (kC (.int 30))) (kCons (kC (.bl true)) (kCons (kC (.bl false)) (kCons (kC .non) (kCons (kC (.str "0")) (kCons (kTup (kCons (kC (.int 0)) (kNil))) (kCons (kLst (kNil)) (kCons (kLst (kCons (kC (.int 0)) (kCons (kC (.int 0)) (kNil)))) (kCons (kC (.int 0)) (kCons (kC (.int 1)) (kNil)))))))))))))) [some (.ref p), some y, none, none, none] G (.list base12) :=
    lit_lst (lits_cons lit_neg (lits_cons lit_int (lits_cons (lit_pow ⟨by decide, by decide, by decide⟩) (lits_cons lit_bl (lits_cons lit_bl (lits_cons lit_non (lits_cons lit_str (lits_cons (lit_tup (lits_cons lit_int lits_nil) (by decide)) (lits_cons (lit_lst lits_nil (by decide)) (lits_cons (lit_lst (lits_cons lit_int (lits_cons lit_int lits_nil)) (by decide)) (lits_cons lit_int (lits_cons lit_int lits_nil)))))))))))) (by decide)
  refine ⟨G, M, Wk.refl, kset_of (hL.use fun v1 G1 Mx e1 nc1 r1 => ?_)⟩
  obtain ⟨G2, hG2⟩ : ∃ g, g = frzA G1 Mx := ⟨_, rfl⟩
  have r2 : Rp K G2 [] v1 (.list base12) := by rw [hG2]; exact r1.frz nc1
  have e2 : Ex G G2 := by rw [hG2]; exact e1.trans (frzA_ex nc1)
  have q2 := q.ex e2
  have w2 : Wk G1 (Mx ++ M) G2 M := by rw [hG2]; exact frzA_wk Mx G1 M
  have hbl : base12.length = 12 := rfl
  cases dr with
  | leaf m =>
    obtain rfl : y = .int (m : Nat) := hy
    refine ⟨G2, M, w2, .type PT.int.name, .type "list", _, .ty "list", ty_int, kit_pt .int .list, ?_⟩
    exact odd_fin q2 hn hs r2 (fun d hd => base_ok hd) (by omega) (by omega)
  | row l =>
    obtain ⟨b, rfl, hb⟩ := hy
    obtain ⟨hlf, hll, hrow⟩ := hdr
    have hk1 := hk.1
    have hk2 := hk.2.2 hlf
    have hlx : ∀ x, x ∈ l → x ≤ 64 := fun x hx => by
      obtain ⟨i, hi⟩ := List.getElem?_of_mem hx
      have := hrow i x hi
      have := (List.getElem?_eq_some_iff.mp hi).1
      omega
    have hb2 := e2 _ _ hb
    refine ⟨G2, M, w2, .type PT.list.name, .type "list", _, .ty "list", ty_lst (.inr (sql_of hb2)), kit_pt .list .list, ?_⟩
    have hnl : (natsV l).length = l.length := natsV_len l
    refine ⟨G2, M, Wk.refl, natsV l, lst_g (sql_of hb2), p, ((natsV l).length : Int), n, c, s, rfl, rfl, hn, hs, by omega, Int.lt_of_le_of_lt (b := 1000) (by omega) (by decide), fun r c1 s1 r0 r1' hs1 => ?_⟩
    obtain ⟨i, rfl⟩ := Int.eq_ofNat_of_zero_le r0
    have hi : i < l.length := by omega
    have hn1 := set_n (x := (p, pool c1 s1)) hn
    have q3 := q2.set (x := (p, pool c1 s1))
    obtain ⟨M1, hM1⟩ : ∃ M1, M1 = M.set n (p, pool c1 s1) := ⟨_, rfl⟩
    rw [← hM1] at hn1 q3 ⊢
    have hL8 : LitOk K (kLst (kCons (kBin (kAdd) (kVar 3) (kC (.int 1))) (kCons (kUn kNeg (kC (.int 1))) (kCons (kC (.bl true)) (kCons (kC .non) (kCons (kC (.str "0")) (kCons (kLst (kCons (kC (.int 0)) (kNil))) (kCons (kVar 3) (kCons (kC (.int 0)) (kNil)))))))))) [some (.ref p), some (.ref b), some v1, some (.int (i : Nat)), none] G2 (.list (items8 i)) :=
      lit_lst (lits_cons (lit_pure (v := .int ((i : Int) + 1)) (fun _ _ _ _ _ q => q) (.int _)) (lits_cons lit_neg (lits_cons lit_bl (lits_cons lit_non (lits_cons lit_str (lits_cons (lit_lst (lits_cons lit_int lits_nil) (by decide)) (lits_cons (lit_var rfl (.int _)) (lits_cons lit_int lits_nil)))))))) (by show 8 ≤ 1000; decide)
    refine ⟨G2, M1, Wk.refl, kset_of ?_⟩
    refine lit_pick (i := 0) (n := n) (L := 8) hL8 rfl hn1 hs1 rfl (by show 0 < 8; decide) (by show 8 ≤ 1000; decide) fun z d G3 My c2 s2 e3 nc3 hd3 r3 hs2 => ?_
    have hn2 := set_n (x := (p, pool c2 s2)) hn1
    have q4 := (q3.set (x := (p, pool c2 s2))).ex (e3.trans (frzA_ex nc3))
    obtain ⟨M2, hM2⟩ : ∃ M2, M2 = M1.set n (p, pool c2 s2) := ⟨_, rfl⟩
    rw [← hM2] at hn2 q4 ⊢
    obtain ⟨G4, hG4⟩ : ∃ g, g = frzA G3 My := ⟨_, rfl⟩
    have e4 : Ex G2 G4 := by rw [hG4]; exact e3.trans (frzA_ex nc3)
    have r4 : Rp K G4 [] z d := by rw [hG4]; exact r3.frz nc3
    rw [← hG4] at q4
    have hb4 := e4 _ _ hb2
    have hz := items_ok (by omega) hd3
    have s1 : LitOk K (kSl K (kVar 1) (kNoP) (kPart (kVar 3))) [some (.ref p), some (.ref b), some v1, some (.int (i : Nat)), some z] G4 (.list (nx (l.take i))) := lit_sl (lo := none) (hi := some (i : Nat)) rfl hb4 (fun _ _ _ _ q => q) (fun _ _ _ _ q => q) (us' := natsV (l.take i)) (by rw [cut_take]; unfold natsV; rw [List.map_take]) (rpa_nx _)
    have s2 : LitOk K (kSl K (kVar 1) (kPart (kBin (kAdd) (kVar 3) (kC (.int 1)))) (kNoP)) [some (.ref p), some (.ref b), some v1, some (.int (i : Nat)), some z] G4 (.list (nx (l.drop (i + 1)))) := lit_sl (lo := some ((i : Int) + 1)) (hi := none) rfl hb4 (fun _ _ _ _ q => q) (fun _ _ _ _ q => q) (us' := natsV (l.drop (i + 1))) (by rw [show ((i : Int) + 1) = ((i + 1 : Nat) : Int) by omega, cut_drop]; unfold natsV; rw [List.map_drop]) (rpa_nx _)
    have s3 : LitOk K (kSl K (kVar 1) (kNoP) (kPart (kUn kNeg (kC (.int 1))))) [some (.ref p), some (.ref b), some v1, some (.int (i : Nat)), some z] G4 (.list (nx l.dropLast)) := lit_sl (lo := none) (hi := some (-1)) rfl hb4 (fun _ _ _ _ q => q) (fun _ _ _ _ q => q) (us' := natsV l.dropLast) (by rw [cut_init]; unfold natsV; rw [List.map_dropLast]) (rpa_nx _)
    have s4 : LitOk K (kCB (kTuple K) (kCons (kVar 1) (kNil))) [some (.ref p), some (.ref b), some v1, some (.int (i : Nat)), some z] G4 (.tup (nx l)) := lit_tuple rfl hb4 (rpa_nx l)
    have s5 : LitOk K (kVar 1) [some (.ref p), some (.ref b), some v1, some (.int (i : Nat)), some z] G4 (.list (nx l)) := lit_var rfl (.list (.inr hb4) (rpa_nx l))
    have nl : ∀ l : List Nat, (nx l).length = l.length := fun l => List.length_map ..
    have hLA := lit_lst (lits_cons (lit_add (lit_add s1 (lit_lst (lits_cons (lit_var (K := K) (i := 4) rfl r4) lits_nil) (by show 1 ≤ 1000; decide)) (by rw [List.length_append, nl, List.length_take]; simp; omega)) s2 (by rw [List.length_append, List.length_append, nl, nl, List.length_take, List.length_drop]; simp; omega)) (lits_cons s3 (lits_cons (lit_add s5 (lit_lst (lits_cons (lit_int (i := 0)) lits_nil) (by show 1 ≤ 1000; decide)) (by rw [List.length_append, nl]; simp; omega)) (lits_cons s4 lits_nil)))) (by show 4 ≤ 1000; decide)
    have hLB := lit_add (lit_var (K := K) (i := 2) (σ := [some (.ref p), some (.ref b), some v1, some (.int (i : Nat)), some z]) rfl (r2.ex e4)) hLA (by show 16 ≤ 1000; decide)
    refine ⟨G4, M2, by rw [hG4]; exact frzA_wk My G3 M2, kset_of (hLB.use fun v5 G5 Mz e5 nc5 r5 => ?_)⟩
    refine kseq_wk (frzA_wk Mz G5 M2) (odd_fin (q4.ex (e5.trans (frzA_ex nc5))) hn2 hs2 (r5.frz nc5) (fun d hd => ?_) (by show 0 < 16; decide) (by show 16 ≤ 1000; decide))
    rcases List.mem_append.mp hd with hd | hd
    · exact base_ok hd
    · exact ex4_ok hlx (by omega) hz hd
end
section
variable {K : PySem.W.Frag} {vs : List V} {G : Hp} {M : Mem} {R : KR} {Z : KX}
theorem rpa_take {Mx : Mem} : ∀ {vs : List V} {ds : List XD} (k : Nat), RpA K G Mx vs ds → RpA K G Mx (vs.take k) (ds.take k)
  | _, _, 0, _ => .nil
  | _, _, _ + 1, .nil => .nil
  | _, _, k + 1, .cons a b => .cons a (rpa_take k b)
theorem rpa_drop {Mx : Mem} : ∀ {vs : List V} {ds : List XD} (k : Nat), RpA K G Mx vs ds → RpA K G Mx (vs.drop k) (ds.drop k)
  | _, _, 0, h => h
  | _, _, _ + 1, .nil => .nil
  | _, _, k + 1, .cons _ b => rpa_drop k b
theorem drs_rpa {av : List V} {ds : List Dr} (h : A2 (DrG G) av ds) : RpA K G [] av (ds.map drX) := by
  induction h with
  | nil => exact .nil
  | @cons v d _ _ a _ ih =>
    refine .cons ?_ ih
    cases d with
    | leaf n => cases (show v = .int (n : Nat) from a); exact .int _
    | row l =>
      obtain ⟨b, rfl, hb⟩ := a
      exact .list (.inr hb) (rpa_nx l)
theorem dr_el {k : Kn} {d : Dr} (h : DrOk k d) (hk : KnOk k) : ElOk (drX d) := by
  cases d with
  | leaf n =>
    have h6 := hk.2.1 h.1
    have p6 : 2 ^ k.n ≤ 64 := Nat.pow_le_pow_right (n := 2) (by decide) h6
    have := h.2
    exact el_it (it_nat (by omega)) trivial
  | row l =>
    obtain ⟨_, hll, hrow⟩ := h
    have hk1 := hk.1
    have hnl : (nx l).length = l.length := List.length_map ..
    refine el_list (l := nx l) (nx_ok fun x hx => ?_) (by rw [hnl]; omega)
    obtain ⟨i, hi⟩ := List.getElem?_of_mem hx
    have := hrow i x hi
    have := (List.getElem?_eq_some_iff.mp hi).1
    omega
theorem drs_el {ks : List Kn} {ds : List Dr} (h : A2 DrOk ks ds) (hk : ∀ k, k ∈ ks → KnOk k) : ∀ x, x ∈ ds.map drX → ElOk x := fun x hx => by
  obtain ⟨d, hd, rfl⟩ := List.mem_map.mp hx
  obtain ⟨i, hi⟩ := List.getElem?_of_mem hd
  obtain ⟨k, hki, hkd⟩ := h.get hi
  exact dr_el hkd (hk k (List.mem_of_getElem? hki))
theorem th_list {zs : List XD} (h : ∀ z, z ∈ zs → ElOk z) (hl : zs.length ≤ 20) : ThOk (.list zs) := by
  refine ⟨⟨by omega, fun z hz => (h z hz).1⟩, ?_⟩
  show Sh4 3 170000 (.list (XD.pds zs))
  rw [pds_map]
  refine (sh4_list (n := 20) (w := 8000) (p := 2) (fun d hd => ?_) (by rw [List.length_map]; exact hl)).up (by decide) (by decide)
  obtain ⟨x, hx, rfl⟩ := List.mem_map.mp hd
  exact (h x hx).2
theorem th_tup {zs : List XD} (h : ∀ z, z ∈ zs → ElOk z) (hl : zs.length ≤ 20) : ThOk (.tup zs) := by
  refine ⟨trivial, ?_⟩
  show Sh4 3 170000 (.tuple (XD.pds zs))
  rw [pds_map]
  refine (sh4_tup (n := 20) (w := 8000) (p := 2) (fun d hd => ?_) (by rw [List.length_map]; exact hl)).up (by decide) (by decide)
  obtain ⟨x, hx, rfl⟩ := List.mem_map.mp hd
  exact (h x hx).2
theorem bent_7 {p : Addr} {n : Nat} {v : V} {y2 y3 : Option V} {c s : Int} {d : XD} (q : ResR ThOk K G M n p R) (hn : M[n]? = some (p, pool c s)) (hs : PoolOk s) (r : Rp K G [] v d) (hd : ThOk d) :
    rd_law_bent_7 K (ends R Z) [some (.ref p), some v, y2, y3] G M := ⟨G, M, Wk.refl, res_fin (Mx := []) q Ex.refl r hd hs (set_id hn)⟩
theorem zs_dat {b : Addr} {us : List V} {zs : List XD} (hb : G b = some (.lst us)) (hr : RpA K G [] us zs) (he : ∀ z, z ∈ zs → ElOk z) (hl : zs.length ≤ 20) (M : Mem) : DatAt K G M (.ref b) (.list (XD.pds zs)) := rp_dat (d := .list zs) (.list (.inr hb) hr) (th_list he hl).2
theorem cut3 {us : List V} {zs : List XD} {i : Nat} {z : XD} (he : ∀ x, x ∈ zs → ElOk x) (hz : ElOk z) : ∀ x, x ∈ (zs.take i ++ [z]) ++ zs.drop (i + 1) → ElOk x := fun x hx => by
  rcases List.mem_append.mp hx with hx | hx
  · rcases List.mem_append.mp hx with hx | hx
    · exact he x (List.mem_of_mem_take hx)
    · rw [List.mem_singleton.mp hx]; exact hz
  · exact he x (List.mem_of_mem_drop hx)
theorem bent_6 {p b : Addr} {n : Nat} {way a3 : Int} {us : List V} {zs : List XD} {c s : Int} (q : ResR ThOk K G M n p R) (hn : M[n]? = some (p, pool c s)) (hs : PoolOk s) (hb : G b = some (.lst us)) (hr : RpA K G [] us zs) (he : ∀ z, z ∈ zs → ElOk z) (hl : zs.length ≤ 9) :
    rd_law_bent_6 K (ends R Z) [some (.ref p), some (.ref b), some (.int way), some (.int a3)] G M := by
  have hlen := hr.len
  have ret : rd_law_bent_7 K (ends R Z) [some (.ref p), some (.ref b), some (.int way), some (.int a3)] G M := bent_7 q hn hs (.list (.inr hb) hr) (th_list he (by omega))
  refine ⟨G, M, Wk.refl, ?_⟩
  show if decide ((5 : Int) < way) = true then _ else _
  refine ite2' (fun e => ?_) (fun e => ret)
  refine ⟨sz0, fun np fnp => ⟨.list (XD.pds zs), .list [], zs_dat hb hr he (by omega) _, dat_list lat_0 dats_nil, (th_list he (by omega)).2.shaped (by decide), (shp_ints (n := 0) []).shaped (by decide), ?_⟩⟩
  refine ite2' (c := !PyData.eqv (.list (XD.pds zs)) (.list [])) (fun e2 => ?_) (fun e2 => kseq_wk Wk.drop0 ret)
  have hpos : 0 < us.length := by
    rw [hlen]
    cases zs with
    | nil => rw [eqvL_nil] at e2; cases e2
    | cons _ _ => exact Nat.succ_pos _
  refine ⟨G, M, Wk.drop0, us, lst_g (sql_of hb), p, (us.length : Int), n, c, s, rfl, rfl, hn, hs, by omega, Int.lt_of_le_of_lt (b := 1000) (by omega) (by decide), fun r c1 s1 r0 r1 hs1 => ?_⟩
  obtain ⟨i, rfl⟩ := Int.eq_ofNat_of_zero_le r0
  have hn1 := set_n (x := (p, pool c1 s1)) hn
  have q1 := q.set (x := (p, pool c1 s1))
  obtain ⟨M1, hM1⟩ : ∃ M1, M1 = M.set n (p, pool c1 s1) := ⟨_, rfl⟩
  rw [← hM1] at hn1 q1 ⊢
  have t1 : LitOk K (kSl K (kVar 1) (kNoP) (kPart (kVar 3))) [some (.ref p), some (.ref b), some (.int way), some (.int (i : Nat))] G (.list (zs.take i)) := lit_sl (lo := none) (hi := some (i : Nat)) rfl hb (fun _ _ _ _ q => q) (fun _ _ _ _ q => q) (us' := us.take i) cut_take (rpa_take i hr)
  have t2 : LitOk K (kSl K (kVar 1) (kPart (kBin (kAdd) (kVar 3) (kC (.int 1)))) (kNoP)) [some (.ref p), some (.ref b), some (.int way), some (.int (i : Nat))] G (.list (zs.drop (i + 1))) := lit_sl (lo := some ((i : Int) + 1)) (hi := none) rfl hb (fun _ _ _ _ q => q) (fun _ _ _ _ q => q) (us' := us.drop (i + 1)) (by rw [show ((i : Int) + 1) = ((i + 1 : Nat) : Int) by omega, cut_drop]) (rpa_drop (i + 1) hr)
  have hL := lit_add (lit_add t1 (lit_lst (lits_cons lit_non lits_nil) (by show 1 ≤ 1000; decide)) (by rw [List.length_append, List.length_take]; simp; omega)) t2 (by rw [List.length_append, List.length_append, List.length_take, List.length_drop]; simp; omega)
  refine ⟨G, M1, Wk.refl, kset_of (hL.use fun v5 G5 Mz e5 nc5 r5 => ?_)⟩
  refine kseq_wk (frzA_wk Mz G5 M1) (bent_7 (q1.ex (e5.trans (frzA_ex nc5))) hn1 hs1 (r5.frz nc5) (th_list (cut3 (us := us) he (el_it (it_of sh4_non (by decide) (by decide)) trivial)) ?_))
  rw [List.length_append, List.length_append, List.length_take, List.length_drop, List.length_singleton]; omega
theorem pf_law_bent (h : S_law_bent K vs G M R Z) : rd_law_bent K (ends R Z) (sta 4 vs) G M := by
  obtain ⟨_, _, rfl, p, n, c, s, a, us, ks, ds, rfl, rfl, hn, hs, ha, h2, hok, hk, h8, q⟩ := sp2_of h
  clear h
  have q : ResR ThOk K G M n p R := q
  have hr : RpA K G [] us (ds.map drX) := drs_rpa h2
  have he := drs_el hok hk
  have hlk : ks.length = ds.length := hok.len
  obtain ⟨zs, hzs⟩ : ∃ zs, zs = ds.map drX := ⟨_, rfl⟩
  have hzl : zs.length = ds.length := by rw [hzs, List.length_map]
  rw [← hzs] at hr he
  have hlen := hr.len
  have hal : ∀ M : Mem, LstAt K G M a us := fun M => .inr (sql_of ha)
  refine ⟨G, M, Wk.refl, p, 8, n, c, s, rfl, rfl, hn, hs, by decide, by decide, fun r1 c1 s1 r10 r11 hs1 => ?_⟩
  obtain ⟨way, rfl⟩ := Int.eq_ofNat_of_zero_le r10
  have hn1 := set_n (x := (p, pool c1 s1)) hn
  have q1 := q.set (x := (p, pool c1 s1))
  obtain ⟨M1, hM1⟩ : ∃ M1, M1 = M.set n (p, pool c1 s1) := ⟨_, rfl⟩
  rw [← hM1] at hn1 q1 ⊢
  refine ⟨G, M1, Wk.refl, us, lst_g (sql_of ha), p, (us.length : Int) + 1, n, c1, s1, rfl, rfl, hn1, hs1, by omega, Int.lt_of_le_of_lt (b := 1000) (by omega) (by decide), fun r2 c2 s2 r20 r21 hs2 => ?_⟩
  obtain ⟨i, rfl⟩ := Int.eq_ofNat_of_zero_le r20
  have hi : i ≤ us.length := by omega
  have hn2 := set_n (x := (p, pool c2 s2)) hn1
  have q2 := q1.set (x := (p, pool c2 s2))
  obtain ⟨M2, hM2⟩ : ∃ M2, M2 = M1.set n (p, pool c2 s2) := ⟨_, rfl⟩
  rw [← hM2] at hn2 q2 ⊢
  have t1 : LitOk K (kSl K (kVar 1) (kNoP) (kPart (kVar 3))) [some (.ref p), some (.ref a), some (.int (way : Nat)), some (.int (i : Nat))] G (.list (zs.take i)) := lit_sl (lo := none) (hi := some (i : Nat)) rfl ha (fun _ _ _ _ q => q) (fun _ _ _ _ q => q) (us' := us.take i) cut_take (rpa_take i hr)
  have t2 : LitOk K (kSl K (kVar 1) (kPart (kBin (kAdd) (kVar 3) (kC (.int 1)))) (kNoP)) [some (.ref p), some (.ref a), some (.int (way : Nat)), some (.int (i : Nat))] G (.list (zs.drop (i + 1))) := lit_sl (lo := some ((i : Int) + 1)) (hi := none) rfl ha (fun _ _ _ _ q => q) (fun _ _ _ _ q => q) (us' := us.drop (i + 1)) (by rw [show ((i : Int) + 1) = ((i + 1 : Nat) : Int) by omega, cut_drop]) (rpa_drop (i + 1) hr)
  have t3 : LitOk K (kSl K (kVar 1) (kPart (kVar 3)) (kNoP)) [some (.ref p), some (.ref a), some (.int (way : Nat)), some (.int (i : Nat))] G (.list (zs.drop i)) := lit_sl (lo := some (i : Nat)) (hi := none) rfl ha (fun _ _ _ _ q => q) (fun _ _ _ _ q => q) (us' := us.drop i) cut_drop (rpa_drop i hr)
  refine ⟨G, M2, Wk.refl, ite2' (c := decide (V.int (way : Nat) = .int 0)) (fun _ => ?_) (fun _ => ?_)⟩
  · have hL := lit_add t1 t2 (by rw [List.length_append, List.length_take, List.length_drop]; omega)
    refine ⟨G, M2, Wk.refl, kret_of (hL.use fun v G' Mx e nc r => res_fin q2 e r (th_list (fun x hx => (List.mem_append.mp hx).elim (fun z => he x (List.mem_of_mem_take z)) fun z => he x (List.mem_of_mem_drop z)) ?_) hs2 (set_id hn2))⟩
    rw [List.length_append, List.length_take, List.length_drop]; omega
  refine ⟨G, M2, Wk.refl, ite2' (c := decide (V.int (way : Nat) = .int 1)) (fun _ => ?_) (fun _ => ?_)⟩
  · have hL := lit_add (lit_add t1 (lit_lst (lits_cons (lit_int (i := 0)) lits_nil) (by show 1 ≤ 1000; decide)) (by rw [List.length_append, List.length_take]; simp; omega)) t3 (by rw [List.length_append, List.length_append, List.length_take, List.length_drop]; simp; omega)
    refine ⟨G, M2, Wk.refl, kret_of (hL.use fun v G' Mx e nc r => res_fin q2 e r (th_list (fun x hx => ?_) ?_) hs2 (set_id hn2))⟩
    · rcases List.mem_append.mp hx with hx | hx
      · rcases List.mem_append.mp hx with hx | hx
        · exact he x (List.mem_of_mem_take hx)
        · rw [List.mem_singleton.mp hx]; exact el_it (it_nat (n := 0) (by decide)) trivial
      · exact he x (List.mem_of_mem_drop hx)
    · rw [List.length_append, List.length_append, List.length_take, List.length_drop, List.length_singleton]; omega
  refine ⟨G, M2, Wk.refl, ite2' (c := decide (V.int (way : Nat) = .int 2)) (fun _ => ?_) (fun _ => ?_)⟩
  · have hL := lit_lst (lits_cons (lit_tuple (K := K) (i := 1) (σ := [some (.ref p), some (.ref a), some (.int (way : Nat)), some (.int (i : Nat))]) rfl ha hr) (lits_cons lit_non (lits_cons (lit_str (i := "draws")) (lits_cons (lit_int (i := 0)) lits_nil)))) (by show 4 ≤ 1000; decide)
    refine ⟨G, M2, Wk.refl, kret_of ?_⟩
    refine lit_pick (i := 0) (n := n) (L := 4) hL rfl hn2 hs2 rfl (by show 0 < 4; decide) (by show 4 ≤ 1000; decide) fun v d G' Mx c3 s3 e nc hd r hs3 => ?_
    refine res_fin q2 e r ?_ hs3 rfl
    simp only [List.mem_cons, List.not_mem_nil, or_false] at hd
    rcases hd with rfl | rfl | rfl | rfl
    · exact th_tup he (by omega)
    · exact ⟨trivial, sh4_non.up (by decide) (by decide)⟩
    · exact ⟨trivial, sh4_dr.up (by decide) (by decide)⟩
    · exact ⟨trivial, (sh4_nat (n := 0) (by decide)).up (by decide) (by decide)⟩
  refine ⟨G, M2, Wk.refl, us, lst_g (sql_of ha), ?_⟩
  show if decide ((i : Int) < (us.length : Int)) = true then _ else _
  refine ite2' (fun e => ?_) (fun e => bent_6 q2 hn2 hs2 ha hr he (by omega))
  have hi2 : i < us.length := by have := of_decide_eq_true e; omega
  obtain ⟨dr, hdr⟩ : ∃ dr, ds[i]? = some dr := ⟨_, List.getElem?_eq_getElem (by omega)⟩
  obtain ⟨k, hki, hkd⟩ := hok.get hdr
  obtain ⟨v, hv, hvd⟩ := h2.get hdr
  refine ⟨G, M2, Wk.refl, us, hal _, fun x1 f1 => ?_⟩
  refine ⟨us, v, .inl (hal _), atI_nat hv, p, n + 1, c2, s2, k, dr, rfl, hn2, hs2, hvd, hkd, hk k (List.mem_of_getElem? hki), fun w d c3 s3 G3 e3 r3 hd3 hs3 => ?_⟩
  have ha3 := e3 _ _ ha
  have hr3 : RpA K G3 [] us zs := hr.ex e3
  refine ⟨sz1, fun x2 f2 => ⟨_, [w], at_n (n := 1) rfl, at_n (n := 0) rfl, ?_, fun x3 f3 => ⟨us, .inr (sql_of ha3), fun x4 f4 => ⟨_, _, at_n (n := 1) rfl, at_n (n := 0) rfl, ?_, fun x5 f5 => ?_⟩⟩⟩⟩
  · rw [cut_take, List.length_take, List.length_singleton]; exact sz (by omega)
  · rw [cut_take, show ((i : Int) + 1) = ((i + 1 : Nat) : Int) by omega, cut_drop, List.length_append, List.length_take, List.length_singleton, List.length_drop]; exact sz (by omega)
  have hn3 := set_n (x := (p, pool c3 s3)) hn2
  have e5 := Ex.new' (o := .lst ((cutV us none (some (i : Nat)) ++ [w]) ++ cutV us (some ((i : Int) + 1)) none)) f5.1
  have hr5 : RpA K (upd G3 x5 (.lst ((cutV us none (some (i : Nat)) ++ [w]) ++ cutV us (some ((i : Int) + 1)) none))) [] ((cutV us none (some (i : Nat)) ++ [w]) ++ cutV us (some ((i : Int) + 1)) none) ((zs.take i ++ [d]) ++ zs.drop (i + 1)) := by
    have h0 : RpA K G3 [] ((us.take i ++ [w]) ++ us.drop (i + 1)) ((zs.take i ++ [d]) ++ zs.drop (i + 1)) := ((rpa_take i hr3).app (.cons r3 .nil)).app (rpa_drop (i + 1) hr3)
    rw [cut_take, show ((i : Int) + 1) = ((i + 1 : Nat) : Int) by omega, cut_drop] at e5 ⊢
    exact h0.ex e5
  refine kseq_wk (Wk.frz0.trans (Wk.dropP [_, _, _, _])) (bent_6 (M := M2.set n (p, pool c3 s3)) ((q2.set (x := (p, pool c3 s3))).ex (e3.trans e5)) hn3 hs3 upd_same hr5 (cut3 (us := us) he hd3) ?_)
  rw [List.length_append, List.length_append, List.length_take, List.length_drop, List.length_singleton]; omega
end
section
variable {K : PySem.W.Frag} {vs : List V} {G : Hp} {M : Mem} {R : KR} {Z : KX}
theorem same_no {x : V} (e : (!decide (x = x)) = true) : False := by rw [decide_eq_true rfl] at e; cases e
theorem eq_ref1 {a b : Addr} {d : PyData} {n : Nat} {neg : Bool} (ha : DatAt K G M (.ref a) d) (hb : DatAt K G M (.ref b) d) (sh : Shp n d) (hn : n ≤ 64) (q : R (.bl (!neg)) G M) : kEqv neg K (.ref a) (.ref b) G M R := by
  refine ⟨d, d, ha, hb, sh.shaped hn, sh.shaped hn, ?_⟩
  rw [sh.refl]
  cases neg <;> exact q
theorem th_repr {v : V} {d : XD} (r : Rp K G [] v d) (h : ThOk d) (M : Mem) : DatAt K G M v d.pd ∧ d.pd.showable = true ∧ d.pd.hasDict = false ∧ d.pd.depth ≤ 30 ∧ d.pd.shown.length ≤ sizeLine :=
  ⟨rp_dat r h.2, h.2.s, h.2.n, Nat.le_trans h.2.p (by decide), Nat.le_trans (PyData.shown_le 40 (by decide) _ h.2.l) (Nat.le_trans (Nat.add_le_add_right (Nat.mul_le_mul_left _ h.2.w) _) (by decide))⟩
def uD : V → PyData
  | .int i => .int i
  | .str s => .str s
  | _ => .none
theorem u_dat {u : V} (h : u = .non ∨ ∃ i : Int, u = .int i) (M : Mem) : DatAt K G M u (uD u) := by
  rcases h with rfl | ⟨i, rfl⟩
  · exact dat_non
  · exact dat_int
theorem u_shp {u : V} (h : u = .non ∨ ∃ i : Int, u = .int i) : Shp 1 (.list [uD u]) := .list fun d hd => by
  rw [List.mem_singleton.mp hd]
  rcases h with rfl | ⟨i, rfl⟩
  · exact .non
  · exact .int
theorem shp_good : Shp 1 (.list [.str "good"]) := .list fun d hd => by rw [List.mem_singleton.mp hd]; exact .str (by decide +kernel)
theorem shp_kn1 (ks : List Kn) : Shp 2 (.list (ks.map knD)) := .list fun d hd => by
  obtain ⟨k, _, rfl⟩ := List.mem_map.mp hd
  refine .tuple fun d hd => ?_
  simp only [List.mem_cons, List.not_mem_nil, or_false] at hd
  rcases hd with rfl | rfl
  · refine .str ?_
    unfold Kn.txt
    split <;> decide +kernel
  · exact .int
/-- one thing -/
theorem right_b0 {p t tv L : Addr} {c s : Int} {us l2 : List V} {ks : List Kn} {v : V} {d : XD} {y4 y5 y6 : Option V} {D : Kd} (ht : G t = some (.lst us)) (hd : DpAll K G us (ks.map knD)) (hk : ∀ k, k ∈ ks → KnOk k) (hl : ks.length ≤ 8) (r : Rp K G [] v d) (h : ThOk d)
    (q : ∀ G' y4 y5 y6, Ex G G' → D.nx [some (.ref p), some (.ref t), some (.ref tv), some v, y4, y5, y6, none, none] G' [(L, .lst l2), (p, pool c s)]) (hw : ∀ σ G M G' M', Wk G M G' M' → D.nx σ G' M' → D.nx σ G M) :
    rd_law_right_b0 K D [some (.ref p), some (.ref t), some (.ref tv), some v, y4, y5, y6, none, none] G [(L, .lst l2), (p, pool c s)] := by
  obtain ⟨w1, w2, w3, w4, w5⟩ := th_repr r h [(L, .lst l2), (p, pool c s)]
  refine ⟨G, _, Wk.refl, _, w1, w2, w3, w4, w5, ?_⟩
  have hkn : ∀ {G' : Hp} {M : Mem}, Ex G G' → KnAt K G' M t ks := fun e => ⟨us, .inr (sql_of (e _ _ ht)), ex_ds e _ hd, hk, by omega⟩
  refine ⟨G, _, Wk.refl, t, ks, d, rfl, hkn Ex.refl, r, h.1, fun p5 => ?_⟩
  refine ⟨G, _, Wk.refl, us, lst_g (sql_of ht), fun p6 f6 => ?_⟩
  have hk6 : KnAt K G ((p6, .lst us) :: (p5, .lst (dueV ks d)) :: [(L, .lst l2), (p, pool c s)]) p6 ks := ⟨us, lat_0, hd, hk, by omega⟩
  refine ⟨G, _, Wk.refl, p6, ks, d, rfl, hk6, r, h.1, fun p7 G4 e4 => ?_⟩
  have hd4 := ex_ds e4 _ hd
  cases hD : dueV ks d with
  | nil =>
    rw [look_nil hD]
    refine ⟨sz1, fun p8 f8 => ⟨sz2, fun p9 f9 => ⟨sz0, fun p10 f10 => ⟨.list [], .list [], dat_list (lat_n (n := 5) rfl) dats_nil, dat_list lat_0 dats_nil, (shp_ints (n := 0) []).shaped (by decide), (shp_ints (n := 0) []).shaped (by decide), ?_⟩⟩⟩⟩
    rw [eqvL_nil]
    refine ⟨[.ref p5, .ref p8], .ref p8, lst_n (n := 1) rfl, rfl, ?_⟩
    refine eq_ref1 (neg := true) (d := .list [.str "good"]) (n := 1) (dat_list (lat_n (n := 3) rfl) (dats_cons dat_str dats_nil)) (dat_list (lat_n (n := 2) rfl) (dats_cons dat_str dats_nil)) shp_good (by decide) ?_
    obtain ⟨z1, z2, z3, z4, z5⟩ := th_repr (r.ex e4) h ((p10, .lst []) :: (p9, .lst [.ref p5, .ref p8]) :: (p8, .lst [.str "good"]) :: (p7, .lst [.str "good"]) :: (p6, .lst us) :: (p5, .lst []) :: [(L, .lst l2), (p, pool c s)])
    refine ⟨_, z1, z2, z3, z4, z5, ite2' (c := !decide (V.str d.pd.shown = .str d.pd.shown)) (fun e => (same_no e).elim) (fun _ => ?_)⟩
    refine eq_ref1 (neg := true) (d := .list (ks.map knD)) (n := 2) (dat_list (lat_n (n := 4) rfl) (dats_g hd4)) (dat_list (.inr (sql_of (e4 _ _ ht))) (dats_g hd4)) (shp_kn1 ks) (by decide) ?_
    exact hw _ _ _ _ _ (Wk.dropP [_, _, _, _, _, _]) (q G4 _ _ _ e4)
  | cons u l =>
    obtain ⟨rfl, hu⟩ := due_one hD
    rw [look_due hD]
    refine ⟨sz1, fun p8 f8 => ⟨sz2, fun p9 f9 => ⟨sz0, fun p10 f10 => ⟨.list [uD u], .list [], dat_list (lat_n (n := 5) rfl) (dats_cons (u_dat hu _) dats_nil), dat_list lat_0 dats_nil, (u_shp hu).shaped (by decide), (shp_ints (n := 0) []).shaped (by decide), ?_⟩⟩⟩⟩
    rw [eqvL_nil]
    refine ⟨[.ref p5, .ref p8], .ref p5, lst_n (n := 1) rfl, rfl, ?_⟩
    refine eq_ref1 (neg := true) (d := .list [uD u]) (n := 1) (dat_list (lat_n (n := 3) rfl) (dats_cons (u_dat hu _) dats_nil)) (dat_list (lat_n (n := 5) rfl) (dats_cons (u_dat hu _) dats_nil)) (u_shp hu) (by decide) ?_
    obtain ⟨z1, z2, z3, z4, z5⟩ := th_repr (r.ex e4) h ((p10, .lst []) :: (p9, .lst [.ref p5, .ref p8]) :: (p8, .lst [.str "good"]) :: (p7, .lst [u]) :: (p6, .lst us) :: (p5, .lst [u]) :: [(L, .lst l2), (p, pool c s)])
    refine ⟨_, z1, z2, z3, z4, z5, ite2' (c := !decide (V.str d.pd.shown = .str d.pd.shown)) (fun e => (same_no e).elim) (fun _ => ?_)⟩
    refine eq_ref1 (neg := true) (d := .list (ks.map knD)) (n := 2) (dat_list (lat_n (n := 4) rfl) (dats_g hd4)) (dat_list (.inr (sql_of (e4 _ _ ht))) (dats_g hd4)) (shp_kn1 ks) (by decide) ?_
    exact hw _ _ _ _ _ (Wk.dropP [_, _, _, _, _, _]) (q G4 _ _ _ e4)
theorem pf_law_right (h : S_law_right K vs G M R Z) : rd_law_right K (ends R Z) (sta 9 vs) G M := by
  obtain ⟨_, rfl, p, c, s, rfl, rfl, hs, q⟩ := sp1_of h
  clear h
  refine ⟨G, _, Wk.refl, p, 8, 64, 0, c, s, rfl, rfl, rfl, rfl, hs, by decide, by decide, by decide, by decide, fun t us ks G1 c s e1 ht hd hk hl hs => ?_⟩
  have hl : ks.length ≤ 8 := hl
  refine ⟨G1, [(p, pool c s)], Wk.refl, p, c, s, t, us, ks, rfl, rfl, rfl, hs, sql_of ht, hd, hk, hl, fun tv av ds c s G2 e2 htv h2 hok hs => ?_⟩
  have hul := dpall_len hd
  rw [List.length_map] at hul
  have hel := drs_el hok hk
  refine ⟨G2, [(p, pool c s)], Wk.refl, p, 0, c, s, tv, av, ks, ds, rfl, rfl, rfl, hs, htv, h2, hok, hk, hl, fun w d c s G3 e3 r3 hd3 hs => ⟨sz2, fun L fL => ?_⟩⟩
  have hds : ds.length ≤ 8 := by rw [← hok.len]; exact hl
  have r0 : Rp K G3 [] (.ref tv) (.list (ds.map drX)) := (Rp.list (.inr htv) (drs_rpa h2)).ex e3
  have h0 : ThOk (.list (ds.map drX)) := th_list hel (by rw [List.length_map]; omega)
  have ht3 := e3 _ _ (e2 _ _ ht)
  have hd3' := ex_ds (e2.trans e3) _ hd
  have htv3 := e3 _ _ htv
  have h23 : A2 (DrG G3) av ds := h2.mono fun _ _ z => z.ex e3
  refine ⟨_, lat_0, _, _, Wk.refl, fun i σ G' M' => ∃ y3 y4 y5 y6, σ = [some (.ref p), some (.ref t), some (.ref tv), y3, y4, y5, y6, none, none] ∧ Ex G3 G' ∧ M' = [(L, .lst [.ref tv, w]), (p, pool c s)], ⟨_, _, _, _, rfl, Ex.refl, rfl⟩, ?_, ?_, ?_⟩
  · rintro i σ G' M' _ ⟨y3, y4, y5, y6, rfl, _, rfl⟩; exact lat_0
  · rintro i σ G' M' hi ⟨y3, y4, y5, y6, rfl, ex, rfl⟩
    have hi : i < 2 := hi
    obtain ⟨v, x, hv, hr, hx⟩ : ∃ v x, [V.ref tv, w][i]? = some v ∧ Rp K G3 [] v x ∧ ThOk x := by
      rcases (show i = 0 ∨ i = 1 by omega) with rfl | rfl
      · exact ⟨_, _, rfl, r0, h0⟩
      · exact ⟨_, _, rfl, r3, hd3⟩
    refine asg_L hv ?_
    exact right_b0 (ex _ _ ht3) (ex_ds ex _ hd3') hk hl (hr.ex ex) hx (fun G' y4 y5 y6 e => ⟨G', _, Wk.refl, _, _, _, _, rfl, ex.trans e, rfl⟩) (fun σ G M G' M' wk ⟨G2, M2, wk2, z⟩ => ⟨G2, M2, wk.trans wk2, z⟩)
  rintro σ G4 M4 ⟨y3, y4, y5, y6, rfl, e4, rfl⟩
  have ht4 := e4 _ _ ht3
  have hd4 := ex_ds e4 _ hd3'
  have htv4 := e4 _ _ htv3
  have h24 : A2 (DrG G4) av ds := h23.mono fun _ _ z => z.ex e4
  refine ⟨G4, [(p, pool c s)], Wk.drop0, us, lst_g (sql_of ht4), ⟨by omega, by omega⟩, fun i σ G' M' => ∃ (y3 y4 y5 y6 y7 y8 : Option V) (c s : Int), σ = [some (.ref p), some (.ref t), some (.ref tv), y3, y4, y5, y6, y7, y8] ∧ Ex G4 G' ∧ M' = [(p, pool c s)] ∧ PoolOk s, ⟨_, _, _, _, none, none, c, s, rfl, Ex.refl, rfl, hs⟩, fun _ _ _ _ _ _ => trivial, ?_, ?_⟩
  · rintro i σ G' M' hi ⟨y3, y4, y5, y6, y7, y8, c, s, rfl, ex, rfl, hs⟩
    have hi : i < (us.length : Int).toNat := hi
    have ht' := ex _ _ ht4
    have htv' := ex _ _ htv4
    obtain ⟨k, hki⟩ : ∃ k, ks[i]? = some k := ⟨_, List.getElem?_eq_getElem (by omega)⟩
    have hkk := hk k (List.mem_of_getElem? hki)
    obtain ⟨kv, hkv, hkd⟩ := dpall_get (i := i) (d := knD k) (ex_ds ex _ hd4) (by rw [List.getElem?_map, hki]; rfl)
    obtain ⟨T, rfl, hT⟩ := dp_kn_inv hkd
    obtain ⟨dr, hdr, hkd2⟩ := hok.get' hki
    obtain ⟨v, hv, hvd⟩ := (h24.mono fun _ _ z => z.ex ex).get hdr
    refine asg_R (v := (i : Int)) (by omega) ?_
    refine ⟨G', [(p, pool c s)], Wk.refl, av, v, lst_g (sql_of htv'), atI_nat hv, av, v, lst_g (sql_of htv'), atI_nat hv, p, 0, c, s, k, dr, rfl, rfl, hs, hvd, hkd2, hkk, fun w2 d2 c s G5 e5 r5 hd5 hs => ?_⟩
    have ht5 := e5 _ _ ht'
    refine ⟨us, .ref T, lst_g (sql_of ht5), atI_nat hkv, _, .int (k.n : Nat), tup_g (ex_t e5 hT), rfl, by show (0 : Int) < 8; decide, ?_⟩
    have m0 : 0 ≤ (k.n : Int) % 8 := Int.emod_nonneg _ (by decide)
    have m8 : (k.n : Int) % 8 < 8 := Int.emod_lt_of_pos _ (by decide)
    refine ⟨⟨m0, by omega, by decide⟩, sz3, fun L fL => ?_⟩
    have hkd5 := ex_d e5 _ hkd
    obtain ⟨z, hz⟩ : ∃ z : Int, z = 1 * 2 ^ ((k.n : Int) % 8).toNat := ⟨_, rfl⟩
    have rv : Rp K G5 [] v (drX dr) := by
      cases dr with
      | leaf n => cases (show v = .int (n : Nat) from hvd); exact .int _
      | row l =>
        obtain ⟨b, rfl, hb⟩ := hvd
        exact .list (.inr (e5 _ _ hb)) (rpa_nx l)
    refine ⟨_, lat_0, _, _, Wk.refl, fun j σ G' M' => ∃ (y3 y4 y5 y6 y8 : Option V), σ = [some (.ref p), some (.ref t), some (.ref tv), y3, y4, y5, y6, some (.int (i : Nat)), y8] ∧ Ex G5 G' ∧ M' = [(L, .lst [v, w2, .int (1 * 2 ^ ((k.n : Int) % 8).toNat)]), (p, pool c s)], ⟨_, _, _, _, _, rfl, Ex.refl, rfl⟩, ?_, ?_, ?_⟩
    · rintro j σ G6 M6 _ ⟨y3, y4, y5, y6, y8, rfl, _, rfl⟩; exact lat_0
    · rintro j σ G6 M6 hj ⟨y3, y4, y5, y6, y8, rfl, ex6, rfl⟩
      have hj : j < 3 := hj
      obtain ⟨u, x, hu, hr, hx⟩ : ∃ u x, [v, w2, V.int (1 * 2 ^ ((k.n : Int) % 8).toNat)][j]? = some u ∧ Rp K G5 [] u x ∧ LenX x := by
        rcases (show j = 0 ∨ j = 1 ∨ j = 2 by omega) with rfl | rfl | rfl
        · exact ⟨_, _, rfl, rv, (dr_el hkd2 hkk).1⟩
        · exact ⟨_, _, rfl, r5, hd5.1⟩
        · exact ⟨_, .int _, rfl, .int _, trivial⟩
      have ht6 := ex6 _ _ ht5
      refine asg_L hu ?_
      refine ⟨G6, _, Wk.refl, us, .ref T, lst_g (sql_of ht6), atI_nat hkv, k, drawX k x, ex_d ex6 _ hkd5, hkk, drawV_of (hr.ex ex6) hx, ?_⟩
      refine ⟨G6, _, Wk.refl, .type PT.bool.name, .type "bool", _, .ty "bool", ty_bl, kit_pt .bool .bool, ?_⟩
      refine ⟨us, .ref T, lst_g (sql_of ht6), atI_nat hkv, k, x, ex_d ex6 _ hkd5, hkk, hr.ex ex6, hx, ?_⟩
      refine ite2' (c := !decide (V.bl (drawX k x) = V.bl (drawX k x))) (fun e => (same_no e).elim) (fun _ => ?_)
      exact ⟨G6, _, Wk.refl, _, _, _, _, _, rfl, ex6, rfl⟩
    · rintro σ G6 M6 ⟨y3, y4, y5, y6, y8, rfl, ex6, rfl⟩
      exact ⟨G6, [(p, pool c s)], Wk.drop0, _, _, _, _, _, _, c, s, rfl, ex.trans (e5.trans ex6), rfl, hs⟩
  · rintro σ G' M' ⟨y3, y4, y5, y6, y7, y8, c, s, rfl, ex, rfl, _⟩
    exact ⟨G', _, Wk.refl, ret0 (q _ _ (e1.trans (e2.trans (e3.trans (e4.trans ex)))))⟩
end
section
variable {K : PySem.W.Frag} {vs : List V} {G : Hp} {M : Mem} {R : KR} {Z : KX}
def things16 : List XD := [.int 0, .int 1, .int (-1), .int (10 ^ (59 : Int).toNat), .int 7, .bl true, .bl false, .non, .str "1", .str "", .list [.int 1], .tup [.int 1], .list [], .dict, .tup [], .list [.int 0]]
theorem things_int : ∀ k, k < 16 → ((things16.getD k .non).ty == .int) = decide (k < 5) := by decide +kernel
theorem pf_law (h : S_law K vs G M R Z) : rd_law K (ends R Z) (sta 4 vs) G M := by
  obtain ⟨_, rfl, a, ns, rfl, hS, hl, q⟩ := sp1_of h
  clear h
  have hL : LitOk K (kLst (kCons (kC (.int 0)) (kCons (kC (.int 1)) (kCons (kUn kNeg (kC (.int 1))) (kCons (kBin (kI CPow fun i j => .int (i ^ j.toNat)) (kC (.int 10)) (kC (.int 59))) (kCons (kC (.int 7)) (kCons (kC (.bl true)) (kCons (kC (.bl false)) (kCons (kC .non) (kCons (kC (.str "1")) (kCons (kC (.str "")) (kCons (kLst (kCons (kC (.int 1)) (kNil))) (kCons (kTup (kCons (kC (.int 1)) (kNil))) (kCons (kLst (kNil)) (kCons (kDNew) (kCons (kTup (kNil)) (kCons (kLst (kCons (kC (.int 0)) (kNil))) (kNil)))))))))))))))))) [some (.ref a), none, none, none] G (.list things16) :=
    lit_lst (lits_cons lit_int (lits_cons lit_int (lits_cons lit_neg (lits_cons (lit_pow ⟨by decide, by decide, by decide⟩) (lits_cons lit_int (lits_cons lit_bl (lits_cons lit_bl (lits_cons lit_non (lits_cons lit_str (lits_cons lit_str (lits_cons (lit_lst (lits_cons lit_int lits_nil) (by decide)) (lits_cons (lit_tup (lits_cons lit_int lits_nil) (by decide)) (lits_cons (lit_lst lits_nil (by decide)) (lits_cons lit_dict (lits_cons (lit_tup lits_nil (by decide)) (lits_cons (lit_lst (lits_cons lit_int lits_nil) (by decide)) lits_nil)))))))))))))))) (by decide)
  refine ⟨G, [], Wk.nil', kset_of (hL.use fun v G1 Mx e1 nc r => ?_)⟩
  obtain ⟨G2, hG2⟩ : ∃ g, g = frzA G1 Mx := ⟨_, rfl⟩
  have r2 : Rp K G2 [] v (.list things16) := by rw [hG2]; exact r.frz nc
  have e2 : Ex G G2 := by rw [hG2]; exact e1.trans (frzA_ex nc)
  cases r2 with
  | @list b us _ hb hs =>
    have hsq : SqL K G2 b us := sql_of (hb.elim (fun z => nomatch z) id)
    have hul : us.length = 16 := hs.len
    have hS2 := ex_l e2 hS
    refine ⟨G2, [], by rw [hG2]; exact frzA_wk Mx G1 [], us, lst_g hsq, ⟨by omega, by omega⟩, fun i σ G' M' => ∃ y2 y3, σ = [some (.ref a), some (.ref b), y2, y3] ∧ G' = G2 ∧ M' = [], ⟨none, none, rfl, rfl, rfl⟩, fun _ _ _ _ _ _ => trivial, ?_, ?_⟩
    · rintro i σ G' M' hi ⟨y2, y3, rfl, hG, rfl⟩
      subst hG
      have hi : i < (us.length : Int).toNat := hi
      refine asg_R (v := (i : Int)) (by omega) ?_
      obtain ⟨x, d, h1, h2, h3⟩ := hs.get (i := i) (by omega)
      have ht := things_int i (by omega)
      rw [List.getD_eq_getElem?_getD, h2] at ht
      have ht : (d.ty == .int) = decide (i < 5) := ht
      refine ⟨G', [], Wk.refl, us, x, lst_g hsq, atI_nat h1, d.ty, rp_ty h3 _, ?_⟩
      refine ⟨G', [], Wk.refl, .type PT.bool.name, .type "bool", _, .ty "bool", ty_bl, kit_pt .bool .bool, ?_⟩
      have e5 : decide ((i : Int) < 5) = (d.ty == .int) := by
        rw [ht, Bool.eq_iff_iff, decide_eq_true_iff, decide_eq_true_iff]; omega
      refine ite2' (c := !decide (V.bl (d.ty == .int) = V.bl (decide ((i : Int) < 5)))) (fun e => ?_) (fun _ => ?_)
      · rw [e5] at e; exact (same_no e).elim
      · exact ⟨G', [], Wk.refl, _, _, rfl, rfl, rfl⟩
    rintro σ G' M' ⟨y2, y3, rfl, hG, rfl⟩
    subst hG
    refine ⟨G', [], Wk.refl, _, lst_g hS2, ⟨by omega, by omega⟩, fun i σ G2 M2 => ∃ y2 y3, σ = [some (.ref a), some (.ref b), y2, y3] ∧ Ex G' G2, ⟨_, _, rfl, Ex.refl⟩, fun _ _ _ _ _ _ => trivial, ?_, ?_⟩
    · rintro i σ G2 M2 hi ⟨y2, y3, rfl, ex⟩
      have hi : i < (max 1 (min ((ns.map V.int).length : Int) 24)).toNat := hi
      refine asg_R (v := (i : Int)) (by omega) ?_
      refine ⟨G2, [], Wk.nil', a, ns, i, rfl, rfl, ex_l ex hS2, by omega, by omega, hl, fun p c s fp hs => ?_⟩
      refine ⟨p, c, s, rfl, rfl, hs, fun G3 M3 ex3 => ?_⟩
      exact ⟨G3, M3, Wk.refl, _, _, rfl, ex.trans ex3⟩
    · rintro σ G2 M2 ⟨y2, y3, rfl, ex⟩
      exact ⟨_, _, Wk.refl, ret0 (q _ _)⟩
end
def topS (i : Nat) : Stmt := PySem.Challenge.pw_blindtouch_k01_draws_of_kinds.main.body.getD i (.Pass ⟨0, 0, 0, 0⟩)
structure Bs (mg : Str → Option Value) : Prop where
  ValueError : mg "ValueError" = none
  all : mg "all" = none
  bool : mg "bool" = none
  enumerate : mg "enumerate" = none
  int : mg "int" = none
  isinstance : mg "isinstance" = none
  len : mg "len" = none
  list : mg "list" = none
  max : mg "max" = none
  min : mg "min" = none
  range : mg "range" = none
  repr : mg "repr" = none
  tuple : mg "tuple" = none
structure Cs (K : PySem.W.Frag) (mg : Str → Option Value) : Prop where
  g_TouchError : XG K mg "TouchError"
  g_NoDraws : XG K mg "NoDraws"
  i_NoDraws : XI K "NoDraws"
  b_TouchError : XB K mg "TouchError"
  x_at : ∀ x ∈ tab_at, XI K x
  t_TouchError : ∀ p ∈ tab_tr_TouchError, PySem.W.exmOne K (.ref (cl K p.1)) (.ref (cl K "TouchError")) = some p.2
  n_NoDraws : PySem.W.kitOne K (.type "NoneType") (.ref (cl K "NoDraws")) = some false
  j_NoDraws : ∀ p ∈ tab_is_NoDraws, ExcC K (cl K p.1) ∧ PySem.W.kitOne K (.ref (cl K p.1)) (.ref (cl K "NoDraws")) = some p.2
  n_ValueError : PySem.W.kitOne K (.type "NoneType") (.type "ValueError") = some false
  j_ValueError : ∀ p ∈ tab_is_ValueError, ExcC K (cl K p.1) ∧ PySem.W.kitOne K (.ref (cl K p.1)) (.type "ValueError") = some p.2
abbrev s_is_whole : Stmt := topS 4
abbrev N_is_whole : List Str := ["thing"]
theorem sc_is_whole : FnScope N_is_whole ["thing"] (defScope s_is_whole) := ⟨rfl, rfl, rfl, by decide +kernel, rfl, by decide +kernel, by decide +kernel⟩
theorem fo_is_whole {P : Program} {w : World} {K : PySem.W.Frag} {mg : Str → Option Value} {base : Heap} {f : Addr} {fd : FuncData} (B : Bs mg) (C : Cs K mg) (F : Fun K "is_whole" "is_whole" s_is_whole f fd)  :
    FnOk P w K mg base (L2.CX P w) 1 f fd ["thing"] (lift (S_is_whole K)) := by
  refine fn_ok F sc_is_whole (fun vs G M R Z h => sp_len1 h) (fun cdv A outer s H E hr => ?_)
  have nd : N_is_whole.Nodup := sc_is_whole.nd
  have hu : _ + 64 < cLine := hr.units
  have tk : Takes (cxOf (L2.CX P w) P w K mg base N_is_whole "is_whole" (defScope s_is_whole) f cdv A outer s H E) (fun c d _ H => E c d H) := takes_of rfl rfl rfl rfl
  have po : PassesOwn (model P w) _ _ _ := passes_of (X := cxOf (L2.CX P w) P w K mg base N_is_whole "is_whole" (defScope s_is_whole) f cdv A outer s H E) rfl
  exact ⟨rd_is_whole K, jss_cons (js_ret (je_and (je_callB kc_isi B.isinstance (ja_cons (je_var 0) (ja_cons (je_ty B.int) (ja_nil)))) (je_one (je_not (je_callB kc_isi B.isinstance (ja_cons (je_var 0) (ja_cons (je_ty B.bool) (ja_nil)))))))) (jss_nil), fun vs G M R Z h => pf_is_whole h⟩
theorem df_is_whole {P : Program} {w : World} {K : PySem.W.Frag} {mg : Str → Option Value} {base : Heap} {f : Addr} {fd : FuncData} (B : Bs mg) (C : Cs K mg) (F : Fun K "is_whole" "is_whole" s_is_whole f fd) (b : Binds K fd ["thing"] []) (gm : mg "is_whole" = some (.ref f))  :
    Def P w K mg base 1 "is_whole" ["thing"] (S_is_whole K) := ⟨f, fd, fo_is_whole B C F , gm, F.kp, b⟩
abbrev s_law_pool : Stmt := topS 12
abbrev N_law_pool : List Str := ["_law_script", "_law_k", "_law_cell", "_law_seed"]
theorem sc_law_pool : FnScope N_law_pool ["_law_script", "_law_k"] (defScope s_law_pool) := ⟨rfl, rfl, rfl, by decide +kernel, rfl, by decide +kernel, by decide +kernel⟩
theorem fo_law_pool {P : Program} {w : World} {K : PySem.W.Frag} {mg : Str → Option Value} {base : Heap} {f : Addr} {fd : FuncData} (B : Bs mg) (C : Cs K mg) (F : Fun K "_law_pool" "_law_pool" s_law_pool f fd)  :
    FnOk P w K mg base (L2.CX P w) 1 f fd ["_law_script", "_law_k"] (lift (S_law_pool K)) := by
  refine fn_ok F sc_law_pool (fun vs G M R Z h => sp_len2 h) (fun cdv A outer s H E hr => ?_)
  have nd : N_law_pool.Nodup := sc_law_pool.nd
  have hu : _ + 64 < cLine := hr.units
  have tk : Takes (cxOf (L2.CX P w) P w K mg base N_law_pool "_law_pool" (defScope s_law_pool) f cdv A outer s H E) (fun c d _ H => E c d H) := takes_of rfl rfl rfl rfl
  have po : PassesOwn (model P w) _ _ _ := passes_of (X := cxOf (L2.CX P w) P w K mg base N_law_pool "_law_pool" (defScope s_law_pool) f cdv A outer s H E) rfl
  exact ⟨rd_law_pool K, jss_cons (js_set (i := 2) (je_int) nd) (jss_cons (js_if (jt_cmp (kop_lt) (je_var 1) (je_callB kc_len B.len (ja_cons (je_var 0) (ja_nil))) (nomark _)) (jss_cons (js_set (i := 2) (je_ix (je_var 0) (je_var 1)) nd) (jss_nil)) (jss_nil)) (jss_cons (js_set (i := 3) (je_op kop_mod (je_op kop_mul (je_op kop_add (je_op kop_add (je_op kop_mod (je_var 2) (je_int)) (je_op kop_mul (je_op kop_mul (je_int) (je_var 1)) (je_var 1))) (je_int)) (je_int)) (je_int)) nd) (jss_cons (js_if (jt_cmp (kop_lt) (je_var 2) (je_op kop_pow (je_int) (je_int)) (nomark _)) (jss_cons (js_set (i := 2) (je_int) nd) (jss_nil)) (jss_nil)) (jss_cons (js_ret (je_lst (ja_cons (je_var 2) (ja_cons (je_var 3) (ja_nil))))) (jss_nil))))), fun vs G M R Z h => pf_law_pool h⟩
theorem df_law_pool {P : Program} {w : World} {K : PySem.W.Frag} {mg : Str → Option Value} {base : Heap} {f : Addr} {fd : FuncData} (B : Bs mg) (C : Cs K mg) (F : Fun K "_law_pool" "_law_pool" s_law_pool f fd) (b : Binds K fd ["_law_script", "_law_k"] []) (gm : mg "_law_pool" = some (.ref f))  :
    Def P w K mg base 1 "_law_pool" ["_law_script", "_law_k"] (S_law_pool K) := ⟨f, fd, fo_law_pool B C F , gm, F.kp, b⟩
abbrev s_law_take : Stmt := topS 13
abbrev N_law_take : List Str := ["_law_pool_here", "_law_many", "_law_found"]
theorem sc_law_take : FnScope N_law_take ["_law_pool_here", "_law_many"] (defScope s_law_take) := ⟨rfl, rfl, rfl, by decide +kernel, rfl, by decide +kernel, by decide +kernel⟩
theorem fo_law_take {P : Program} {w : World} {K : PySem.W.Frag} {mg : Str → Option Value} {base : Heap} {f : Addr} {fd : FuncData} (B : Bs mg) (C : Cs K mg) (F : Fun K "_law_take" "_law_take" s_law_take f fd)  :
    FnOk P w K mg base (L2.CX P w) 1 f fd ["_law_pool_here", "_law_many"] (lift (S_law_take K)) := by
  refine fn_ok F sc_law_take (fun vs G M R Z h => sp_len2 h) (fun cdv A outer s H E hr => ?_)
  have nd : N_law_take.Nodup := sc_law_take.nd
  have hu : _ + 64 < cLine := hr.units
  have tk : Takes (cxOf (L2.CX P w) P w K mg base N_law_take "_law_take" (defScope s_law_take) f cdv A outer s H E) (fun c d _ H => E c d H) := takes_of rfl rfl rfl rfl
  have po : PassesOwn (model P w) _ _ _ := passes_of (X := cxOf (L2.CX P w) P w K mg base N_law_take "_law_take" (defScope s_law_take) f cdv A outer s H E) rfl
  exact ⟨rd_law_take K, jss_cons (js_if (jt_cmp (kop_gt) (je_ix (je_var 0) (je_int)) (je_int) (nomark _)) (jss_cons (js_set (i := 2) (je_op kop_mod (je_ix (je_var 0) (je_int)) (je_var 1)) nd) (jss_cons (js_asg (je_op kop_fdiv (je_ix (je_var 0) (je_int)) (je_var 1)) (jg_ix (je_var 0) (je_int))) (jss_cons (js_ret (je_var 2)) (jss_nil)))) (jss_nil)) (jss_cons (js_asg (je_op kop_mod (je_op kop_add (je_op kop_mul (je_ix (je_var 0) (je_int)) (je_int)) (je_int)) (je_int)) (jg_ix (je_var 0) (je_int))) (jss_cons (js_ret (je_op kop_mod (je_op kop_fdiv (je_op kop_mod (je_op kop_mul (je_ix (je_var 0) (je_int)) (je_ix (je_var 0) (je_int))) (je_int)) (je_int)) (je_var 1))) (jss_nil))), fun vs G M R Z h => pf_law_take h⟩
theorem df_law_take {P : Program} {w : World} {K : PySem.W.Frag} {mg : Str → Option Value} {base : Heap} {f : Addr} {fd : FuncData} (B : Bs mg) (C : Cs K mg) (F : Fun K "_law_take" "_law_take" s_law_take f fd) (b : Binds K fd ["_law_pool_here", "_law_many"] []) (gm : mg "_law_take" = some (.ref f))  :
    Def P w K mg base 1 "_law_take" ["_law_pool_here", "_law_many"] (S_law_take K) := ⟨f, fd, fo_law_take B C F , gm, F.kp, b⟩
abbrev s_law_kinds : Stmt := topS 15
abbrev N_law_kinds : List Str := ["_law_pool_here", "_law_most", "_law_far", "_law_kinds_here", "_law_k"]
theorem sc_law_kinds : FnScope N_law_kinds ["_law_pool_here", "_law_most", "_law_far"] (defScope s_law_kinds) := ⟨rfl, rfl, rfl, by decide +kernel, rfl, by decide +kernel, by decide +kernel⟩
theorem fo_law_kinds {P : Program} {w : World} {K : PySem.W.Frag} {mg : Str → Option Value} {base : Heap} {f : Addr} {fd : FuncData} (B : Bs mg) (C : Cs K mg) (F : Fun K "_law_kinds" "_law_kinds" s_law_kinds f fd) (D_law_take : Def P w K mg base 1 "_law_take" ["_law_pool_here", "_law_many"] (S_law_take K)) :
    FnOk P w K mg base (L2.CX P w) 2 f fd ["_law_pool_here", "_law_most", "_law_far"] (lift (S_law_kinds K)) := by
  refine fn_ok F sc_law_kinds (fun vs G M R Z h => sp_len3 h) (fun cdv A outer s H E hr => ?_)
  have nd : N_law_kinds.Nodup := sc_law_kinds.nd
  have hu : _ + 64 < cLine := hr.units
  have tk : Takes (cxOf (L2.CX P w) P w K mg base N_law_kinds "_law_kinds" (defScope s_law_kinds) f cdv A outer s H E) (fun c d _ H => E c d H) := takes_of rfl rfl rfl rfl
  have po : PassesOwn (model P w) _ _ _ := passes_of (X := cxOf (L2.CX P w) P w K mg base N_law_kinds "_law_kinds" (defScope s_law_kinds) f cdv A outer s H E) rfl
  exact ⟨rd_law_kinds K, jss_cons (js_set (i := 3) (je_lst (ja_nil)) nd) (jss_cons (js_for po rfl (ji_range1 B.range (ja_cons (je_callD D_law_take hr tk (ja_cons (je_var 0) (ja_cons (je_op kop_add (je_var 1) (je_int)) (ja_nil)))) (ja_nil))) (jg_name (i := 4) nd) (jss_cons (js_if (jt_cmp (kop_eq hu) (je_callD D_law_take hr tk (ja_cons (je_var 0) (ja_cons (je_int) (ja_nil)))) (je_int) (nomark _)) (jss_cons (js_expr (je_bm PySem.F.plainAttrs_list PySem.F.slot_list_append PySem.F.type_list_append km_append (je_var 3) (ja_cons (je_tup (ja_cons (je_str) (ja_cons (je_callD D_law_take hr tk (ja_cons (je_var 0) (ja_cons (je_int) (ja_nil)))) (ja_nil)))) (ja_nil)))) (jss_nil)) (jss_cons (js_expr (je_bm PySem.F.plainAttrs_list PySem.F.slot_list_append PySem.F.type_list_append km_append (je_var 3) (ja_cons (je_tup (ja_cons (je_str) (ja_cons (je_op kop_add (je_int) (je_callD D_law_take hr tk (ja_cons (je_var 0) (ja_cons (je_ix (je_lst (ja_cons (je_int) (ja_cons (je_var 2) (ja_nil)))) (je_callD D_law_take hr tk (ja_cons (je_var 0) (ja_cons (je_int) (ja_nil))))) (ja_nil))))) (ja_nil)))) (ja_nil)))) (jss_nil))) (jss_nil))) (jss_cons (js_ret (je_var 3)) (jss_nil))), fun vs G M R Z h => pf_law_kinds h⟩
theorem df_law_kinds {P : Program} {w : World} {K : PySem.W.Frag} {mg : Str → Option Value} {base : Heap} {f : Addr} {fd : FuncData} (B : Bs mg) (C : Cs K mg) (F : Fun K "_law_kinds" "_law_kinds" s_law_kinds f fd) (b : Binds K fd ["_law_pool_here", "_law_most", "_law_far"] []) (gm : mg "_law_kinds" = some (.ref f)) (D_law_take : Def P w K mg base 1 "_law_take" ["_law_pool_here", "_law_many"] (S_law_take K)) :
    Def P w K mg base 2 "_law_kinds" ["_law_pool_here", "_law_most", "_law_far"] (S_law_kinds K) := ⟨f, fd, fo_law_kinds B C F D_law_take, gm, F.kp, b⟩
abbrev s_law_draw : Stmt := topS 16
abbrev N_law_draw : List Str := ["_law_pool_here", "_law_kind", "_law_k"]
theorem sc_law_draw : FnScope N_law_draw ["_law_pool_here", "_law_kind"] (defScope s_law_draw) := ⟨rfl, rfl, rfl, by decide +kernel, rfl, by decide +kernel, by decide +kernel⟩
theorem fo_law_draw {P : Program} {w : World} {K : PySem.W.Frag} {mg : Str → Option Value} {base : Heap} {f : Addr} {fd : FuncData} (B : Bs mg) (C : Cs K mg) (F : Fun K "_law_draw" "_law_draw" s_law_draw f fd) (D_law_take : Def P w K mg base 1 "_law_take" ["_law_pool_here", "_law_many"] (S_law_take K)) :
    FnOk P w K mg base (L2.CX P w) 2 f fd ["_law_pool_here", "_law_kind"] (lift (S_law_draw K)) := by
  refine fn_ok F sc_law_draw (fun vs G M R Z h => sp_len2 h) (fun cdv A outer s H E hr => ?_)
  have nd : N_law_draw.Nodup := sc_law_draw.nd
  have hu : _ + 64 < cLine := hr.units
  have tk : Takes (cxOf (L2.CX P w) P w K mg base N_law_draw "_law_draw" (defScope s_law_draw) f cdv A outer s H E) (fun c d _ H => E c d H) := takes_of rfl rfl rfl rfl
  have po : PassesOwn (model P w) _ _ _ := passes_of (X := cxOf (L2.CX P w) P w K mg base N_law_draw "_law_draw" (defScope s_law_draw) f cdv A outer s H E) rfl
  exact ⟨rd_law_draw K, jss_cons (js_if (jt_cmp (kop_eq hu) (je_ix (je_var 1) (je_int)) (je_str) (nomark _)) (jss_cons (js_ret (je_callD D_law_take hr tk (ja_cons (je_var 0) (ja_cons (je_op kop_shl (je_int) (je_ix (je_var 1) (je_int))) (ja_nil))))) (jss_nil)) (jss_nil)) (jss_cons (js_ret (je_comp (own := [("_law_k", 2)]) rfl nd (ji_range1 B.range (ja_cons (je_ix (je_var 1) (je_int)) (ja_nil))) (blkOk_by (own := [("_law_k", 2)]) (N := N_law_draw) (sc := defScope s_law_draw) (by decide +kernel)) (fun _ _ _ _ _ => by exact jg_name (i := 2) nd) (fun _ _ _ _ _ => by exact jts_nil) (fun _ _ _ _ _ => by exact je_callD D_law_take hr takes0 (ja_cons (je_var 0) (ja_cons (je_op kop_add (je_var 2) (je_int)) (ja_nil)))))) (jss_nil)), fun vs G M R Z h => pf_law_draw h⟩
theorem df_law_draw {P : Program} {w : World} {K : PySem.W.Frag} {mg : Str → Option Value} {base : Heap} {f : Addr} {fd : FuncData} (B : Bs mg) (C : Cs K mg) (F : Fun K "_law_draw" "_law_draw" s_law_draw f fd) (b : Binds K fd ["_law_pool_here", "_law_kind"] []) (gm : mg "_law_draw" = some (.ref f)) (D_law_take : Def P w K mg base 1 "_law_take" ["_law_pool_here", "_law_many"] (S_law_take K)) :
    Def P w K mg base 2 "_law_draw" ["_law_pool_here", "_law_kind"] (S_law_draw K) := ⟨f, fd, fo_law_draw B C F D_law_take, gm, F.kp, b⟩
abbrev s_law_draws : Stmt := topS 17
abbrev N_law_draws : List Str := ["_law_pool_here", "_law_kinds_here", "_law_kind"]
theorem sc_law_draws : FnScope N_law_draws ["_law_pool_here", "_law_kinds_here"] (defScope s_law_draws) := ⟨rfl, rfl, rfl, by decide +kernel, rfl, by decide +kernel, by decide +kernel⟩
theorem fo_law_draws {P : Program} {w : World} {K : PySem.W.Frag} {mg : Str → Option Value} {base : Heap} {f : Addr} {fd : FuncData} (B : Bs mg) (C : Cs K mg) (F : Fun K "_law_draws" "_law_draws" s_law_draws f fd) (D_law_draw : Def P w K mg base 2 "_law_draw" ["_law_pool_here", "_law_kind"] (S_law_draw K)) :
    FnOk P w K mg base (L2.CX P w) 3 f fd ["_law_pool_here", "_law_kinds_here"] (lift (S_law_draws K)) := by
  refine fn_ok F sc_law_draws (fun vs G M R Z h => sp_len2 h) (fun cdv A outer s H E hr => ?_)
  have nd : N_law_draws.Nodup := sc_law_draws.nd
  have hu : _ + 64 < cLine := hr.units
  have tk : Takes (cxOf (L2.CX P w) P w K mg base N_law_draws "_law_draws" (defScope s_law_draws) f cdv A outer s H E) (fun c d _ H => E c d H) := takes_of rfl rfl rfl rfl
  have po : PassesOwn (model P w) _ _ _ := passes_of (X := cxOf (L2.CX P w) P w K mg base N_law_draws "_law_draws" (defScope s_law_draws) f cdv A outer s H E) rfl
  exact ⟨rd_law_draws K, jss_cons (js_ret (je_comp (own := [("_law_kind", 2)]) rfl nd (ji_list (je_var 1)) (blkOk_by (own := [("_law_kind", 2)]) (N := N_law_draws) (sc := defScope s_law_draws) (by decide +kernel)) (fun _ _ _ _ _ => by exact jg_name (i := 2) nd) (fun _ _ _ _ _ => by exact jts_nil) (fun _ _ _ _ _ => by exact je_callD D_law_draw hr takes0 (ja_cons (je_var 0) (ja_cons (je_var 2) (ja_nil)))))) (jss_nil), fun vs G M R Z h => pf_law_draws h⟩
theorem df_law_draws {P : Program} {w : World} {K : PySem.W.Frag} {mg : Str → Option Value} {base : Heap} {f : Addr} {fd : FuncData} (B : Bs mg) (C : Cs K mg) (F : Fun K "_law_draws" "_law_draws" s_law_draws f fd) (b : Binds K fd ["_law_pool_here", "_law_kinds_here"] []) (gm : mg "_law_draws" = some (.ref f)) (D_law_draw : Def P w K mg base 2 "_law_draw" ["_law_pool_here", "_law_kind"] (S_law_draw K)) :
    Def P w K mg base 3 "_law_draws" ["_law_pool_here", "_law_kinds_here"] (S_law_draws K) := ⟨f, fd, fo_law_draws B C F D_law_draw, gm, F.kp, b⟩
abbrev s_law_odd : Stmt := topS 20
abbrev N_law_odd : List Str := ["_law_pool_here", "_law_draw_here", "_law_some", "_law_at", "_law_odd_here"]
theorem sc_law_odd : FnScope N_law_odd ["_law_pool_here", "_law_draw_here"] (defScope s_law_odd) := ⟨rfl, rfl, rfl, by decide +kernel, rfl, by decide +kernel, by decide +kernel⟩
theorem fo_law_odd {P : Program} {w : World} {K : PySem.W.Frag} {mg : Str → Option Value} {base : Heap} {f : Addr} {fd : FuncData} (B : Bs mg) (C : Cs K mg) (F : Fun K "_law_odd" "_law_odd" s_law_odd f fd) (D_law_take : Def P w K mg base 1 "_law_take" ["_law_pool_here", "_law_many"] (S_law_take K)) :
    FnOk P w K mg base (L2.CX P w) 2 f fd ["_law_pool_here", "_law_draw_here"] (lift (S_law_odd K)) := by
  refine fn_ok F sc_law_odd (fun vs G M R Z h => sp_len2 h) (fun cdv A outer s H E hr => ?_)
  have nd : N_law_odd.Nodup := sc_law_odd.nd
  have hu : _ + 64 < cLine := hr.units
  have tk : Takes (cxOf (L2.CX P w) P w K mg base N_law_odd "_law_odd" (defScope s_law_odd) f cdv A outer s H E) (fun c d _ H => E c d H) := takes_of rfl rfl rfl rfl
  have po : PassesOwn (model P w) _ _ _ := passes_of (X := cxOf (L2.CX P w) P w K mg base N_law_odd "_law_odd" (defScope s_law_odd) f cdv A outer s H E) rfl
  exact ⟨rd_law_odd K, jss_cons (js_set (i := 2) (je_lst (ja_cons (je_neg (je_int)) (ja_cons (je_int) (ja_cons (je_op kop_pow (je_int) (je_int)) (ja_cons (je_bl) (ja_cons (je_bl) (ja_cons (je_non) (ja_cons (je_str) (ja_cons (je_tup (ja_cons (je_int) (ja_nil))) (ja_cons (je_lst (ja_nil)) (ja_cons (je_lst (ja_cons (je_int) (ja_cons (je_int) (ja_nil)))) (ja_cons (je_int) (ja_cons (je_int) (ja_nil)))))))))))))) nd) (jss_cons (js_if (jt_val (je_callB kc_isi B.isinstance (ja_cons (je_var 1) (ja_cons (je_ty B.list) (ja_nil))))) (jss_cons (js_set (i := 3) (je_callD D_law_take hr tk (ja_cons (je_var 0) (ja_cons (je_callB kc_len B.len (ja_cons (je_var 1) (ja_nil))) (ja_nil)))) nd) (jss_cons (js_set (i := 4) (je_ix (je_lst (ja_cons (je_op kop_add (je_var 3) (je_int)) (ja_cons (je_neg (je_int)) (ja_cons (je_bl) (ja_cons (je_non) (ja_cons (je_str) (ja_cons (je_lst (ja_cons (je_int) (ja_nil))) (ja_cons (je_var 3) (ja_cons (je_int) (ja_nil)))))))))) (je_callD D_law_take hr tk (ja_cons (je_var 0) (ja_cons (je_int) (ja_nil))))) nd) (jss_cons (js_set (i := 2) (je_op kop_add (je_var 2) (je_lst (ja_cons (je_op kop_add (je_op kop_add (je_slice (je_var 1) (jo_none) (jo_some (je_var 3))) (je_lst (ja_cons (je_var 4) (ja_nil)))) (je_slice (je_var 1) (jo_some (je_op kop_add (je_var 3) (je_int))) (jo_none))) (ja_cons (je_slice (je_var 1) (jo_none) (jo_some (je_neg (je_int)))) (ja_cons (je_op kop_add (je_var 1) (je_lst (ja_cons (je_int) (ja_nil)))) (ja_cons (je_callTy kc_tuple B.tuple (ja_cons (je_var 1) (ja_nil))) (ja_nil))))))) nd) (jss_nil)))) (jss_nil)) (jss_cons (js_ret (je_ix (je_var 2) (je_callD D_law_take hr tk (ja_cons (je_var 0) (ja_cons (je_callB kc_len B.len (ja_cons (je_var 2) (ja_nil))) (ja_nil)))))) (jss_nil))), fun vs G M R Z h => pf_law_odd h⟩
theorem df_law_odd {P : Program} {w : World} {K : PySem.W.Frag} {mg : Str → Option Value} {base : Heap} {f : Addr} {fd : FuncData} (B : Bs mg) (C : Cs K mg) (F : Fun K "_law_odd" "_law_odd" s_law_odd f fd) (b : Binds K fd ["_law_pool_here", "_law_draw_here"] []) (gm : mg "_law_odd" = some (.ref f)) (D_law_take : Def P w K mg base 1 "_law_take" ["_law_pool_here", "_law_many"] (S_law_take K)) :
    Def P w K mg base 2 "_law_odd" ["_law_pool_here", "_law_draw_here"] (S_law_odd K) := ⟨f, fd, fo_law_odd B C F D_law_take, gm, F.kp, b⟩
abbrev s_law_bent : Stmt := topS 21
abbrev N_law_bent : List Str := ["_law_pool_here", "_law_draws_here", "_law_way", "_law_at"]
theorem sc_law_bent : FnScope N_law_bent ["_law_pool_here", "_law_draws_here"] (defScope s_law_bent) := ⟨rfl, rfl, rfl, by decide +kernel, rfl, by decide +kernel, by decide +kernel⟩
theorem fo_law_bent {P : Program} {w : World} {K : PySem.W.Frag} {mg : Str → Option Value} {base : Heap} {f : Addr} {fd : FuncData} (B : Bs mg) (C : Cs K mg) (F : Fun K "_law_bent" "_law_bent" s_law_bent f fd) (D_law_take : Def P w K mg base 1 "_law_take" ["_law_pool_here", "_law_many"] (S_law_take K)) (D_law_odd : Def P w K mg base 2 "_law_odd" ["_law_pool_here", "_law_draw_here"] (S_law_odd K)) :
    FnOk P w K mg base (L2.CX P w) 3 f fd ["_law_pool_here", "_law_draws_here"] (lift (S_law_bent K)) := by
  refine fn_ok F sc_law_bent (fun vs G M R Z h => sp_len2 h) (fun cdv A outer s H E hr => ?_)
  have nd : N_law_bent.Nodup := sc_law_bent.nd
  have hu : _ + 64 < cLine := hr.units
  have tk : Takes (cxOf (L2.CX P w) P w K mg base N_law_bent "_law_bent" (defScope s_law_bent) f cdv A outer s H E) (fun c d _ H => E c d H) := takes_of rfl rfl rfl rfl
  have po : PassesOwn (model P w) _ _ _ := passes_of (X := cxOf (L2.CX P w) P w K mg base N_law_bent "_law_bent" (defScope s_law_bent) f cdv A outer s H E) rfl
  exact ⟨rd_law_bent K, jss_cons (js_set (i := 2) (je_callD D_law_take hr tk (ja_cons (je_var 0) (ja_cons (je_int) (ja_nil)))) nd) (jss_cons (js_set (i := 3) (je_callD D_law_take hr tk (ja_cons (je_var 0) (ja_cons (je_op kop_add (je_callB kc_len B.len (ja_cons (je_var 1) (ja_nil))) (je_int)) (ja_nil)))) nd) (jss_cons (js_if (jt_cmp (kop_eq hu) (je_var 2) (je_int) (nomark _)) (jss_cons (js_ret (je_op kop_add (je_slice (je_var 1) (jo_none) (jo_some (je_var 3))) (je_slice (je_var 1) (jo_some (je_op kop_add (je_var 3) (je_int))) (jo_none)))) (jss_nil)) (jss_nil)) (jss_cons (js_if (jt_cmp (kop_eq hu) (je_var 2) (je_int) (nomark _)) (jss_cons (js_ret (je_op kop_add (je_op kop_add (je_slice (je_var 1) (jo_none) (jo_some (je_var 3))) (je_lst (ja_cons (je_int) (ja_nil)))) (je_slice (je_var 1) (jo_some (je_var 3)) (jo_none)))) (jss_nil)) (jss_nil)) (jss_cons (js_if (jt_cmp (kop_eq hu) (je_var 2) (je_int) (nomark _)) (jss_cons (js_ret (je_ix (je_lst (ja_cons (je_callTy kc_tuple B.tuple (ja_cons (je_var 1) (ja_nil))) (ja_cons (je_non) (ja_cons (je_str) (ja_cons (je_int) (ja_nil)))))) (je_callD D_law_take hr tk (ja_cons (je_var 0) (ja_cons (je_int) (ja_nil)))))) (jss_nil)) (jss_nil)) (jss_cons (js_if (jt_cmp (kop_lt) (je_var 3) (je_callB kc_len B.len (ja_cons (je_var 1) (ja_nil))) (nomark _)) (jss_cons (js_set (i := 1) (je_op kop_add (je_op kop_add (je_slice (je_var 1) (jo_none) (jo_some (je_var 3))) (je_lst (ja_cons (je_callD D_law_odd hr tk (ja_cons (je_var 0) (ja_cons (je_ix (je_var 1) (je_var 3)) (ja_nil)))) (ja_nil)))) (je_slice (je_var 1) (jo_some (je_op kop_add (je_var 3) (je_int))) (jo_none))) nd) (jss_nil)) (jss_nil)) (jss_cons (js_if ((jw_and (jt_cmp (kop_gt) (je_var 2) (je_int) (nomark _)) (jw_and1 (jt_cmp (kop_ne hu) (je_var 1) (je_lst (ja_nil)) (nomark _)))).jt) (jss_cons (js_set (i := 3) (je_callD D_law_take hr tk (ja_cons (je_var 0) (ja_cons (je_callB kc_len B.len (ja_cons (je_var 1) (ja_nil))) (ja_nil)))) nd) (jss_cons (js_set (i := 1) (je_op kop_add (je_op kop_add (je_slice (je_var 1) (jo_none) (jo_some (je_var 3))) (je_lst (ja_cons (je_non) (ja_nil)))) (je_slice (je_var 1) (jo_some (je_op kop_add (je_var 3) (je_int))) (jo_none))) nd) (jss_nil))) (jss_nil)) (jss_cons (js_ret (je_var 1)) (jss_nil)))))))), fun vs G M R Z h => pf_law_bent h⟩
theorem df_law_bent {P : Program} {w : World} {K : PySem.W.Frag} {mg : Str → Option Value} {base : Heap} {f : Addr} {fd : FuncData} (B : Bs mg) (C : Cs K mg) (F : Fun K "_law_bent" "_law_bent" s_law_bent f fd) (b : Binds K fd ["_law_pool_here", "_law_draws_here"] []) (gm : mg "_law_bent" = some (.ref f)) (D_law_take : Def P w K mg base 1 "_law_take" ["_law_pool_here", "_law_many"] (S_law_take K)) (D_law_odd : Def P w K mg base 2 "_law_odd" ["_law_pool_here", "_law_draw_here"] (S_law_odd K)) :
    Def P w K mg base 3 "_law_bent" ["_law_pool_here", "_law_draws_here"] (S_law_bent K) := ⟨f, fd, fo_law_bent B C F D_law_take D_law_odd, gm, F.kp, b⟩
abbrev s_law_whole : Stmt := topS 14
abbrev N_law_whole : List Str := ["_law_found"]
theorem sc_law_whole : FnScope N_law_whole ["_law_found"] (defScope s_law_whole) := ⟨rfl, rfl, rfl, by decide +kernel, rfl, by decide +kernel, by decide +kernel⟩
theorem fo_law_whole {P : Program} {w : World} {K : PySem.W.Frag} {mg : Str → Option Value} {base : Heap} {f : Addr} {fd : FuncData} (B : Bs mg) (C : Cs K mg) (F : Fun K "_law_whole" "_law_whole" s_law_whole f fd)  :
    FnOk P w K mg base (L2.CX P w) 1 f fd ["_law_found"] (lift (S_law_whole K)) := by
  refine fn_ok F sc_law_whole (fun vs G M R Z h => sp_len1 h) (fun cdv A outer s H E hr => ?_)
  have nd : N_law_whole.Nodup := sc_law_whole.nd
  have hu : _ + 64 < cLine := hr.units
  have tk : Takes (cxOf (L2.CX P w) P w K mg base N_law_whole "_law_whole" (defScope s_law_whole) f cdv A outer s H E) (fun c d _ H => E c d H) := takes_of rfl rfl rfl rfl
  have po : PassesOwn (model P w) _ _ _ := passes_of (X := cxOf (L2.CX P w) P w K mg base N_law_whole "_law_whole" (defScope s_law_whole) f cdv A outer s H E) rfl
  exact ⟨rd_law_whole K, jss_cons (js_ret (je_and (je_callB kc_isi B.isinstance (ja_cons (je_var 0) (ja_cons (je_ty B.int) (ja_nil)))) (je_one (je_not (je_callB kc_isi B.isinstance (ja_cons (je_var 0) (ja_cons (je_ty B.bool) (ja_nil)))))))) (jss_nil), fun vs G M R Z h => pf_law_whole h⟩
theorem df_law_whole {P : Program} {w : World} {K : PySem.W.Frag} {mg : Str → Option Value} {base : Heap} {f : Addr} {fd : FuncData} (B : Bs mg) (C : Cs K mg) (F : Fun K "_law_whole" "_law_whole" s_law_whole f fd) (b : Binds K fd ["_law_found"] []) (gm : mg "_law_whole" = some (.ref f))  :
    Def P w K mg base 1 "_law_whole" ["_law_found"] (S_law_whole K) := ⟨f, fd, fo_law_whole B C F , gm, F.kp, b⟩
abbrev s_law_is_draw : Stmt := topS 18
abbrev N_law_is_draw : List Str := ["_law_kind", "_law_thing", "_law_k"]
theorem sc_law_is_draw : FnScope N_law_is_draw ["_law_kind", "_law_thing"] (defScope s_law_is_draw) := ⟨rfl, rfl, rfl, by decide +kernel, rfl, by decide +kernel, by decide +kernel⟩
theorem fo_law_is_draw {P : Program} {w : World} {K : PySem.W.Frag} {mg : Str → Option Value} {base : Heap} {f : Addr} {fd : FuncData} (B : Bs mg) (C : Cs K mg) (F : Fun K "_law_is_draw" "_law_is_draw" s_law_is_draw f fd) (D_law_whole : Def P w K mg base 1 "_law_whole" ["_law_found"] (S_law_whole K)) :
    FnOk P w K mg base (L2.CX P w) 2 f fd ["_law_kind", "_law_thing"] (lift (S_law_is_draw K)) := by
  refine fn_ok F sc_law_is_draw (fun vs G M R Z h => sp_len2 h) (fun cdv A outer s H E hr => ?_)
  have nd : N_law_is_draw.Nodup := sc_law_is_draw.nd
  have hu : _ + 64 < cLine := hr.units
  have tk : Takes (cxOf (L2.CX P w) P w K mg base N_law_is_draw "_law_is_draw" (defScope s_law_is_draw) f cdv A outer s H E) (fun c d _ H => E c d H) := takes_of rfl rfl rfl rfl
  have po : PassesOwn (model P w) _ _ _ := passes_of (X := cxOf (L2.CX P w) P w K mg base N_law_is_draw "_law_is_draw" (defScope s_law_is_draw) f cdv A outer s H E) rfl
  exact ⟨rd_law_is_draw K, jss_cons (js_if (jt_cmp (kop_eq hu) (je_ix (je_var 0) (je_int)) (je_str) (nomark _)) (jss_cons (js_ret (je_and (je_callD D_law_whole hr tk (ja_cons (je_var 1) (ja_nil))) (je_one (je_chain (kop_le) (kop_lt) (je_int) (je_var 1) (je_op kop_shl (je_int) (je_ix (je_var 0) (je_int))))))) (jss_nil)) (jss_nil)) (jss_cons (js_if ((jw_or (jt_not (jt_val (je_callB kc_isi B.isinstance (ja_cons (je_var 1) (ja_cons (je_ty B.list) (ja_nil)))))) (jw_or1 (jt_cmp (kop_ne hu) (je_callB kc_len B.len (ja_cons (je_var 1) (ja_nil))) (je_ix (je_var 0) (je_int)) (nomark _)))).jt) (jss_cons (js_ret (je_bl)) (jss_nil)) (jss_nil)) (jss_cons (js_ret (je_cmp (kop_eq hu) (je_comp (own := [("_law_k", 2)]) rfl nd (ji_range1 B.range (ja_cons (je_callB kc_len B.len (ja_cons (je_var 1) (ja_nil))) (ja_nil))) (blkOk_by (own := [("_law_k", 2)]) (N := N_law_is_draw) (sc := defScope s_law_is_draw) (by decide +kernel)) (fun _ _ _ _ _ => by exact jg_name (i := 2) nd) (fun _ _ _ _ _ => by exact jts_one ((jw_or (jt_not (jt_val (je_callD D_law_whole hr takes0 (ja_cons (je_ix (je_var 1) (je_var 2)) (ja_nil))))) (jw_or (jt_cmp (kop_lt) (je_ix (je_var 1) (je_var 2)) (je_int) (nomark _)) (jw_or1 (jt_cmp (kop_gt) (je_ix (je_var 1) (je_var 2)) (je_var 2) (nomark _))))).jt)) (fun _ _ _ _ _ => by exact je_var 2)) (je_lst (ja_nil)) (nomark _))) (jss_nil))), fun vs G M R Z h => pf_law_is_draw h⟩
theorem df_law_is_draw {P : Program} {w : World} {K : PySem.W.Frag} {mg : Str → Option Value} {base : Heap} {f : Addr} {fd : FuncData} (B : Bs mg) (C : Cs K mg) (F : Fun K "_law_is_draw" "_law_is_draw" s_law_is_draw f fd) (b : Binds K fd ["_law_kind", "_law_thing"] []) (gm : mg "_law_is_draw" = some (.ref f)) (D_law_whole : Def P w K mg base 1 "_law_whole" ["_law_found"] (S_law_whole K)) :
    Def P w K mg base 2 "_law_is_draw" ["_law_kind", "_law_thing"] (S_law_is_draw K) := ⟨f, fd, fo_law_is_draw B C F D_law_whole, gm, F.kp, b⟩
abbrev s_law_due : Stmt := topS 19
abbrev N_law_due : List Str := ["_law_kinds_here", "_law_thing", "_law_k"]
theorem sc_law_due : FnScope N_law_due ["_law_kinds_here", "_law_thing"] (defScope s_law_due) := ⟨rfl, rfl, rfl, by decide +kernel, rfl, by decide +kernel, by decide +kernel⟩
theorem fo_law_due {P : Program} {w : World} {K : PySem.W.Frag} {mg : Str → Option Value} {base : Heap} {f : Addr} {fd : FuncData} (B : Bs mg) (C : Cs K mg) (F : Fun K "_law_due" "_law_due" s_law_due f fd) (D_law_is_draw : Def P w K mg base 2 "_law_is_draw" ["_law_kind", "_law_thing"] (S_law_is_draw K)) :
    FnOk P w K mg base (L2.CX P w) 3 f fd ["_law_kinds_here", "_law_thing"] (lift (S_law_due K)) := by
  refine fn_ok F sc_law_due (fun vs G M R Z h => sp_len2 h) (fun cdv A outer s H E hr => ?_)
  have nd : N_law_due.Nodup := sc_law_due.nd
  have hu : _ + 64 < cLine := hr.units
  have tk : Takes (cxOf (L2.CX P w) P w K mg base N_law_due "_law_due" (defScope s_law_due) f cdv A outer s H E) (fun c d _ H => E c d H) := takes_of rfl rfl rfl rfl
  have po : PassesOwn (model P w) _ _ _ := passes_of (X := cxOf (L2.CX P w) P w K mg base N_law_due "_law_due" (defScope s_law_due) f cdv A outer s H E) rfl
  exact ⟨rd_law_due K, jss_cons (js_if ((jw_or (jt_not (jt_val (je_callB kc_isi B.isinstance (ja_cons (je_var 1) (ja_cons (je_ty B.list) (ja_nil)))))) (jw_or1 (jt_cmp (kop_ne hu) (je_callB kc_len B.len (ja_cons (je_var 1) (ja_nil))) (je_callB kc_len B.len (ja_cons (je_var 0) (ja_nil))) (nomark _)))).jt) (jss_cons (js_ret (je_lst (ja_cons (je_non) (ja_nil)))) (jss_nil)) (jss_nil)) (jss_cons (js_ret (je_slice (je_comp (own := [("_law_k", 2)]) rfl nd (ji_range1 B.range (ja_cons (je_callB kc_len B.len (ja_cons (je_var 0) (ja_nil))) (ja_nil))) (blkOk_by (own := [("_law_k", 2)]) (N := N_law_due) (sc := defScope s_law_due) (by decide +kernel)) (fun _ _ _ _ _ => by exact jg_name (i := 2) nd) (fun _ _ _ _ _ => by exact jts_one (jt_not (jt_val (je_callD D_law_is_draw hr takes0 (ja_cons (je_ix (je_var 0) (je_var 2)) (ja_cons (je_ix (je_var 1) (je_var 2)) (ja_nil))))))) (fun _ _ _ _ _ => by exact je_var 2)) (jo_none) (jo_some (je_int)))) (jss_nil)), fun vs G M R Z h => pf_law_due h⟩
theorem df_law_due {P : Program} {w : World} {K : PySem.W.Frag} {mg : Str → Option Value} {base : Heap} {f : Addr} {fd : FuncData} (B : Bs mg) (C : Cs K mg) (F : Fun K "_law_due" "_law_due" s_law_due f fd) (b : Binds K fd ["_law_kinds_here", "_law_thing"] []) (gm : mg "_law_due" = some (.ref f)) (D_law_is_draw : Def P w K mg base 2 "_law_is_draw" ["_law_kind", "_law_thing"] (S_law_is_draw K)) :
    Def P w K mg base 3 "_law_due" ["_law_kinds_here", "_law_thing"] (S_law_due K) := ⟨f, fd, fo_law_due B C F D_law_is_draw, gm, F.kp, b⟩
abbrev s_NoDraws_init : Stmt := inClass (topS 2) 0
abbrev N_NoDraws_init : List Str := ["self", "at"]
theorem sc_NoDraws_init : FnScope N_NoDraws_init ["self", "at"] (defScope s_NoDraws_init) := ⟨rfl, rfl, rfl, by decide +kernel, rfl, by decide +kernel, by decide +kernel⟩
theorem fo_NoDraws_init {P : Program} {w : World} {K : PySem.W.Frag} {mg : Str → Option Value} {base : Heap} {f : Addr} {fd : FuncData} (B : Bs mg) (C : Cs K mg) (F : Fun K "__init__" "NoDraws.__init__" s_NoDraws_init f fd)  :
    FnOk P w K mg base (L2.CX P w) 1 f fd ["self", "at"] (lift (S_NoDraws_init K)) := by
  refine fn_ok F sc_NoDraws_init (fun vs G M R Z h => sp_len2 h) (fun cdv A outer s H E hr => ?_)
  have nd : N_NoDraws_init.Nodup := sc_NoDraws_init.nd
  have hu : _ + 64 < cLine := hr.units
  have tk : Takes (cxOf (L2.CX P w) P w K mg base N_NoDraws_init "NoDraws.__init__" (defScope s_NoDraws_init) f cdv A outer s H E) (fun c d _ H => E c d H) := takes_of rfl rfl rfl rfl
  have po : PassesOwn (model P w) _ _ _ := passes_of (X := cxOf (L2.CX P w) P w K mg base N_NoDraws_init "NoDraws.__init__" (defScope s_NoDraws_init) f cdv A outer s H E) rfl
  exact ⟨rd_NoDraws_init K, jss_cons (js_expr (je_veI C.i_NoDraws.T C.b_TouchError (ja_cons (je_var 0) (ja_cons (je_str) (ja_nil))))) (jss_cons (js_setAt C.i_NoDraws (je_var 0) (je_var 1)) (jss_nil)), fun vs G M R Z h => pf_NoDraws_init h⟩
abbrev s_leaves : Stmt := topS 9
abbrev N_leaves : List Str := ["high"]
theorem sc_leaves : FnScope N_leaves ["high"] (defScope s_leaves) := ⟨rfl, rfl, rfl, by decide +kernel, rfl, by decide +kernel, by decide +kernel⟩
theorem fo_leaves {P : Program} {w : World} {K : PySem.W.Frag} {mg : Str → Option Value} {base : Heap} {f : Addr} {fd : FuncData} (B : Bs mg) (C : Cs K mg) (F : Fun K "leaves" "leaves" s_leaves f fd)  :
    FnOk P w K mg base (L2.CX P w) 1 f fd ["high"] (lift (S_leaves K)) := by
  refine fn_ok F sc_leaves (fun vs G M R Z h => sp_len1 h) (fun cdv A outer s H E hr => ?_)
  have nd : N_leaves.Nodup := sc_leaves.nd
  have hu : _ + 64 < cLine := hr.units
  have tk : Takes (cxOf (L2.CX P w) P w K mg base N_leaves "leaves" (defScope s_leaves) f cdv A outer s H E) (fun c d _ H => E c d H) := takes_of rfl rfl rfl rfl
  have po : PassesOwn (model P w) _ _ _ := passes_of (X := cxOf (L2.CX P w) P w K mg base N_leaves "leaves" (defScope s_leaves) f cdv A outer s H E) rfl
  exact ⟨rd_leaves K, jss_cons (js_ret (je_op kop_shl (je_int) (je_var 0))) (jss_nil), fun vs G M R Z h => pf_leaves h⟩
theorem df_leaves {P : Program} {w : World} {K : PySem.W.Frag} {mg : Str → Option Value} {base : Heap} {f : Addr} {fd : FuncData} (B : Bs mg) (C : Cs K mg) (F : Fun K "leaves" "leaves" s_leaves f fd) (b : Binds K fd ["high"] []) (gm : mg "leaves" = some (.ref f))  :
    Def P w K mg base 1 "leaves" ["high"] (S_leaves K) := ⟨f, fd, fo_leaves B C F , gm, F.kp, b⟩
abbrev s_is_within : Stmt := topS 5
abbrev N_is_within : List Str := ["thing", "least", "most"]
theorem sc_is_within : FnScope N_is_within ["thing", "least", "most"] (defScope s_is_within) := ⟨rfl, rfl, rfl, by decide +kernel, rfl, by decide +kernel, by decide +kernel⟩
theorem fo_is_within {P : Program} {w : World} {K : PySem.W.Frag} {mg : Str → Option Value} {base : Heap} {f : Addr} {fd : FuncData} (B : Bs mg) (C : Cs K mg) (F : Fun K "is_within" "is_within" s_is_within f fd) (D_is_whole : Def P w K mg base 1 "is_whole" ["thing"] (S_is_whole K)) :
    FnOk P w K mg base (L2.CX P w) 2 f fd ["thing", "least", "most"] (lift (S_is_within K)) := by
  refine fn_ok F sc_is_within (fun vs G M R Z h => sp_len3 h) (fun cdv A outer s H E hr => ?_)
  have nd : N_is_within.Nodup := sc_is_within.nd
  have hu : _ + 64 < cLine := hr.units
  have tk : Takes (cxOf (L2.CX P w) P w K mg base N_is_within "is_within" (defScope s_is_within) f cdv A outer s H E) (fun c d _ H => E c d H) := takes_of rfl rfl rfl rfl
  have po : PassesOwn (model P w) _ _ _ := passes_of (X := cxOf (L2.CX P w) P w K mg base N_is_within "is_within" (defScope s_is_within) f cdv A outer s H E) rfl
  exact ⟨rd_is_within K, jss_cons (js_ret (je_and (je_callD D_is_whole hr tk (ja_cons (je_var 0) (ja_nil))) (je_one (je_chain (kop_le) (kop_le) (je_var 1) (je_var 0) (je_var 2))))) (jss_nil), fun vs G M R Z h => pf_is_within h⟩
theorem df_is_within {P : Program} {w : World} {K : PySem.W.Frag} {mg : Str → Option Value} {base : Heap} {f : Addr} {fd : FuncData} (B : Bs mg) (C : Cs K mg) (F : Fun K "is_within" "is_within" s_is_within f fd) (b : Binds K fd ["thing", "least", "most"] []) (gm : mg "is_within" = some (.ref f)) (D_is_whole : Def P w K mg base 1 "is_whole" ["thing"] (S_is_whole K)) :
    Def P w K mg base 2 "is_within" ["thing", "least", "most"] (S_is_within K) := ⟨f, fd, fo_is_within B C F D_is_whole, gm, F.kp, b⟩
abbrev s_is_row : Stmt := topS 7
abbrev N_is_row : List Str := ["size", "thing", "place", "number"]
theorem sc_is_row : FnScope N_is_row ["size", "thing"] (defScope s_is_row) := ⟨rfl, rfl, rfl, by decide +kernel, rfl, by decide +kernel, by decide +kernel⟩
theorem fo_is_row {P : Program} {w : World} {K : PySem.W.Frag} {mg : Str → Option Value} {base : Heap} {f : Addr} {fd : FuncData} (B : Bs mg) (C : Cs K mg) (F : Fun K "is_row" "is_row" s_is_row f fd) (D_is_within : Def P w K mg base 2 "is_within" ["thing", "least", "most"] (S_is_within K)) :
    FnOk P w K mg base (L2.CX P w) 3 f fd ["size", "thing"] (lift (S_is_row K)) := by
  refine fn_ok F sc_is_row (fun vs G M R Z h => sp_len2 h) (fun cdv A outer s H E hr => ?_)
  have nd : N_is_row.Nodup := sc_is_row.nd
  have hu : _ + 64 < cLine := hr.units
  have tk : Takes (cxOf (L2.CX P w) P w K mg base N_is_row "is_row" (defScope s_is_row) f cdv A outer s H E) (fun c d _ H => E c d H) := takes_of rfl rfl rfl rfl
  have po : PassesOwn (model P w) _ _ _ := passes_of (X := cxOf (L2.CX P w) P w K mg base N_is_row "is_row" (defScope s_is_row) f cdv A outer s H E) rfl
  exact ⟨rd_is_row K, jss_cons (js_if ((jw_or (jt_not (jt_val (je_callB kc_isi B.isinstance (ja_cons (je_var 1) (ja_cons (je_ty B.list) (ja_nil)))))) (jw_or1 (jt_cmp (kop_ne hu) (je_callB kc_len B.len (ja_cons (je_var 1) (ja_nil))) (je_var 0) (nomark _)))).jt) (jss_cons (js_ret (je_bl)) (jss_nil)) (jss_nil)) (jss_cons (js_ret (je_callB kc_all B.all (ja_cons (je_comp (own := [("place", 2), ("number", 3)]) rfl nd (ji_enum B.enumerate (ja_cons (je_var 1) (ja_nil))) (blkOk_by (own := [("place", 2), ("number", 3)]) (N := N_is_row) (sc := defScope s_is_row) (by decide +kernel)) (fun _ _ _ _ _ => by exact jg_tup rfl (jgs_cons (jg_name (i := 2) nd) (jgs_cons (jg_name (i := 3) nd) (jgs_nil)))) (fun _ _ _ _ _ => by exact jts_nil) (fun _ _ _ _ _ => by exact je_callD D_is_within hr takes0 (ja_cons (je_var 3) (ja_cons (je_int) (ja_cons (je_var 2) (ja_nil)))))) (ja_nil)))) (jss_nil)), fun vs G M R Z h => pf_is_row h⟩
theorem df_is_row {P : Program} {w : World} {K : PySem.W.Frag} {mg : Str → Option Value} {base : Heap} {f : Addr} {fd : FuncData} (B : Bs mg) (C : Cs K mg) (F : Fun K "is_row" "is_row" s_is_row f fd) (b : Binds K fd ["size", "thing"] []) (gm : mg "is_row" = some (.ref f)) (D_is_within : Def P w K mg base 2 "is_within" ["thing", "least", "most"] (S_is_within K)) :
    Def P w K mg base 3 "is_row" ["size", "thing"] (S_is_row K) := ⟨f, fd, fo_is_row B C F D_is_within, gm, F.kp, b⟩
abbrev s_is_draw : Stmt := topS 8
abbrev N_is_draw : List Str := ["kind", "thing"]
theorem sc_is_draw : FnScope N_is_draw ["kind", "thing"] (defScope s_is_draw) := ⟨rfl, rfl, rfl, by decide +kernel, rfl, by decide +kernel, by decide +kernel⟩
theorem fo_is_draw {P : Program} {w : World} {K : PySem.W.Frag} {mg : Str → Option Value} {base : Heap} {f : Addr} {fd : FuncData} (B : Bs mg) (C : Cs K mg) (F : Fun K "is_draw" "is_draw" s_is_draw f fd) (D_leaves : Def P w K mg base 1 "leaves" ["high"] (S_leaves K)) (D_is_within : Def P w K mg base 2 "is_within" ["thing", "least", "most"] (S_is_within K)) (D_is_row : Def P w K mg base 3 "is_row" ["size", "thing"] (S_is_row K)) :
    FnOk P w K mg base (L2.CX P w) 4 f fd ["kind", "thing"] (lift (S_is_draw K)) := by
  refine fn_ok F sc_is_draw (fun vs G M R Z h => sp_len2 h) (fun cdv A outer s H E hr => ?_)
  have nd : N_is_draw.Nodup := sc_is_draw.nd
  have hu : _ + 64 < cLine := hr.units
  have tk : Takes (cxOf (L2.CX P w) P w K mg base N_is_draw "is_draw" (defScope s_is_draw) f cdv A outer s H E) (fun c d _ H => E c d H) := takes_of rfl rfl rfl rfl
  have po : PassesOwn (model P w) _ _ _ := passes_of (X := cxOf (L2.CX P w) P w K mg base N_is_draw "is_draw" (defScope s_is_draw) f cdv A outer s H E) rfl
  exact ⟨rd_is_draw K, jss_cons (js_if (jt_cmp (kop_eq hu) (je_ix (je_var 0) (je_int)) (je_str) (nomark _)) (jss_cons (js_ret (je_callD D_is_within hr tk (ja_cons (je_var 1) (ja_cons (je_int) (ja_cons (je_op kop_sub (je_callD D_leaves hr tk (ja_cons (je_ix (je_var 0) (je_int)) (ja_nil))) (je_int)) (ja_nil)))))) (jss_nil)) (jss_nil)) (jss_cons (js_ret (je_callD D_is_row hr tk (ja_cons (je_ix (je_var 0) (je_int)) (ja_cons (je_var 1) (ja_nil))))) (jss_nil)), fun vs G M R Z h => pf_is_draw h⟩
theorem df_is_draw {P : Program} {w : World} {K : PySem.W.Frag} {mg : Str → Option Value} {base : Heap} {f : Addr} {fd : FuncData} (B : Bs mg) (C : Cs K mg) (F : Fun K "is_draw" "is_draw" s_is_draw f fd) (b : Binds K fd ["kind", "thing"] []) (gm : mg "is_draw" = some (.ref f)) (D_leaves : Def P w K mg base 1 "leaves" ["high"] (S_leaves K)) (D_is_within : Def P w K mg base 2 "is_within" ["thing", "least", "most"] (S_is_within K)) (D_is_row : Def P w K mg base 3 "is_row" ["size", "thing"] (S_is_row K)) :
    Def P w K mg base 4 "is_draw" ["kind", "thing"] (S_is_draw K) := ⟨f, fd, fo_is_draw B C F D_leaves D_is_within D_is_row, gm, F.kp, b⟩
abbrev s_look_at_draws : Stmt := topS 10
abbrev N_look_at_draws : List Str := ["kinds", "thing", "place", "kind"]
theorem sc_look_at_draws : FnScope N_look_at_draws ["kinds", "thing"] (defScope s_look_at_draws) := ⟨rfl, rfl, rfl, by decide +kernel, rfl, by decide +kernel, by decide +kernel⟩
theorem fo_look_at_draws {P : Program} {w : World} {K : PySem.W.Frag} {mg : Str → Option Value} {base : Heap} {f : Addr} {fd : FuncData} (B : Bs mg) (C : Cs K mg) (F : Fun K "look_at_draws" "look_at_draws" s_look_at_draws f fd) (D_is_draw : Def P w K mg base 4 "is_draw" ["kind", "thing"] (S_is_draw K)) (I_NoDraws : IDef P w K mg base 1 "NoDraws") :
    FnOk P w K mg base (L2.CX P w) 5 f fd ["kinds", "thing"] (lift (S_look_at_draws K)) := by
  refine fn_ok F sc_look_at_draws (fun vs G M R Z h => sp_len2 h) (fun cdv A outer s H E hr => ?_)
  have nd : N_look_at_draws.Nodup := sc_look_at_draws.nd
  have hu : _ + 64 < cLine := hr.units
  have tk : Takes (cxOf (L2.CX P w) P w K mg base N_look_at_draws "look_at_draws" (defScope s_look_at_draws) f cdv A outer s H E) (fun c d _ H => E c d H) := takes_of rfl rfl rfl rfl
  have po : PassesOwn (model P w) _ _ _ := passes_of (X := cxOf (L2.CX P w) P w K mg base N_look_at_draws "look_at_draws" (defScope s_look_at_draws) f cdv A outer s H E) rfl
  exact ⟨rd_look_at_draws K, jss_cons (js_if ((jw_or (jt_not (jt_val (je_callB kc_isi B.isinstance (ja_cons (je_var 1) (ja_cons (je_ty B.list) (ja_nil)))))) (jw_or1 (jt_cmp (kop_ne hu) (je_callB kc_len B.len (ja_cons (je_var 1) (ja_nil))) (je_callB kc_len B.len (ja_cons (je_var 0) (ja_nil))) (nomark _)))).jt) (jss_cons (js_raiseX C.g_NoDraws C.i_NoDraws I_NoDraws hr tk (ja_cons (je_non) (ja_nil))) (jss_nil)) (jss_nil)) (jss_cons (js_for po rfl (ji_enum B.enumerate (ja_cons (je_var 0) (ja_nil))) (jg_tup rfl (jgs_cons (jg_name (i := 2) nd) (jgs_cons (jg_name (i := 3) nd) (jgs_nil)))) (jss_cons (js_if (jt_not (jt_val (je_callD D_is_draw hr tk (ja_cons (je_var 3) (ja_cons (je_ix (je_var 1) (je_var 2)) (ja_nil)))))) (jss_cons (js_raiseX C.g_NoDraws C.i_NoDraws I_NoDraws hr tk (ja_cons (je_var 2) (ja_nil))) (jss_nil)) (jss_nil)) (jss_nil))) (jss_nil)), fun vs G M R Z h => pf_look_at_draws h⟩
theorem df_look_at_draws {P : Program} {w : World} {K : PySem.W.Frag} {mg : Str → Option Value} {base : Heap} {f : Addr} {fd : FuncData} (B : Bs mg) (C : Cs K mg) (F : Fun K "look_at_draws" "look_at_draws" s_look_at_draws f fd) (b : Binds K fd ["kinds", "thing"] []) (gm : mg "look_at_draws" = some (.ref f)) (D_is_draw : Def P w K mg base 4 "is_draw" ["kind", "thing"] (S_is_draw K)) (I_NoDraws : IDef P w K mg base 1 "NoDraws") :
    Def P w K mg base 5 "look_at_draws" ["kinds", "thing"] (S_look_at_draws K) := ⟨f, fd, fo_look_at_draws B C F D_is_draw I_NoDraws, gm, F.kp, b⟩
abbrev s_law_looked : Stmt := topS 22
abbrev N_law_looked : List Str := ["_law_kinds_here", "_law_thing", "_law_found", "_law_told", "e"]
theorem sc_law_looked : FnScope N_law_looked ["_law_kinds_here", "_law_thing"] (defScope s_law_looked) := ⟨rfl, rfl, rfl, by decide +kernel, rfl, by decide +kernel, by decide +kernel⟩
theorem fo_law_looked {P : Program} {w : World} {K : PySem.W.Frag} {mg : Str → Option Value} {base : Heap} {f : Addr} {fd : FuncData} (B : Bs mg) (C : Cs K mg) (F : Fun K "_law_looked" "_law_looked" s_law_looked f fd) (D_look_at_draws : Def P w K mg base 5 "look_at_draws" ["kinds", "thing"] (S_look_at_draws K)) :
    FnOk P w K mg base (L2.CX P w) 6 f fd ["_law_kinds_here", "_law_thing"] (lift (S_law_looked K)) := by
  refine fn_ok F sc_law_looked (fun vs G M R Z h => sp_len2 h) (fun cdv A outer s H E hr => ?_)
  have nd : N_law_looked.Nodup := sc_law_looked.nd
  have hu : _ + 64 < cLine := hr.units
  have tk : Takes (cxOf (L2.CX P w) P w K mg base N_law_looked "_law_looked" (defScope s_law_looked) f cdv A outer s H E) (fun c d _ H => E c d H) := takes_of rfl rfl rfl rfl
  have po : PassesOwn (model P w) _ _ _ := passes_of (X := cxOf (L2.CX P w) P w K mg base N_law_looked "_law_looked" (defScope s_law_looked) f cdv A outer s H E) rfl
  exact ⟨rd_law_looked K, jss_cons (js_set (i := 2) (je_non) nd) (jss_cons (js_set (i := 3) (je_non) nd) (jss_cons (js_try (i := 4) (j := 2) C.g_TouchError C.t_TouchError nd tk (fun W pn xe tk po => by exact jss_cons (js_set (i := 3) (je_callD D_look_at_draws hr tk (ja_cons (je_var 0) (ja_cons (je_var 1) (ja_nil)))) nd) (jss_nil))) (jss_cons (js_if (jt_cmp (kop_is2) (je_var 2) (je_non) (nomark _)) (jss_cons (js_ret (je_slice (je_lst (ja_cons (je_str) (ja_nil))) (jo_none) (jo_some (je_op kop_sub (je_op kop_add (je_int) (je_callTy kc_int B.int (ja_cons (je_cmp (kop_is2) (je_var 3) (je_non) (nomark _)) (ja_nil)))) (je_int))))) (jss_nil)) (jss_nil)) (jss_cons (js_if ((jw_or (jt_not (jt_val (je_callB (kc_isXd (ClsV.own _) C.n_NoDraws C.j_NoDraws) B.isinstance (ja_cons (je_var 2) (ja_cons (je_cls C.g_NoDraws) (ja_nil)))))) (jw_or (jt_not (jt_val (je_callB (kc_isXd (ClsV.ty _) C.n_ValueError C.j_ValueError) B.isinstance (ja_cons (je_var 2) (ja_cons (je_ty B.ValueError) (ja_nil)))))) (jw_or1 (jt_val (je_callB kc_isi B.isinstance (ja_cons (je_xat C.x_at (je_var 2)) (ja_cons (je_ty B.bool) (ja_nil)))))))).jt) (jss_cons (js_ret (je_lst (ja_cons (je_str) (ja_nil)))) (jss_nil)) (jss_nil)) (jss_cons (js_ret (je_lst (ja_cons (je_xat C.x_at (je_var 2)) (ja_nil)))) (jss_nil)))))), fun vs G M R Z h => pf_law_looked h⟩
theorem df_law_looked {P : Program} {w : World} {K : PySem.W.Frag} {mg : Str → Option Value} {base : Heap} {f : Addr} {fd : FuncData} (B : Bs mg) (C : Cs K mg) (F : Fun K "_law_looked" "_law_looked" s_law_looked f fd) (b : Binds K fd ["_law_kinds_here", "_law_thing"] []) (gm : mg "_law_looked" = some (.ref f)) (D_look_at_draws : Def P w K mg base 5 "look_at_draws" ["kinds", "thing"] (S_look_at_draws K)) :
    Def P w K mg base 6 "_law_looked" ["_law_kinds_here", "_law_thing"] (S_law_looked K) := ⟨f, fd, fo_law_looked B C F D_look_at_draws, gm, F.kp, b⟩
abbrev s_law_right : Stmt := topS 23
abbrev N_law_right : List Str := ["_law_pool_here", "_law_kinds_here", "_law_draws_here", "_law_thing", "_law_kept", "_law_due_here", "_law_handed", "_law_k", "_law_found"]
theorem sc_law_right : FnScope N_law_right ["_law_pool_here"] (defScope s_law_right) := ⟨rfl, rfl, rfl, by decide +kernel, rfl, by decide +kernel, by decide +kernel⟩
theorem fo_law_right {P : Program} {w : World} {K : PySem.W.Frag} {mg : Str → Option Value} {base : Heap} {f : Addr} {fd : FuncData} (B : Bs mg) (C : Cs K mg) (F : Fun K "_law_right" "_law_right" s_law_right f fd) (D_law_kinds : Def P w K mg base 2 "_law_kinds" ["_law_pool_here", "_law_most", "_law_far"] (S_law_kinds K)) (D_law_draws : Def P w K mg base 3 "_law_draws" ["_law_pool_here", "_law_kinds_here"] (S_law_draws K)) (D_law_bent : Def P w K mg base 3 "_law_bent" ["_law_pool_here", "_law_draws_here"] (S_law_bent K)) (D_law_due : Def P w K mg base 3 "_law_due" ["_law_kinds_here", "_law_thing"] (S_law_due K)) (D_law_looked : Def P w K mg base 6 "_law_looked" ["_law_kinds_here", "_law_thing"] (S_law_looked K)) (D_law_odd : Def P w K mg base 2 "_law_odd" ["_law_pool_here", "_law_draw_here"] (S_law_odd K)) (D_is_draw : Def P w K mg base 4 "is_draw" ["kind", "thing"] (S_is_draw K)) (D_law_is_draw : Def P w K mg base 2 "_law_is_draw" ["_law_kind", "_law_thing"] (S_law_is_draw K)) :
    GFn P w K mg base 7 f fd ["_law_pool_here"] (lift (S_law_right K)) := by
  refine gfn_ok F sc_law_right (fun vs G M R Z h => sp_len1 h) (fun cdv A outer s H E hgd hr => ?_)
  have nd : N_law_right.Nodup := sc_law_right.nd
  have hu : _ + 64 < cLine := hr.units
  have tk : Takes (cxOf (L2.CX P w) P w K mg base N_law_right "_law_right" (defScope s_law_right) f cdv A outer s H E) (fun c d _ H => E c d H) := takes_of rfl rfl rfl rfl
  have po : PassesOwn (model P w) _ _ _ := passes_of (X := cxOf (L2.CX P w) P w K mg base N_law_right "_law_right" (defScope s_law_right) f cdv A outer s H E) rfl
  exact ⟨rd_law_right K, jss_cons (js_set (i := 1) (je_callD D_law_kinds hr tk (ja_cons (je_var 0) (ja_cons (je_int) (ja_cons (je_int) (ja_nil))))) nd) (jss_cons (js_set (i := 2) (je_callD D_law_draws hr tk (ja_cons (je_var 0) (ja_cons (je_var 1) (ja_nil)))) nd) (jss_cons (js_for po rfl (ji_w (ji_list (je_lst (ja_cons (je_var 2) (ja_cons (je_callD D_law_bent hr tk (ja_cons (je_var 0) (ja_cons (je_var 2) (ja_nil)))) (ja_nil)))))) (jg_name (i := 3) nd) (jss_cons (js_set (i := 4) (je_callB (kc_repr hgd hu) B.repr (ja_cons (je_var 3) (ja_nil))) nd) (jss_cons (js_set (i := 5) (je_callD D_law_due hr tk (ja_cons (je_var 1) (ja_cons (je_var 3) (ja_nil)))) nd) (jss_cons (js_set (i := 6) (je_callTy kc_list B.list (ja_cons (je_var 1) (ja_nil))) nd) (jss_cons (js_if ((jw_or (jt_cmp (kop_ne hu) (je_callD D_law_looked hr tk (ja_cons (je_var 6) (ja_cons (je_var 3) (ja_nil)))) (je_ix (je_lst (ja_cons (je_var 5) (ja_cons (je_lst (ja_cons (je_str) (ja_nil))) (ja_nil)))) (je_callTy kc_int B.int (ja_cons (je_cmp (kop_eq hu) (je_var 5) (je_lst (ja_nil)) (nomark _)) (ja_nil)))) (nomark _)) (jw_or (jt_cmp (kop_ne hu) (je_callB (kc_repr hgd hu) B.repr (ja_cons (je_var 3) (ja_nil))) (je_var 4) (nomark _)) (jw_or1 (jt_cmp (kop_ne hu) (je_var 6) (je_var 1) (nomark _))))).jt) (jss_cons (js_ret (je_bl)) (jss_nil)) (jss_nil)) (jss_nil)))))) (jss_cons (js_for po rfl (ji_range1 B.range (ja_cons (je_callB kc_len B.len (ja_cons (je_var 1) (ja_nil))) (ja_nil))) (jg_name (i := 7) nd) (jss_cons (js_for po rfl (ji_w (ji_list (je_lst (ja_cons (je_ix (je_var 2) (je_var 7)) (ja_cons (je_callD D_law_odd hr tk (ja_cons (je_var 0) (ja_cons (je_ix (je_var 2) (je_var 7)) (ja_nil)))) (ja_cons (je_op kop_shl (je_int) (je_op kop_mod (je_ix (je_ix (je_var 1) (je_var 7)) (je_int)) (je_int))) (ja_nil))))))) (jg_name (i := 3) nd) (jss_cons (js_set (i := 8) (je_callD D_is_draw hr tk (ja_cons (je_ix (je_var 1) (je_var 7)) (ja_cons (je_var 3) (ja_nil)))) nd) (jss_cons (js_if ((jw_or (jt_not (jt_val (je_callB kc_isi B.isinstance (ja_cons (je_var 8) (ja_cons (je_ty B.bool) (ja_nil)))))) (jw_or1 (jt_cmp (kop_ne hu) (je_var 8) (je_callD D_law_is_draw hr tk (ja_cons (je_ix (je_var 1) (je_var 7)) (ja_cons (je_var 3) (ja_nil)))) (nomark _)))).jt) (jss_cons (js_ret (je_bl)) (jss_nil)) (jss_nil)) (jss_nil)))) (jss_nil))) (jss_cons (js_ret (je_bl)) (jss_nil))))), fun vs G M R Z h => pf_law_right h⟩
theorem df_law_right {P : Program} {w : World} {K : PySem.W.Frag} {mg : Str → Option Value} {base : Heap} {f : Addr} {fd : FuncData} (B : Bs mg) (C : Cs K mg) (F : Fun K "_law_right" "_law_right" s_law_right f fd) (b : Binds K fd ["_law_pool_here"] []) (gm : mg "_law_right" = some (.ref f)) (D_law_kinds : Def P w K mg base 2 "_law_kinds" ["_law_pool_here", "_law_most", "_law_far"] (S_law_kinds K)) (D_law_draws : Def P w K mg base 3 "_law_draws" ["_law_pool_here", "_law_kinds_here"] (S_law_draws K)) (D_law_bent : Def P w K mg base 3 "_law_bent" ["_law_pool_here", "_law_draws_here"] (S_law_bent K)) (D_law_due : Def P w K mg base 3 "_law_due" ["_law_kinds_here", "_law_thing"] (S_law_due K)) (D_law_looked : Def P w K mg base 6 "_law_looked" ["_law_kinds_here", "_law_thing"] (S_law_looked K)) (D_law_odd : Def P w K mg base 2 "_law_odd" ["_law_pool_here", "_law_draw_here"] (S_law_odd K)) (D_is_draw : Def P w K mg base 4 "is_draw" ["kind", "thing"] (S_is_draw K)) (D_law_is_draw : Def P w K mg base 2 "_law_is_draw" ["_law_kind", "_law_thing"] (S_law_is_draw K)) :
    DefG P w K mg base 7 "_law_right" ["_law_pool_here"] (S_law_right K) := ⟨f, fd, fo_law_right B C F D_law_kinds D_law_draws D_law_bent D_law_due D_law_looked D_law_odd D_is_draw D_law_is_draw, gm, F.kp, b⟩
abbrev s_law : Stmt := topS 24
abbrev N_law : List Str := ["_law_script", "_law_things", "_law_k", "_law_found"]
theorem sc_law : FnScope N_law ["_law_script"] (defScope s_law) := ⟨rfl, rfl, rfl, by decide +kernel, rfl, by decide +kernel, by decide +kernel⟩
theorem fo_law {P : Program} {w : World} {K : PySem.W.Frag} {mg : Str → Option Value} {base : Heap} {f : Addr} {fd : FuncData} (B : Bs mg) (C : Cs K mg) (F : Fun K "law" "law" s_law f fd) (D_is_whole : Def P w K mg base 1 "is_whole" ["thing"] (S_is_whole K)) (D_law_pool : Def P w K mg base 1 "_law_pool" ["_law_script", "_law_k"] (S_law_pool K)) (D_law_right : DefG P w K mg base 7 "_law_right" ["_law_pool_here"] (S_law_right K)) :
    GFn P w K mg base 8 f fd ["_law_script"] (lift (S_law K)) := by
  refine gfn_ok F sc_law (fun vs G M R Z h => sp_len1 h) (fun cdv A outer s H E hgd hr => ?_)
  have nd : N_law.Nodup := sc_law.nd
  have hu : _ + 64 < cLine := hr.units
  have tk : Takes (cxOf (L2.CX P w) P w K mg base N_law "law" (defScope s_law) f cdv A outer s H E) (fun c d _ H => E c d H) := takes_of rfl rfl rfl rfl
  have po : PassesOwn (model P w) _ _ _ := passes_of (X := cxOf (L2.CX P w) P w K mg base N_law "law" (defScope s_law) f cdv A outer s H E) rfl
  exact ⟨rd_law K, jss_cons (js_set (i := 1) (je_lst (ja_cons (je_int) (ja_cons (je_int) (ja_cons (je_neg (je_int)) (ja_cons (je_op kop_pow (je_int) (je_int)) (ja_cons (je_int) (ja_cons (je_bl) (ja_cons (je_bl) (ja_cons (je_non) (ja_cons (je_str) (ja_cons (je_str) (ja_cons (je_lst (ja_cons (je_int) (ja_nil))) (ja_cons (je_tup (ja_cons (je_int) (ja_nil))) (ja_cons (je_lst (ja_nil)) (ja_cons (je_dnew) (ja_cons (je_tup (ja_nil)) (ja_cons (je_lst (ja_cons (je_int) (ja_nil))) (ja_nil)))))))))))))))))) nd) (jss_cons (js_for po rfl (ji_range1 B.range (ja_cons (je_callB kc_len B.len (ja_cons (je_var 1) (ja_nil))) (ja_nil))) (jg_name (i := 2) nd) (jss_cons (js_set (i := 3) (je_callD D_is_whole hr tk (ja_cons (je_ix (je_var 1) (je_var 2)) (ja_nil))) nd) (jss_cons (js_if ((jw_or (jt_not (jt_val (je_callB kc_isi B.isinstance (ja_cons (je_var 3) (ja_cons (je_ty B.bool) (ja_nil)))))) (jw_or1 (jt_cmp (kop_ne hu) (je_var 3) (je_cmp (kop_lt) (je_var 2) (je_int) (nomark _)) (nomark _)))).jt) (jss_cons (js_ret (je_bl)) (jss_nil)) (jss_nil)) (jss_nil)))) (jss_cons (js_for po rfl (ji_range1 B.range (ja_cons (je_callB kc_max2 B.max (ja_cons (je_int) (ja_cons (je_callB kc_min2 B.min (ja_cons (je_callB kc_len B.len (ja_cons (je_var 0) (ja_nil))) (ja_cons (je_int) (ja_nil)))) (ja_nil)))) (ja_nil))) (jg_name (i := 2) nd) (jss_cons (js_if (jt_not (jt_val (je_callG D_law_right hgd hr tk (ja_cons (je_callD D_law_pool hr tk (ja_cons (je_var 0) (ja_cons (je_var 2) (ja_nil)))) (ja_nil))))) (jss_cons (js_ret (je_bl)) (jss_nil)) (jss_nil)) (jss_nil))) (jss_cons (js_ret (je_bl)) (jss_nil)))), fun vs G M R Z h => pf_law h⟩
theorem df_law {P : Program} {w : World} {K : PySem.W.Frag} {mg : Str → Option Value} {base : Heap} {f : Addr} {fd : FuncData} (B : Bs mg) (C : Cs K mg) (F : Fun K "law" "law" s_law f fd) (b : Binds K fd ["_law_script"] []) (gm : mg "law" = some (.ref f)) (D_is_whole : Def P w K mg base 1 "is_whole" ["thing"] (S_is_whole K)) (D_law_pool : Def P w K mg base 1 "_law_pool" ["_law_script", "_law_k"] (S_law_pool K)) (D_law_right : DefG P w K mg base 7 "_law_right" ["_law_pool_here"] (S_law_right K)) :
    DefG P w K mg base 8 "law" ["_law_script"] (S_law K) := ⟨f, fd, fo_law B C F D_is_whole D_law_pool D_law_right, gm, F.kp, b⟩
theorem len_0 {α : Type} {P : List α → Prop} (h : P []) : ∀ us : List α, us.length = 0 → P us := fun us hl => match us, hl with
  | [], _ => h
theorem len_1 {α : Type} {P : List α → Prop} (h : ∀ a0, P [a0]) : ∀ us : List α, us.length = 1 → P us := fun us hl => match us, hl with
  | [a0], _ => h a0
theorem len_2 {α : Type} {P : List α → Prop} (h : ∀ a0 a1, P [a0, a1]) : ∀ us : List α, us.length = 2 → P us := fun us hl => match us, hl with
  | [a0, a1], _ => h a0 a1
theorem len_3 {α : Type} {P : List α → Prop} (h : ∀ a0 a1 a2, P [a0, a1, a2]) : ∀ us : List α, us.length = 3 → P us := fun us hl => match us, hl with
  | [a0, a1, a2], _ => h a0 a1 a2
theorem len_4 {α : Type} {P : List α → Prop} (h : ∀ a0 a1 a2 a3, P [a0, a1, a2, a3]) : ∀ us : List α, us.length = 4 → P us := fun us hl => match us, hl with
  | [a0, a1, a2, a3], _ => h a0 a1 a2 a3
theorem len_5 {α : Type} {P : List α → Prop} (h : ∀ a0 a1 a2 a3 a4, P [a0, a1, a2, a3, a4]) : ∀ us : List α, us.length = 5 → P us := fun us hl => match us, hl with
  | [a0, a1, a2, a3, a4], _ => h a0 a1 a2 a3 a4
theorem len_6 {α : Type} {P : List α → Prop} (h : ∀ a0 a1 a2 a3 a4 a5, P [a0, a1, a2, a3, a4, a5]) : ∀ us : List α, us.length = 6 → P us := fun us hl => match us, hl with
  | [a0, a1, a2, a3, a4, a5], _ => h a0 a1 a2 a3 a4 a5
theorem len_7 {α : Type} {P : List α → Prop} (h : ∀ a0 a1 a2 a3 a4 a5 a6, P [a0, a1, a2, a3, a4, a5, a6]) : ∀ us : List α, us.length = 7 → P us := fun us hl => match us, hl with
  | [a0, a1, a2, a3, a4, a5, a6], _ => h a0 a1 a2 a3 a4 a5 a6
theorem fa_nil {α : Type} {P : α → Prop} : ∀ x ∈ ([] : List α), P x := fun _ z => nomatch z
theorem all_mk {l : PySem.W.OpenLaw} {w : World} {K : PySem.W.Frag} {h : Heap} {mg : Str → Option Value} {fa f0 f1 f2 f3 f4 f5 f6 f7 f8 f9 f10 f11 f12 f13 f14 f15 f16 f17 f18 f19 : Addr} (X : K.In h) (G : h.Ns mainGlobals mg) (hfa : mg "law" = some (.ref fa))
    {od0 an0 od1 an1 od2 an2 od3 an3 od4 an4 od5 an5 od6 an6 od7 an7 od8 an8 od9 an9 od10 an10 od11 an11 od12 an12 od13 an13 od14 an14 od15 an15 od16 an16 od17 an17 od18 an18 od19 an19 : Option Addr} {sl0 sl1 sl2 sl3 sl4 sl5 sl6 sl7 sl8 sl9 sl10 sl11 sl12 sl13 sl14 sl15 sl16 sl17 sl18 sl19 : Array (Option Value)} {oc0 kV0 dc0 pm0 cd0 ct0 oc1 kV1 dc1 pm1 cd1 ct1 oc2 kV2 dc2 pm2 cd2 ct2 oc3 kV3 dc3 pm3 cd3 ct3 oc4 kV4 dc4 pm4 cd4 ct4 oc5 kV5 dc5 pm5 cd5 ct5 oc6 kV6 dc6 pm6 cd6 ct6 oc7 kV7 dc7 pm7 cd7 ct7 oc8 kV8 dc8 pm8 cd8 ct8 oc9 kV9 dc9 pm9 cd9 ct9 oc10 kV10 dc10 pm10 cd10 ct10 oc11 kV11 dc11 pm11 cd11 ct11 oc12 kV12 dc12 pm12 cd12 ct12 oc13 kV13 dc13 pm13 cd13 ct13 oc14 kV14 dc14 pm14 cd14 ct14 oc15 kV15 dc15 pm15 cd15 ct15 oc16 kV16 dc16 pm16 cd16 ct16 oc17 kV17 dc17 pm17 cd17 ct17 oc18 kV18 dc18 pm18 cd18 ct18 oc19 kV19 dc19 pm19 cd19 ct19 : Value}
    (a0 : PySem.W.nsIn K mainGlobals "is_whole" = some (some (.ref f0))) (l0 : K.lookup f0 = some ⟨oc0, od0, .func (PySem.W.fnOf "is_whole" "is_whole" (defArgs s_is_whole) (defBody s_is_whole) (defScope s_is_whole) .none kV0 dc0 pm0 an0 cd0 ct0), sl0⟩) (c0 : PySem.W.codeIn K cd0 "is_whole" = true) (k0 : PySem.W.keepIn K (.ref f0) = true)
    (a1 : PySem.W.nsIn K mainGlobals "_law_pool" = some (some (.ref f1))) (l1 : K.lookup f1 = some ⟨oc1, od1, .func (PySem.W.fnOf "_law_pool" "_law_pool" (defArgs s_law_pool) (defBody s_law_pool) (defScope s_law_pool) .none kV1 dc1 pm1 an1 cd1 ct1), sl1⟩) (c1 : PySem.W.codeIn K cd1 "_law_pool" = true) (k1 : PySem.W.keepIn K (.ref f1) = true)
    (a2 : PySem.W.nsIn K mainGlobals "_law_take" = some (some (.ref f2))) (l2 : K.lookup f2 = some ⟨oc2, od2, .func (PySem.W.fnOf "_law_take" "_law_take" (defArgs s_law_take) (defBody s_law_take) (defScope s_law_take) .none kV2 dc2 pm2 an2 cd2 ct2), sl2⟩) (c2 : PySem.W.codeIn K cd2 "_law_take" = true) (k2 : PySem.W.keepIn K (.ref f2) = true)
    (a3 : PySem.W.nsIn K mainGlobals "_law_kinds" = some (some (.ref f3))) (l3 : K.lookup f3 = some ⟨oc3, od3, .func (PySem.W.fnOf "_law_kinds" "_law_kinds" (defArgs s_law_kinds) (defBody s_law_kinds) (defScope s_law_kinds) .none kV3 dc3 pm3 an3 cd3 ct3), sl3⟩) (c3 : PySem.W.codeIn K cd3 "_law_kinds" = true) (k3 : PySem.W.keepIn K (.ref f3) = true)
    (a4 : PySem.W.nsIn K mainGlobals "_law_draw" = some (some (.ref f4))) (l4 : K.lookup f4 = some ⟨oc4, od4, .func (PySem.W.fnOf "_law_draw" "_law_draw" (defArgs s_law_draw) (defBody s_law_draw) (defScope s_law_draw) .none kV4 dc4 pm4 an4 cd4 ct4), sl4⟩) (c4 : PySem.W.codeIn K cd4 "_law_draw" = true) (k4 : PySem.W.keepIn K (.ref f4) = true)
    (a5 : PySem.W.nsIn K mainGlobals "_law_draws" = some (some (.ref f5))) (l5 : K.lookup f5 = some ⟨oc5, od5, .func (PySem.W.fnOf "_law_draws" "_law_draws" (defArgs s_law_draws) (defBody s_law_draws) (defScope s_law_draws) .none kV5 dc5 pm5 an5 cd5 ct5), sl5⟩) (c5 : PySem.W.codeIn K cd5 "_law_draws" = true) (k5 : PySem.W.keepIn K (.ref f5) = true)
    (a6 : PySem.W.nsIn K mainGlobals "_law_odd" = some (some (.ref f6))) (l6 : K.lookup f6 = some ⟨oc6, od6, .func (PySem.W.fnOf "_law_odd" "_law_odd" (defArgs s_law_odd) (defBody s_law_odd) (defScope s_law_odd) .none kV6 dc6 pm6 an6 cd6 ct6), sl6⟩) (c6 : PySem.W.codeIn K cd6 "_law_odd" = true) (k6 : PySem.W.keepIn K (.ref f6) = true)
    (a7 : PySem.W.nsIn K mainGlobals "_law_bent" = some (some (.ref f7))) (l7 : K.lookup f7 = some ⟨oc7, od7, .func (PySem.W.fnOf "_law_bent" "_law_bent" (defArgs s_law_bent) (defBody s_law_bent) (defScope s_law_bent) .none kV7 dc7 pm7 an7 cd7 ct7), sl7⟩) (c7 : PySem.W.codeIn K cd7 "_law_bent" = true) (k7 : PySem.W.keepIn K (.ref f7) = true)
    (a8 : PySem.W.nsIn K mainGlobals "_law_whole" = some (some (.ref f8))) (l8 : K.lookup f8 = some ⟨oc8, od8, .func (PySem.W.fnOf "_law_whole" "_law_whole" (defArgs s_law_whole) (defBody s_law_whole) (defScope s_law_whole) .none kV8 dc8 pm8 an8 cd8 ct8), sl8⟩) (c8 : PySem.W.codeIn K cd8 "_law_whole" = true) (k8 : PySem.W.keepIn K (.ref f8) = true)
    (a9 : PySem.W.nsIn K mainGlobals "_law_is_draw" = some (some (.ref f9))) (l9 : K.lookup f9 = some ⟨oc9, od9, .func (PySem.W.fnOf "_law_is_draw" "_law_is_draw" (defArgs s_law_is_draw) (defBody s_law_is_draw) (defScope s_law_is_draw) .none kV9 dc9 pm9 an9 cd9 ct9), sl9⟩) (c9 : PySem.W.codeIn K cd9 "_law_is_draw" = true) (k9 : PySem.W.keepIn K (.ref f9) = true)
    (a10 : PySem.W.nsIn K mainGlobals "_law_due" = some (some (.ref f10))) (l10 : K.lookup f10 = some ⟨oc10, od10, .func (PySem.W.fnOf "_law_due" "_law_due" (defArgs s_law_due) (defBody s_law_due) (defScope s_law_due) .none kV10 dc10 pm10 an10 cd10 ct10), sl10⟩) (c10 : PySem.W.codeIn K cd10 "_law_due" = true) (k10 : PySem.W.keepIn K (.ref f10) = true)
    (a11 : PySem.W.isFn K (.ref f11) = true) (l11 : K.lookup f11 = some ⟨oc11, od11, .func (PySem.W.fnOf "__init__" "NoDraws.__init__" (defArgs s_NoDraws_init) (defBody s_NoDraws_init) (defScope s_NoDraws_init) .none kV11 dc11 pm11 an11 cd11 ct11), sl11⟩) (c11 : PySem.W.codeIn K cd11 "NoDraws.__init__" = true) (k11 : PySem.W.keepIn K (.ref f11) = true)
    (a12 : PySem.W.nsIn K mainGlobals "leaves" = some (some (.ref f12))) (l12 : K.lookup f12 = some ⟨oc12, od12, .func (PySem.W.fnOf "leaves" "leaves" (defArgs s_leaves) (defBody s_leaves) (defScope s_leaves) .none kV12 dc12 pm12 an12 cd12 ct12), sl12⟩) (c12 : PySem.W.codeIn K cd12 "leaves" = true) (k12 : PySem.W.keepIn K (.ref f12) = true)
    (a13 : PySem.W.nsIn K mainGlobals "is_within" = some (some (.ref f13))) (l13 : K.lookup f13 = some ⟨oc13, od13, .func (PySem.W.fnOf "is_within" "is_within" (defArgs s_is_within) (defBody s_is_within) (defScope s_is_within) .none kV13 dc13 pm13 an13 cd13 ct13), sl13⟩) (c13 : PySem.W.codeIn K cd13 "is_within" = true) (k13 : PySem.W.keepIn K (.ref f13) = true)
    (a14 : PySem.W.nsIn K mainGlobals "is_row" = some (some (.ref f14))) (l14 : K.lookup f14 = some ⟨oc14, od14, .func (PySem.W.fnOf "is_row" "is_row" (defArgs s_is_row) (defBody s_is_row) (defScope s_is_row) .none kV14 dc14 pm14 an14 cd14 ct14), sl14⟩) (c14 : PySem.W.codeIn K cd14 "is_row" = true) (k14 : PySem.W.keepIn K (.ref f14) = true)
    (a15 : PySem.W.nsIn K mainGlobals "is_draw" = some (some (.ref f15))) (l15 : K.lookup f15 = some ⟨oc15, od15, .func (PySem.W.fnOf "is_draw" "is_draw" (defArgs s_is_draw) (defBody s_is_draw) (defScope s_is_draw) .none kV15 dc15 pm15 an15 cd15 ct15), sl15⟩) (c15 : PySem.W.codeIn K cd15 "is_draw" = true) (k15 : PySem.W.keepIn K (.ref f15) = true)
    (a16 : PySem.W.nsIn K mainGlobals "look_at_draws" = some (some (.ref f16))) (l16 : K.lookup f16 = some ⟨oc16, od16, .func (PySem.W.fnOf "look_at_draws" "look_at_draws" (defArgs s_look_at_draws) (defBody s_look_at_draws) (defScope s_look_at_draws) .none kV16 dc16 pm16 an16 cd16 ct16), sl16⟩) (c16 : PySem.W.codeIn K cd16 "look_at_draws" = true) (k16 : PySem.W.keepIn K (.ref f16) = true)
    (a17 : PySem.W.nsIn K mainGlobals "_law_looked" = some (some (.ref f17))) (l17 : K.lookup f17 = some ⟨oc17, od17, .func (PySem.W.fnOf "_law_looked" "_law_looked" (defArgs s_law_looked) (defBody s_law_looked) (defScope s_law_looked) .none kV17 dc17 pm17 an17 cd17 ct17), sl17⟩) (c17 : PySem.W.codeIn K cd17 "_law_looked" = true) (k17 : PySem.W.keepIn K (.ref f17) = true)
    (a18 : PySem.W.nsIn K mainGlobals "_law_right" = some (some (.ref f18))) (l18 : K.lookup f18 = some ⟨oc18, od18, .func (PySem.W.fnOf "_law_right" "_law_right" (defArgs s_law_right) (defBody s_law_right) (defScope s_law_right) .none kV18 dc18 pm18 an18 cd18 ct18), sl18⟩) (c18 : PySem.W.codeIn K cd18 "_law_right" = true) (k18 : PySem.W.keepIn K (.ref f18) = true)
    (a19 : PySem.W.nsIn K mainGlobals "law" = some (some (.ref f19))) (l19 : K.lookup f19 = some ⟨oc19, od19, .func (PySem.W.fnOf "law" "law" (defArgs s_law) (defBody s_law) (defScope s_law) .none kV19 dc19 pm19 an19 cd19 ct19), sl19⟩) (c19 : PySem.W.codeIn K cd19 "law" = true) (k19 : PySem.W.keepIn K (.ref f19) = true)
    (z_ValueError : PySem.W.nsIn K mainGlobals "ValueError" = some none)
    (z_all : PySem.W.nsIn K mainGlobals "all" = some none)
    (z_bool : PySem.W.nsIn K mainGlobals "bool" = some none)
    (z_enumerate : PySem.W.nsIn K mainGlobals "enumerate" = some none)
    (z_int : PySem.W.nsIn K mainGlobals "int" = some none)
    (z_isinstance : PySem.W.nsIn K mainGlobals "isinstance" = some none)
    (z_len : PySem.W.nsIn K mainGlobals "len" = some none)
    (z_list : PySem.W.nsIn K mainGlobals "list" = some none)
    (z_max : PySem.W.nsIn K mainGlobals "max" = some none)
    (z_min : PySem.W.nsIn K mainGlobals "min" = some none)
    (z_range : PySem.W.nsIn K mainGlobals "range" = some none)
    (z_repr : PySem.W.nsIn K mainGlobals "repr" = some none)
    (z_tuple : PySem.W.nsIn K mainGlobals "tuple" = some none)
    {X_TouchError X_NoDraws : Addr}
    {yn_NoDraws yq_NoDraws : Str} {yN_NoDraws : Addr} {yb_NoDraws ym_NoDraws : List Value} {ys_NoDraws : List Str} {yu_NoDraws : List Value} {ya_NoDraws : Bool} {yc_NoDraws : Option Bool} {yd_NoDraws : Option Addr} {y0_NoDraws y1_NoDraws y2_NoDraws y3_NoDraws y5_NoDraws : Option Value}
    (xa_TouchError : PySem.W.nsIn K mainGlobals "TouchError" = some (some (.ref X_TouchError)))
    (xk_TouchError : PySem.W.keepIn K (.ref X_TouchError) = true)
    (xb_TouchError : PySem.W.subIn K (.ref X_TouchError) (.type "BaseException") = some true)
    (xt_TouchError : PySem.W.typeIn K (.ref X_TouchError) = some (.type "type"))
    (x4_TouchError : PySem.W.hasDictIn K X_TouchError = true)
    (xa_NoDraws : PySem.W.nsIn K mainGlobals "NoDraws" = some (some (.ref X_NoDraws)))
    (xk_NoDraws : PySem.W.keepIn K (.ref X_NoDraws) = true)
    (xb_NoDraws : PySem.W.subIn K (.ref X_NoDraws) (.type "BaseException") = some true)
    (xt_NoDraws : PySem.W.typeIn K (.ref X_NoDraws) = some (.type "type"))
    (x4_NoDraws : PySem.W.hasDictIn K X_NoDraws = true)
    (xs_NoDraws : PySem.W.subIn K (.ref X_NoDraws) (.ref X_NoDraws) = some true)
    (x1_NoDraws : PySem.W.findIn K (.ref X_NoDraws) "__getattribute__" = some (some (.builtin "BaseException.__getattribute__")))
    (x2_NoDraws : PySem.W.findIn K (.ref X_NoDraws) "__getattr__" = some none)
    (x5_NoDraws : PySem.W.findIn K (.ref X_NoDraws) "__class__" = some (some (.builtin "object.__class__")))
    (x8_NoDraws : PySem.W.mroIn K X_NoDraws (.type "object") = some true)
    (xl_NoDraws : K.lookup X_NoDraws = some (excClassObj yn_NoDraws yq_NoDraws X_NoDraws yN_NoDraws yb_NoDraws ym_NoDraws true ys_NoDraws yu_NoDraws ya_NoDraws yc_NoDraws yd_NoDraws y0_NoDraws y1_NoDraws y2_NoDraws y3_NoDraws y5_NoDraws "ValueError.__new__"))
    (xz_NoDraws : PySem.HandSPX.refsVE ym_NoDraws = true)
    (xsa_NoDraws : PySem.W.findIn K (.ref X_NoDraws) "__setattr__" = some (some (.builtin "object.__setattr__")))
    (xno_NoDraws : PySem.W.findIn K (.ref X_NoDraws) "at" = some none)
    (xi_NoDraws : PySem.W.findIn K (.ref X_NoDraws) "__init__" = some (some (.ref f11)))
    (xty_NoDraws : PySem.W.typeIn K (.ref f11) = some (.type "function"))
    (xrd_TouchError : PySem.W.readsIn K X_TouchError (.type "type") = true)
    (xga_TouchError : PySem.W.specialIn K (.ref X_TouchError) "__getattribute__" = some (some (.builtin "type.__getattribute__")))
    (xfi_TouchError : PySem.W.findCls K (.ref X_TouchError) (.type "type") "__init__" = some (.val (.builtin "ValueError.__init__")))
    (x6 : PySem.W.specialIn K (.builtin "object.__class__") "__get__" = some (some (.builtin "getset_descriptor.__get__")))
    (x7 : PySem.W.takesIn K (.builtin "object.__class__") = some true)
    (ni_NoDraws : PySem.W.subIn K (.type "NoneType") (.ref X_NoDraws) = some false)
    (su_NoDraws_NoDraws : PySem.W.subIn K (.ref X_NoDraws) (.ref X_NoDraws) = some true)
    (su_NoDraws_TouchError : PySem.W.subIn K (.ref X_NoDraws) (.ref X_TouchError) = some true)
    (ni_ValueError : PySem.W.subIn K (.type "NoneType") (.type "ValueError") = some false)
    (su_NoDraws_ValueError : PySem.W.subIn K (.ref X_NoDraws) (.type "ValueError") = some true)
    : ∃ fd : FuncData, (∀ (s : Shared) (v : Value), BindsTo s fd ⟨[v], []⟩ [("_law_script", v)]) ∧ ∀ base : Heap, K.In base → base.Ns mainGlobals mg → GFn l.prog w K mg base 8 fa fd ["_law_script"] (lift (S_law K)) := by
  have e := hfa.symm.trans (PySem.W.mg_of X G a19)
  cases e
  have B : Bs mg := ⟨PySem.W.mg_none_of X G z_ValueError, PySem.W.mg_none_of X G z_all, PySem.W.mg_none_of X G z_bool, PySem.W.mg_none_of X G z_enumerate, PySem.W.mg_none_of X G z_int, PySem.W.mg_none_of X G z_isinstance, PySem.W.mg_none_of X G z_len, PySem.W.mg_none_of X G z_list, PySem.W.mg_none_of X G z_max, PySem.W.mg_none_of X G z_min, PySem.W.mg_none_of X G z_range, PySem.W.mg_none_of X G z_repr, PySem.W.mg_none_of X G z_tuple⟩
  have XI_NoDraws : XI K "NoDraws" := xi_mk xa_NoDraws xl_NoDraws xz_NoDraws xsa_NoDraws xb_NoDraws xt_NoDraws xk_NoDraws xno_NoDraws x1_NoDraws x2_NoDraws x4_NoDraws
  have C : Cs K mg := ⟨xg_mk X G xa_TouchError xk_TouchError, xg_mk X G xa_NoDraws xk_NoDraws, XI_NoDraws, xb_mk xa_TouchError (PySem.W.mg_of X G xa_TouchError) xrd_TouchError xga_TouchError xfi_TouchError, List.forall_mem_cons.mpr ⟨XI_NoDraws, fa_nil⟩, List.forall_mem_cons.mpr ⟨by rw [cl_of xa_NoDraws, cl_of xa_TouchError]; exact PySem.W.exm_ref xb_TouchError x4_TouchError xt_TouchError su_NoDraws_TouchError, fa_nil⟩, (by rw [cl_of xa_NoDraws]; exact kit_ref x4_NoDraws xt_NoDraws xs_NoDraws ni_NoDraws), List.forall_mem_cons.mpr ⟨⟨xe_mk xa_NoDraws ⟨x1_NoDraws, x2_NoDraws, xb_NoDraws, x4_NoDraws, x5_NoDraws, x6, x7, x8_NoDraws⟩, by rw [cl_of xa_NoDraws]; exact kit_ref x4_NoDraws xt_NoDraws xs_NoDraws su_NoDraws_NoDraws⟩, fa_nil⟩, (by exact kit_tyV (by decide +kernel) (by rfl) ni_ValueError), List.forall_mem_cons.mpr ⟨⟨xe_mk xa_NoDraws ⟨x1_NoDraws, x2_NoDraws, xb_NoDraws, x4_NoDraws, x5_NoDraws, x6, x7, x8_NoDraws⟩, by rw [cl_of xa_NoDraws]; exact kit_tyV (by decide +kernel) (by rfl) su_NoDraws_ValueError⟩, fa_nil⟩⟩
  have F0 := fun_mk (st := s_is_whole) l0 c0 k0
  have b0 := F0.binds (ps := ["thing"]) fun _ _ _ _ _ _ us hl => len_1 (P := fun us => bindArgs _ { pos := us } = pure (List.zip _ us)) (fun _ => rfl) us hl
  have F1 := fun_mk (st := s_law_pool) l1 c1 k1
  have b1 := F1.binds (ps := ["_law_script", "_law_k"]) fun _ _ _ _ _ _ us hl => len_2 (P := fun us => bindArgs _ { pos := us } = pure (List.zip _ us)) (fun _ _ => rfl) us hl
  have F2 := fun_mk (st := s_law_take) l2 c2 k2
  have b2 := F2.binds (ps := ["_law_pool_here", "_law_many"]) fun _ _ _ _ _ _ us hl => len_2 (P := fun us => bindArgs _ { pos := us } = pure (List.zip _ us)) (fun _ _ => rfl) us hl
  have F3 := fun_mk (st := s_law_kinds) l3 c3 k3
  have b3 := F3.binds (ps := ["_law_pool_here", "_law_most", "_law_far"]) fun _ _ _ _ _ _ us hl => len_3 (P := fun us => bindArgs _ { pos := us } = pure (List.zip _ us)) (fun _ _ _ => rfl) us hl
  have F4 := fun_mk (st := s_law_draw) l4 c4 k4
  have b4 := F4.binds (ps := ["_law_pool_here", "_law_kind"]) fun _ _ _ _ _ _ us hl => len_2 (P := fun us => bindArgs _ { pos := us } = pure (List.zip _ us)) (fun _ _ => rfl) us hl
  have F5 := fun_mk (st := s_law_draws) l5 c5 k5
  have b5 := F5.binds (ps := ["_law_pool_here", "_law_kinds_here"]) fun _ _ _ _ _ _ us hl => len_2 (P := fun us => bindArgs _ { pos := us } = pure (List.zip _ us)) (fun _ _ => rfl) us hl
  have F6 := fun_mk (st := s_law_odd) l6 c6 k6
  have b6 := F6.binds (ps := ["_law_pool_here", "_law_draw_here"]) fun _ _ _ _ _ _ us hl => len_2 (P := fun us => bindArgs _ { pos := us } = pure (List.zip _ us)) (fun _ _ => rfl) us hl
  have F7 := fun_mk (st := s_law_bent) l7 c7 k7
  have b7 := F7.binds (ps := ["_law_pool_here", "_law_draws_here"]) fun _ _ _ _ _ _ us hl => len_2 (P := fun us => bindArgs _ { pos := us } = pure (List.zip _ us)) (fun _ _ => rfl) us hl
  have F8 := fun_mk (st := s_law_whole) l8 c8 k8
  have b8 := F8.binds (ps := ["_law_found"]) fun _ _ _ _ _ _ us hl => len_1 (P := fun us => bindArgs _ { pos := us } = pure (List.zip _ us)) (fun _ => rfl) us hl
  have F9 := fun_mk (st := s_law_is_draw) l9 c9 k9
  have b9 := F9.binds (ps := ["_law_kind", "_law_thing"]) fun _ _ _ _ _ _ us hl => len_2 (P := fun us => bindArgs _ { pos := us } = pure (List.zip _ us)) (fun _ _ => rfl) us hl
  have F10 := fun_mk (st := s_law_due) l10 c10 k10
  have b10 := F10.binds (ps := ["_law_kinds_here", "_law_thing"]) fun _ _ _ _ _ _ us hl => len_2 (P := fun us => bindArgs _ { pos := us } = pure (List.zip _ us)) (fun _ _ => rfl) us hl
  have F11 := fun_mk (st := s_NoDraws_init) l11 c11 k11
  have b11 := F11.binds (ps := ["self", "at"]) fun _ _ _ _ _ _ us hl => len_2 (P := fun us => bindArgs _ { pos := us } = pure (List.zip _ us)) (fun _ _ => rfl) us hl
  have F12 := fun_mk (st := s_leaves) l12 c12 k12
  have b12 := F12.binds (ps := ["high"]) fun _ _ _ _ _ _ us hl => len_1 (P := fun us => bindArgs _ { pos := us } = pure (List.zip _ us)) (fun _ => rfl) us hl
  have F13 := fun_mk (st := s_is_within) l13 c13 k13
  have b13 := F13.binds (ps := ["thing", "least", "most"]) fun _ _ _ _ _ _ us hl => len_3 (P := fun us => bindArgs _ { pos := us } = pure (List.zip _ us)) (fun _ _ _ => rfl) us hl
  have F14 := fun_mk (st := s_is_row) l14 c14 k14
  have b14 := F14.binds (ps := ["size", "thing"]) fun _ _ _ _ _ _ us hl => len_2 (P := fun us => bindArgs _ { pos := us } = pure (List.zip _ us)) (fun _ _ => rfl) us hl
  have F15 := fun_mk (st := s_is_draw) l15 c15 k15
  have b15 := F15.binds (ps := ["kind", "thing"]) fun _ _ _ _ _ _ us hl => len_2 (P := fun us => bindArgs _ { pos := us } = pure (List.zip _ us)) (fun _ _ => rfl) us hl
  have F16 := fun_mk (st := s_look_at_draws) l16 c16 k16
  have b16 := F16.binds (ps := ["kinds", "thing"]) fun _ _ _ _ _ _ us hl => len_2 (P := fun us => bindArgs _ { pos := us } = pure (List.zip _ us)) (fun _ _ => rfl) us hl
  have F17 := fun_mk (st := s_law_looked) l17 c17 k17
  have b17 := F17.binds (ps := ["_law_kinds_here", "_law_thing"]) fun _ _ _ _ _ _ us hl => len_2 (P := fun us => bindArgs _ { pos := us } = pure (List.zip _ us)) (fun _ _ => rfl) us hl
  have F18 := fun_mk (st := s_law_right) l18 c18 k18
  have b18 := F18.binds (ps := ["_law_pool_here"]) fun _ _ _ _ _ _ us hl => len_1 (P := fun us => bindArgs _ { pos := us } = pure (List.zip _ us)) (fun _ => rfl) us hl
  have F19 := fun_mk (st := s_law) l19 c19 k19
  have b19 := F19.binds (ps := ["_law_script"]) fun _ _ _ _ _ _ us hl => len_1 (P := fun us => bindArgs _ { pos := us } = pure (List.zip _ us)) (fun _ => rfl) us hl
  refine ⟨PySem.W.fnOf "law" "law" (defArgs s_law) (defBody s_law) (defScope s_law) .none kV19 dc19 pm19 an19 cd19 ct19, fun s v => .of_eq rfl, fun base _ _ => ?_⟩
  have D_is_whole := df_is_whole (P := l.prog) (w := w) (base := base) B C F0 b0 (PySem.W.mg_of X G a0) 
  have D_law_pool := df_law_pool (P := l.prog) (w := w) (base := base) B C F1 b1 (PySem.W.mg_of X G a1) 
  have D_law_take := df_law_take (P := l.prog) (w := w) (base := base) B C F2 b2 (PySem.W.mg_of X G a2) 
  have D_law_kinds := df_law_kinds (P := l.prog) (w := w) (base := base) B C F3 b3 (PySem.W.mg_of X G a3) D_law_take
  have D_law_draw := df_law_draw (P := l.prog) (w := w) (base := base) B C F4 b4 (PySem.W.mg_of X G a4) D_law_take
  have D_law_draws := df_law_draws (P := l.prog) (w := w) (base := base) B C F5 b5 (PySem.W.mg_of X G a5) D_law_draw
  have D_law_odd := df_law_odd (P := l.prog) (w := w) (base := base) B C F6 b6 (PySem.W.mg_of X G a6) D_law_take
  have D_law_bent := df_law_bent (P := l.prog) (w := w) (base := base) B C F7 b7 (PySem.W.mg_of X G a7) D_law_take D_law_odd
  have D_law_whole := df_law_whole (P := l.prog) (w := w) (base := base) B C F8 b8 (PySem.W.mg_of X G a8) 
  have D_law_is_draw := df_law_is_draw (P := l.prog) (w := w) (base := base) B C F9 b9 (PySem.W.mg_of X G a9) D_law_whole
  have D_law_due := df_law_due (P := l.prog) (w := w) (base := base) B C F10 b10 (PySem.W.mg_of X G a10) D_law_is_draw
  have G11 := fo_NoDraws_init (P := l.prog) (w := w) (base := base) B C F11 
  have D_leaves := df_leaves (P := l.prog) (w := w) (base := base) B C F12 b12 (PySem.W.mg_of X G a12) 
  have D_is_within := df_is_within (P := l.prog) (w := w) (base := base) B C F13 b13 (PySem.W.mg_of X G a13) D_is_whole
  have D_is_row := df_is_row (P := l.prog) (w := w) (base := base) B C F14 b14 (PySem.W.mg_of X G a14) D_is_within
  have D_is_draw := df_is_draw (P := l.prog) (w := w) (base := base) B C F15 b15 (PySem.W.mg_of X G a15) D_leaves D_is_within D_is_row
  have I_NoDraws : IDef l.prog w K mg base 1 "NoDraws" := id_mk xa_NoDraws G11 xi_NoDraws xty_NoDraws b11
  have D_look_at_draws := df_look_at_draws (P := l.prog) (w := w) (base := base) B C F16 b16 (PySem.W.mg_of X G a16) D_is_draw I_NoDraws
  have D_law_looked := df_law_looked (P := l.prog) (w := w) (base := base) B C F17 b17 (PySem.W.mg_of X G a17) D_look_at_draws
  have D_law_right := df_law_right (P := l.prog) (w := w) (base := base) B C F18 b18 (PySem.W.mg_of X G a18) D_law_kinds D_law_draws D_law_bent D_law_due D_law_looked D_law_odd D_is_draw D_law_is_draw
  exact fo_law (P := l.prog) (w := w) (base := base) B C F19 D_is_whole D_law_pool D_law_right
end BT
def PySem.W.Fast.tw3556182613758495522 := 0
def PySem.W.Fast.tw2043841420910474794 := 0
def PySem.W.Fast.tw18046368384603414571 := 0
def PySem.W.Fast.tw9622438271172640300 := 0
def PySem.W.Fast.tw6845418466401699060 := 0
def PySem.W.Fast.tw6268688135710222326 := 0
def PySem.W.Fast.tw10033423462019532983 := 0
def PySem.W.Fast.tw3231465626651751260 := 0
open PySem PySem.W PyProof.Rows
set_option maxHeartbeats 0 in
theorem PySem.Challenge.cw_blindtouch_k01_draws_of_kinds_holds : PySem.Challenge.rw_blindtouch_k01_draws_of_kinds.Holds := by
  w_on; o_law; k_head; (case hw => w_witness2)
  k_fill
  refine BT.walk_ofG (l := PySem.Challenge.rw_blindtouch_k01_draws_of_kinds) (n := 63) (k := 8) (x := "_law_script") (sp := fun w => BT.lift (BT.S_law _)) rfl (by decide) rfl ⟨rfl, by decide, by decide⟩ (fun w h Y => PySem.W.kIn_of Y) ?F (fun _ H a ns hl _ hS => BT.law_start hl hS)
  case F =>
    intro w mg fa h KX G hmg
    refine' BT.all_mk KX G hmg ?a0 ?l0 ?c0 ?k0 ?a1 ?l1 ?c1 ?k1 ?a2 ?l2 ?c2 ?k2 ?a3 ?l3 ?c3 ?k3 ?a4 ?l4 ?c4 ?k4 ?a5 ?l5 ?c5 ?k5 ?a6 ?l6 ?c6 ?k6 ?a7 ?l7 ?c7 ?k7 ?a8 ?l8 ?c8 ?k8 ?a9 ?l9 ?c9 ?k9 ?a10 ?l10 ?c10 ?k10 ?a11 ?l11 ?c11 ?k11 ?a12 ?l12 ?c12 ?k12 ?a13 ?l13 ?c13 ?k13 ?a14 ?l14 ?c14 ?k14 ?a15 ?l15 ?c15 ?k15 ?a16 ?l16 ?c16 ?k16 ?a17 ?l17 ?c17 ?k17 ?a18 ?l18 ?c18 ?k18 ?a19 ?l19 ?c19 ?k19 ?z_ValueError ?z_all ?z_bool ?z_enumerate ?z_int ?z_isinstance ?z_len ?z_list ?z_max ?z_min ?z_range ?z_repr ?z_tuple ?xa_TouchError ?xk_TouchError ?xb_TouchError ?xt_TouchError ?x4_TouchError ?xa_NoDraws ?xk_NoDraws ?xb_NoDraws ?xt_NoDraws ?x4_NoDraws ?xs_NoDraws ?x1_NoDraws ?x2_NoDraws ?x5_NoDraws ?x8_NoDraws ?xl_NoDraws ?xz_NoDraws ?xsa_NoDraws ?xno_NoDraws ?xi_NoDraws ?xty_NoDraws ?xrd_TouchError ?xga_TouchError ?xfi_TouchError ?x6 ?x7 ?ni_NoDraws ?su_NoDraws_NoDraws ?su_NoDraws_TouchError ?ni_ValueError ?su_NoDraws_ValueError
    (case xa_NoDraws => k_is); (case xi_NoDraws => k_is); (case a0 => k_is); (case l0 => k_is); (case c0 => k_is); (case k0 => k_is); (case a1 => k_is); (case l1 => k_is); (case c1 => k_is); (case k1 => k_is); (case a2 => k_is); (case l2 => k_is); (case c2 => k_is); (case k2 => k_is); (case a3 => k_is); (case l3 => k_is); (case c3 => k_is); (case k3 => k_is); (case a4 => k_is); (case l4 => k_is); (case c4 => k_is); (case k4 => k_is); (case a5 => k_is); (case l5 => k_is); (case c5 => k_is); (case k5 => k_is); (case a6 => k_is); (case l6 => k_is); (case c6 => k_is); (case k6 => k_is); (case a7 => k_is); (case l7 => k_is); (case c7 => k_is); (case k7 => k_is); (case a8 => k_is); (case l8 => k_is); (case c8 => k_is); (case k8 => k_is); (case a9 => k_is); (case l9 => k_is); (case c9 => k_is); (case k9 => k_is); (case a10 => k_is); (case l10 => k_is); (case c10 => k_is); (case k10 => k_is); (case a11 => k_is); (case l11 => k_is); (case c11 => k_is); (case k11 => k_is); (case a12 => k_is); (case l12 => k_is); (case c12 => k_is); (case k12 => k_is); (case a13 => k_is); (case l13 => k_is); (case c13 => k_is); (case k13 => k_is); (case a14 => k_is); (case l14 => k_is); (case c14 => k_is); (case k14 => k_is); (case a15 => k_is); (case l15 => k_is); (case c15 => k_is); (case k15 => k_is); (case a16 => k_is); (case l16 => k_is); (case c16 => k_is); (case k16 => k_is); (case a17 => k_is); (case l17 => k_is); (case c17 => k_is); (case k17 => k_is); (case a18 => k_is); (case l18 => k_is); (case c18 => k_is); (case k18 => k_is); (case a19 => k_is); (case l19 => k_is); (case c19 => k_is); (case k19 => k_is); (case z_ValueError => k_is); (case z_all => k_is); (case z_bool => k_is); (case z_enumerate => k_is); (case z_int => k_is); (case z_isinstance => k_is); (case z_len => k_is); (case z_list => k_is); (case z_max => k_is); (case z_min => k_is); (case z_range => k_is); (case z_repr => k_is); (case z_tuple => k_is); (case xa_TouchError => k_is); (case xk_TouchError => k_is); (case xb_TouchError => k_is); (case xt_TouchError => k_is); (case x4_TouchError => k_is); (case xk_NoDraws => k_is); (case xb_NoDraws => k_is); (case xt_NoDraws => k_is); (case x4_NoDraws => k_is); (case xs_NoDraws => k_is); (case x1_NoDraws => k_is); (case x2_NoDraws => k_is); (case x5_NoDraws => k_is); (case x8_NoDraws => k_is); (case xl_NoDraws => k_is); (case xsa_NoDraws => k_is); (case xno_NoDraws => k_is); (case xty_NoDraws => k_is); (case xrd_TouchError => k_is); (case xga_TouchError => k_is); (case xfi_TouchError => k_is); (case x6 => k_is); (case x7 => k_is); (case ni_NoDraws => k_is); (case su_NoDraws_NoDraws => k_is); (case su_NoDraws_TouchError => k_is); (case ni_ValueError => k_is); (case su_NoDraws_ValueError => k_is)
    (case xz_NoDraws => rfl)
