import PyProof.Rows.All
import Wide.All
import OpenK.AllK
import Wide.FinOn
import HandS.ForMost
import HandS.Exc
import HandS.TryOnly
import HandS.ExcOwn
import HandS.WordsExc
import HandS.Wide
import HandS.WideBits
import HandS.IsInst
import HandS.SortInts
import HandS.Style
import HandS.ExcIs
import HandS.ExcValue
import HandS.Conv
import HandS.Dict
import KE.DataMinMax
import HandS.RevRange
import HandS.More
import PyProof.SetRoads
import HandS.SetKeys
import HandS.TupAny
import HandS.NoneIn
import PyProof.EqKinds
import PyProof.FactsAll.dict
import HandS.ListItems
import PyProof.ReprRoads
import PyProof.ReprLen
import PyProof.Rows.StrJoinMade
import HandS.Set
import HandS.SetFor
import HandS.Text
import HandS.FStr
import HandS.Flow
import HandS.Deep
import HandS.ExcInit
import HandS.ExcField
import KE.KExcIs
import HandS.Small
import PySem.Challenge.RW_blindtouch_k06_refusals_apart
set_option Elab.async false
set_option linter.all false
set_option maxRecDepth 100000
set_option maxHeartbeats 4000000
/-! KL: readings over what is known of the heap: a frozen part G, and cells M that may be written. -/
namespace BT
open PySem PySem.Spec L2
open PyProof.Rows hiding St

abbrev Mem := List (Addr × HO)
structure Hv (G : Hp) (M : Mem) (H : Hp) : Prop where
  ex : ∀ a o, G a = some o → H a = some o
  mu : ∀ x, x ∈ M → H x.1 = some x.2
  nd : (M.map (·.1)).Nodup
  dj : ∀ x, x ∈ M → G x.1 = none
def Fr (G : Hp) (M : Mem) (p : Addr) : Prop := G p = none ∧ ∀ x, x ∈ M → x.1 ≠ p
def At (G : Hp) (M : Mem) (a : Addr) (o : HO) : Prop := (a, o) ∈ M ∨ G a = some o
section
variable {G : Hp} {M : Mem} {H : Hp} {p a : Addr} {o o' : HO} {n : Nat}
theorem Hv.self (H : Hp) : Hv H [] H := ⟨fun _ _ h => h, fun _ h => (nomatch h), List.nodup_nil, fun _ h => (nomatch h)⟩
theorem Hv.fr (h : Hv G M H) (hp : H p = none) : Fr G M p := by
  refine ⟨?_, fun x hx e => ?_⟩
  · cases e : G p with
    | none => rfl
    | some o => rw [h.ex p o e] at hp; cases hp
  · have := h.mu x hx
    rw [e, hp] at this; cases this
theorem Hv.at (h : Hv G M H) (q : At G M a o) : H a = some o := by
  rcases q with q | q
  · exact h.mu _ q
  · exact h.ex _ _ q
theorem Hv.newM (h : Hv G M H) (hp : H p = none) : Hv G ((p, o) :: M) (upd H p o) := by
  have f := h.fr hp
  refine ⟨fun b u e => ?_, fun x hx => ?_, ?_, fun x hx => ?_⟩
  · rw [upd_ne (ne_of_none (h.ex b u e) hp)]; exact h.ex b u e
  · rcases List.mem_cons.mp hx with rfl | hx
    · exact upd_same
    · rw [upd_ne (f.2 x hx)]; exact h.mu x hx
  · rw [List.map_cons, List.nodup_cons]
    refine ⟨fun hm => ?_, h.nd⟩
    obtain ⟨x, hx, e⟩ := List.mem_map.mp hm
    exact f.2 x hx e
  · rcases List.mem_cons.mp hx with rfl | hx
    · exact f.1
    · exact h.dj x hx
theorem Hv.newG (h : Hv G M H) (hp : H p = none) : Hv (upd G p o) M (upd H p o) := by
  have f := h.fr hp
  refine ⟨fun b u e => ?_, fun x hx => ?_, h.nd, fun x hx => ?_⟩
  · by_cases hb : b = p
    · subst hb; rw [upd_same] at e ⊢; exact e
    · rw [upd_ne hb] at e ⊢; exact h.ex b u e
  · rw [upd_ne (f.2 x hx)]; exact h.mu x hx
  · rw [upd_ne (f.2 x hx)]; exact h.dj x hx
/-- an object that nobody knows of is laid: nothing known changes -/
theorem Hv.junk (h : Hv G M H) (hp : H p = none) : Hv G M (upd H p o) := by
  have f := h.fr hp
  refine ⟨fun b u e => ?_, fun x hx => ?_, h.nd, h.dj⟩
  · rw [upd_ne (ne_of_none (h.ex b u e) hp)]; exact h.ex b u e
  · rw [upd_ne (f.2 x hx)]; exact h.mu x hx
theorem Hv.get (h : Hv G M H) (hn : M[n]? = some (p, o)) : H p = some o := h.mu _ (List.mem_of_getElem? hn)
theorem map_set_fst : ∀ (M : Mem) (n : Nat) (p : Addr) (o o' : HO), M[n]? = some (p, o) → (M.set n (p, o')).map (·.1) = M.map (·.1)
  | [], _, _, _, _, h => by simp at h
  | x :: M, 0, p, o, o', h => by
    have e : x = (p, o) := by simpa using h
    subst e; rfl
  | x :: M, n + 1, p, o, o', h => by
    have e : M[n]? = some (p, o) := by simpa using h
    show x.1 :: (M.set n (p, o')).map (·.1) = _
    rw [map_set_fst M n p o o' e]; rfl
theorem nodup_at : ∀ (M : Mem) (n : Nat) (p : Addr) (o : HO) (x : Addr × HO) (m : Nat), (M.map (·.1)).Nodup → M[n]? = some (p, o) → M[m]? = some x → x.1 = p → m = n := by
  intro M n p o x m hd h1 h2 e
  have q1 : (M.map (·.1))[n]? = some p := by rw [List.getElem?_map, h1]; rfl
  have q2 : (M.map (·.1))[m]? = some p := by rw [List.getElem?_map, h2, ← e]; rfl
  obtain ⟨l1, e1⟩ := List.getElem?_eq_some_iff.mp q1
  obtain ⟨l2, e2⟩ := List.getElem?_eq_some_iff.mp q2
  exact (List.getElem_inj hd).mp (e2.trans e1.symm)
theorem Hv.set (h : Hv G M H) (hn : M[n]? = some (p, o)) : Hv G (M.set n (p, o')) (upd H p o') := by
  have hlt : n < M.length := (List.getElem?_eq_some_iff.mp hn).1
  refine ⟨fun b u e => ?_, fun x hx => ?_, ?_, fun x hx => ?_⟩
  · have : b ≠ p := fun z => by
      have q := h.dj _ (List.mem_of_getElem? hn)
      rw [z] at e
      rw [show G p = none from q] at e; cases e
    rw [upd_ne this]; exact h.ex b u e
  · obtain ⟨m, hm⟩ := List.getElem?_of_mem hx
    by_cases e : m = n
    · subst e
      rw [List.getElem?_set_self hlt] at hm
      cases hm
      exact upd_same
    · rw [List.getElem?_set_ne (Ne.symm e)] at hm
      have : x.1 ≠ p := fun z => e (nodup_at M n p o x m h.nd hn hm z)
      rw [upd_ne this]
      exact h.mu x (List.mem_of_getElem? hm)
  · rw [map_set_fst M n p o o' hn]; exact h.nd
  · have : x.1 ∈ M.map (·.1) := by
      rw [← map_set_fst M n p o o' hn]; exact List.mem_map.mpr ⟨x, hx, rfl⟩
    obtain ⟨y, hy, e⟩ := List.mem_map.mp this
    rw [← e]; exact h.dj y hy
/-- what is known may be forgotten, and what may be written may be frozen -/
def Wk (G : Hp) (M : Mem) (G' : Hp) (M' : Mem) : Prop := ∀ H, Hv G M H → Hv G' M' H
theorem Wk.refl : Wk G M G M := fun _ h => h
theorem Wk.trans {G1 G2 G3 : Hp} {M1 M2 M3 : Mem} (a : Wk G1 M1 G2 M2) (b : Wk G2 M2 G3 M3) : Wk G1 M1 G3 M3 := fun H h => b H (a H h)
theorem Wk.drop (M1 : Mem) {x : Addr × HO} {M2 : Mem} : Wk G (M1 ++ x :: M2) G (M1 ++ M2) := fun H h => by
  refine ⟨h.ex, fun y hy => h.mu y ?_, ?_, fun y hy => h.dj y ?_⟩
  · rcases List.mem_append.mp hy with q | q
    · exact List.mem_append.mpr (.inl q)
    · exact List.mem_append.mpr (.inr (List.mem_cons_of_mem _ q))
  · refine h.nd.sublist ?_
    simp
  · rcases List.mem_append.mp hy with q | q
    · exact List.mem_append.mpr (.inl q)
    · exact List.mem_append.mpr (.inr (List.mem_cons_of_mem _ q))
theorem Wk.drop0 {x : Addr × HO} : Wk G (x :: M) G M := Wk.drop []
theorem Wk.drop1 {x y : Addr × HO} : Wk G (y :: x :: M) G (y :: M) := Wk.drop [y]
theorem Wk.drop2 {x y z : Addr × HO} : Wk G (z :: y :: x :: M) G (z :: y :: M) := Wk.drop [z, y]
theorem Wk.frz (M1 : Mem) {M2 : Mem} : Wk G (M1 ++ (p, o) :: M2) (upd G p o) (M1 ++ M2) := fun H h => by
  have hp : H p = some o := h.mu (p, o) (by simp)
  have hg : G p = none := h.dj (p, o) (by simp)
  have h2 := Wk.drop (G := G) M1 (x := (p, o)) (M2 := M2) H h
  refine ⟨fun b u e => ?_, h2.mu, h2.nd, fun x hx => ?_⟩
  · by_cases hb : b = p
    · subst hb; rw [upd_same] at e; cases e; exact hp
    · rw [upd_ne hb] at e; exact h.ex b u e
  · have : x.1 ≠ p := fun z => by
      have nd := h.nd
      rw [List.map_append, List.map_cons, List.nodup_append] at nd
      obtain ⟨n1, n2, n3⟩ := nd
      rcases List.mem_append.mp hx with q | q
      · exact n3 x.1 (List.mem_map.mpr ⟨x, q, rfl⟩) p (by simp) z
      · rw [List.nodup_cons] at n2
        exact n2.1 (by rw [← z]; exact List.mem_map.mpr ⟨x, q, rfl⟩)
    rw [upd_ne this]; exact h2.dj x hx
theorem Wk.frz0 : Wk G ((p, o) :: M) (upd G p o) M := Wk.frz []
theorem Wk.frz1 {y : Addr × HO} : Wk G (y :: (p, o) :: M) (upd G p o) (y :: M) := Wk.frz [y]
theorem Wk.perm {M' : Mem} (e : M'.Perm M) : Wk G M G M' := fun H h =>
  ⟨h.ex, fun x hx => h.mu x (e.mem_iff.mp hx), (e.map _).nodup_iff.mpr h.nd, fun x hx => h.dj x (e.mem_iff.mp hx)⟩
theorem Wk.swap {x y : Addr × HO} : Wk G (x :: y :: M) G (y :: x :: M) := Wk.perm (List.Perm.swap x y M)
/-- less of the frozen part -/
theorem Wk.less {G' : Hp} (e : ∀ a o, G' a = some o → G a = some o) : Wk G M G' M := fun H h =>
  ⟨fun a o q => h.ex a o (e a o q), h.mu, h.nd, fun x hx => by
    cases q : G' x.1 with
    | none => rfl
    | some o => have := h.dj x hx; rw [e _ _ q] at this; cases this⟩
end

/-! ### extension of the frozen part -/
def Ex (G G' : Hp) : Prop := ∀ a o, G a = some o → G' a = some o
theorem Ex.refl {G : Hp} : Ex G G := fun _ _ h => h
theorem Ex.trans {G G1 G2 : Hp} (a : Ex G G1) (b : Ex G1 G2) : Ex G G2 := fun x o h => b x o (a x o h)
theorem Ex.new {G : Hp} {M : Mem} {p : Addr} {o : HO} (h : Fr G M p) : Ex G (upd G p o) := fun a u e => by
  rw [upd_ne (ne_of_none e h.1)]; exact e
theorem Ex.new' {G : Hp} {p : Addr} {o : HO} (h : G p = none) : Ex G (upd G p o) := fun a u e => by
  rw [upd_ne (ne_of_none e h)]; exact e
theorem ex_rd {H H' : Hp} {a : Addr} {u : HO} (e : Ex H H') (h : Rd H a u) : Rd H' a u := by
  rcases h with h | ⟨o, h⟩
  · exact .inl (e a _ h)
  · exact .inr ⟨o, e a _ h⟩
theorem ex_l {K : PySem.W.Frag} {H H' : Hp} {a : Addr} {xs : List V} (e : Ex H H') (h : SqL K H a xs) : SqL K H' a xs := by
  rcases h with h | h
  · exact .inl (ex_rd e h)
  · exact .inr h
theorem ex_t {K : PySem.W.Frag} {H H' : Hp} {a : Addr} {xs : List V} (e : Ex H H') (h : SqT K H a xs) : SqT K H' a xs := by
  rcases h with h | h
  · exact .inl (ex_rd e h)
  · exact .inr h
mutual
theorem ex_d {K : PySem.W.Frag} {H H' : Hp} (e : Ex H H') : ∀ (d : PyData) {v : V}, Dp K H v d → Dp K H' v d
  | _, _, .non => .non
  | _, _, .bl b => .bl b
  | _, _, .int b => .int b
  | _, _, .str b => .str b
  | .list ds, _, .lst s a => .lst (ex_l e s) (ex_ds e ds a)
  | .tuple ds, _, .tup s a => .tup (ex_t e s) (ex_ds e ds a)
theorem ex_ds {K : PySem.W.Frag} {H H' : Hp} (e : Ex H H') : ∀ (ds : List PyData) {vs : List V}, DpAll K H vs ds → DpAll K H' vs ds
  | _, _, .nil => .nil
  | d :: ds, _, .cons a b => .cons (ex_d e d a) (ex_ds e ds b)
end
/-- a list, a tuple that can be read -/
def LstAt (K : PySem.W.Frag) (G : Hp) (M : Mem) (a : Addr) (xs : List V) : Prop := (a, HO.lst xs) ∈ M ∨ SqL K G a xs
def TupAt (K : PySem.W.Frag) (G : Hp) (M : Mem) (a : Addr) (xs : List V) : Prop := SqT K G a xs
def SeqAt' (K : PySem.W.Frag) (G : Hp) (M : Mem) (a : Addr) (xs : List V) : Prop := LstAt K G M a xs ∨ SqT K G a xs
/-- data that can be read -/
def DatAt (K : PySem.W.Frag) (G : Hp) (M : Mem) (v : V) (d : PyData) : Prop := ∀ H, Hv G M H → Dp K H v d
section
variable {K : PySem.W.Frag} {G : Hp} {M : Mem} {H : Hp} {a : Addr} {xs : List V}
theorem Hv.exx (h : Hv G M H) : Ex G H := h.ex
theorem Hv.lst (h : Hv G M H) (q : LstAt K G M a xs) : SqL K H a xs := by
  rcases q with q | q
  · exact .inl (.inl (h.mu _ q))
  · exact ex_l h.exx q
theorem Hv.tup (h : Hv G M H) (q : SqT K G a xs) : SqT K H a xs := ex_t h.exx q
theorem Hv.dat (h : Hv G M H) {v : V} {d : PyData} (q : DatAt K G M v d) : Dp K H v d := q H h
end

/-! ### judgements -/
abbrev KR := V → Hp → Mem → Prop
abbrev KX := Value → Option Addr → Hp → Mem → Prop
abbrev KK (α : Type) := St → Hp → Mem → (α → Hp → Mem → Prop) → KX → Prop
abbrev KE := KK V
abbrev KA := KK (List V)
abbrev KT := KK Bool
def upG {α : Type} (W : WX) (t : KK α) : St → Hp → (α → Hp → Prop) → Prop := fun σ H Q =>
  ∃ G M R E, Hv G M H ∧ t σ G M R E ∧ (∀ v G' M' H', Hv G' M' H' → R v G' M' → Q v H') ∧ (∀ c d G' M' H', Hv G' M' H' → E c d G' M' → W c d σ H')
def JE (X : Cx) (W : WX) (e : Expr) (t : KE) : Prop := PE X e (upG W t)
def JT (X : Cx) (W : WX) (e : Expr) (t : KT) : Prop := PT X e (upG W t)
def JW (X : Cx) (W : WX) (e : Expr) (t : KT) : Prop := PW X e (upG W t)
def JA (X : Cx) (W : WX) (es : List Expr) (t : KA) : Prop := PA X es (upG W t)
theorem pe_mono {X : Cx} {e : Expr} {t t' : TE} (h : PE X e t) (i : ∀ σ H Q, t' σ H Q → t σ H Q) : PE X e t' := ⟨fun pins s σ H Q I q => h.run pins s σ H Q I (i σ H Q q)⟩
theorem pt_mono {X : Cx} {e : Expr} {t t' : TT} (h : PT X e t) (i : ∀ σ H Q, t' σ H Q → t σ H Q) : PT X e t' := ⟨fun pins s σ H Q I q => h.run pins s σ H Q I (i σ H Q q)⟩
theorem pw_mono {X : Cx} {e : Expr} {t t' : TT} (h : PW X e t) (i : ∀ σ H Q, t' σ H Q → t σ H Q) : PW X e t' := ⟨fun wh pins s σ H Q I q => h.run wh pins s σ H Q I (i σ H Q q)⟩
theorem pa_mono {X : Cx} {e : List Expr} {t t' : TA} (h : PA X e t) (i : ∀ σ H Q, t' σ H Q → t σ H Q) : PA X e t' := ⟨fun pos pins s σ H Q I q => h.run pos pins s σ H Q I (i σ H Q q)⟩

section
variable {X : Cx} {W : WX} {pos : Pos}
/-- names, constants -/
def kVar (i : Nat) : KE := fun σ G M R _ => match σ[i]? with
  | some (some v) => R v G M
  | _ => False
def kC (v : V) : KE := fun _ G M R _ => R v G M
theorem je_var (i : Nat) {x : Str} (hN : X.N[i]? = some x := by rfl) (hv : Vis X.env.scope x := by first | exact Or.inl rfl | exact Or.inr (Or.inl rfl) | exact Or.inr (Or.inr rfl)) (hd : (x == ("__debug__" : Str)) = false := by decide)
    (hcd : (x == ("__classdict__" : Str)) = false := by decide) : JE X W (.Name x pos) (kVar i) := pe_mono (pe_var hN hv hd hcd) fun σ H Q ⟨G, M, R, E, hv, h, hR, _⟩ => by
  unfold kVar at h
  split at h
  · rename_i v e
    exact ⟨v, e, hR v G M H hv h⟩
  · exact h.elim
theorem je_c {e : Expr} {v : V} (h : PE X e (tC v)) : JE X W e (kC v) := pe_mono h fun σ H Q ⟨G, M, R, E, hv, h, hR, _⟩ => hR v G M H hv h
theorem je_int {i : Int} {j pos} : JE X W (.Constant (.int i) j pos) (kC (.int i)) := je_c pe_int
theorem je_bl {i : Bool} {j pos} : JE X W (.Constant (.bool i) j pos) (kC (.bl i)) := je_c pe_bl
theorem je_non {j pos} : JE X W (.Constant .none j pos) (kC .non) := je_c pe_non
theorem je_str {i : Str} {j pos} : JE X W (.Constant (.str i) j pos) (kC (.str i)) := je_c pe_str
/-- two in a row -/
def kBin {β : Type} (k : V → V → Hp → Mem → (β → Hp → Mem → Prop) → Prop) (ta tb : KE) : KK β := fun σ G M R E => ta σ G M (fun x G M => tb σ G M (fun y G M => k x y G M R) E) E
abbrev KR2 := V → V → Hp → Mem → KR → Prop
def KOp (X : Cx) (f : Value → Value → Sem Value) (k : KR2) : Prop :=
  ∀ (pins : List (Addr × Obj)) (s : Shared) (σ : St) (H : Hp) (x y : V) (v u : Value) (Q : VK) (G : Hp) (M : Mem) (R : KR), Inv X pins σ H s → RelV x v → RelV y u → Hv G M H → k x y G M R →
    (∀ v G' M' H', Hv G' M' H' → R v G' M' → Q v H') → wpAny (model X.prog X.w) X.A (f v u) (EP X pins σ Q) X.xe s
theorem kop_of {f : Value → Value → Sem Value} {r : R2} {k : KR2} (ho : OpR X f r)
    (s : ∀ x y G M R H Q, Hv G M H → k x y G M R → (∀ v G' M' H', Hv G' M' H' → R v G' M' → Q v H') → r x y H Q) : KOp X f k :=
  fun pins st σ H x y v u Q G M R I rx ry hv h hR => ho pins st σ H x y v u Q I rx ry (s x y G M R H Q hv h hR)
/-- an OpR whose reading is: it holds of k in some knowledge -/
def rUp (k : KR2) : R2 := fun x y H Q => ∃ G M R, Hv G M H ∧ k x y G M R ∧ ∀ v G' M' H', Hv G' M' H' → R v G' M' → Q v H'
theorem KOp.opr {f : Value → Value → Sem Value} {k : KR2} (h : KOp X f k) : OpR X f (rUp k) := fun pins s σ H x y v u Q I rx ry ⟨G, M, R, hv, hk, hR⟩ => h pins s σ H x y v u Q G M R I rx ry hv hk hR
theorem bin_sim {ta tb : KE} {k : KR2} {σ : St} {H : Hp} {Q : VK} (h : upG W (kBin k ta tb) σ H Q) : tOp (rUp k) (upG W ta) (upG W tb) σ H Q := by
  obtain ⟨G, M, R, E, hv, h, hR, hE⟩ := h
  exact ⟨G, M, _, E, hv, h, fun x G1 M1 H1 hv1 h1 => ⟨G1, M1, _, E, hv1, h1, fun y G2 M2 H2 hv2 h2 => ⟨G2, M2, R, hv2, h2, hR⟩, hE⟩, hE⟩
theorem je_op {a b : Expr} {op : Operator} {k : KR2} {ta tb : KE} (ho : KOp X (binaryOp op) k) (ha : JE X W a ta) (hb : JE X W b tb) : JE X W (.BinOp a op b pos) (kBin k ta tb) :=
  pe_mono (pe_op ho.opr ha hb) fun _ _ _ h => bin_sim h
theorem je_cmp {a b : Expr} {op : CmpOp} {k : KR2} {ta tb : KE} (ho : KOp X (compareOp op) k) (ha : JE X W a ta) (hb : JE X W b tb) (hm : behindInMarks op b = false) : JE X W (.Compare a [op] [b] pos) (kBin k ta tb) :=
  pe_mono (pe_cmpR ho.opr ha hb hm) fun _ _ _ h => bin_sim h
/-- a value as a test -/
def asB (R : Bool → Hp → Mem → Prop) : KR := fun v G M => match v with
  | .bl b => R b G M
  | _ => False
def kT (t : KE) : KT := fun σ G M R E => t σ G M (asB R) E
theorem asB_of {R : Bool → Hp → Mem → Prop} {v : V} {G : Hp} {M : Mem} (h : asB R v G M) : ∃ c, v = .bl c ∧ R c G M := by
  cases v <;> first | exact ⟨_, rfl, h⟩ | exact h.elim
theorem t_sim {t : KE} {σ : St} {H : Hp} {Q : Bool → Hp → Prop} (h : upG W (kT t) σ H Q) : tTest (upG W t) σ H Q := by
  obtain ⟨G, M, R, E, hv, h, hR, hE⟩ := h
  refine ⟨G, M, _, E, hv, h, fun v G1 M1 H1 hv1 h1 => ?_, hE⟩
  obtain ⟨c, rfl, h2⟩ := asB_of h1
  exact ⟨c, rfl, hR c G1 M1 H1 hv1 h2⟩
theorem jt_cmp {a b : Expr} {op : CmpOp} {k : KR2} {ta tb : KE} (ho : KOp X (compareOp op) k) (ha : JE X W a ta) (hb : JE X W b tb) (hm : behindInMarks op b = false) : JT X W (.Compare a [op] [b] pos) (kT (kBin k ta tb)) :=
  pt_mono (pt_cmpR ho.opr ha hb hm) fun σ H Q h => by
    have h2 := t_sim h
    exact bin_sim h2
theorem jt_val {e : Expr} {t : KE} (h : JE X W e t) (he : ∀ whole, isTrue e X.env whole = (do let v ← whole; standAt e.pos; holding [v] (truthy v)) := by intro _; rfl) : JT X W e (kT t) :=
  pt_mono (pt_val h he) fun σ H Q h => t_sim h
/-- chains -/
def kChain (k k' : KR2) (ta tb tc : KE) : KE := fun σ G M R E => ta σ G M (fun x G M => tb σ G M (fun y G M => k x y G M (asB fun c G M => if c = true then tc σ G M (fun z G M => k' y z G M R) E else R (.bl false) G M)) E) E
theorem chain_sim {ta tb tc : KE} {k k' : KR2} {σ : St} {H : Hp} {Q : VK} (h : upG W (kChain k k' ta tb tc) σ H Q) : tChain (rUp k) (rUp k') (upG W ta) (upG W tb) (upG W tc) σ H Q := by
  obtain ⟨G, M, R, E, hv, h, hR, hE⟩ := h
  refine ⟨G, M, _, E, hv, h, fun x G1 M1 H1 hv1 h1 => ⟨G1, M1, _, E, hv1, h1, fun y G2 M2 H2 hv2 h2 => ⟨G2, M2, _, hv2, h2, fun v G3 M3 H3 hv3 h3 => ?_⟩, hE⟩, hE⟩
  obtain ⟨c, rfl, h4⟩ := asB_of h3
  refine ⟨c, rfl, ?_⟩
  cases c with
  | true =>
    rw [if_pos rfl] at h4 ⊢
    exact ⟨G3, M3, _, E, hv3, h4, fun z G4 M4 H4 hv4 h5 => ⟨G4, M4, R, hv4, h5, hR⟩, hE⟩
  | false =>
    rw [if_neg Bool.false_ne_true] at h4 ⊢
    exact hR _ G3 M3 H3 hv3 h4
theorem je_chain {a b c : Expr} {op op' : CmpOp} {k k' : KR2} {ta tb tc : KE} (ho : KOp X (compareOp op) k) (ho' : KOp X (compareOp op') k') (ha : JE X W a ta) (hb : JE X W b tb) (hc : JE X W c tc)
    (hm : lastMarks [op, op'] [b, c] = false := by with_unfolding_all rfl) : JE X W (.Compare a [op, op'] [b, c] pos) (kChain k k' ta tb tc) := pe_mono (pe_chain ho.opr ho'.opr ha hb hc hm) fun _ _ _ h => chain_sim h
theorem jt_chain {a b c : Expr} {op op' : CmpOp} {k k' : KR2} {ta tb tc : KE} (ho : KOp X (compareOp op) k) (ho' : KOp X (compareOp op') k') (ha : JE X W a ta) (hb : JE X W b tb) (hc : JE X W c tc)
    (hm : lastMarks [op, op'] [b, c] = false := by with_unfolding_all rfl) : JT X W (.Compare a [op, op'] [b, c] pos) (kT (kChain k k' ta tb tc)) := pt_mono (pt_chain ho.opr ho'.opr ha hb hc hm) fun _ _ _ h => chain_sim (t_sim h)
/-- and, or, not -/
def kAnd (t u : KT) : KT := fun σ G M R E => t σ G M (fun c G M => if c = true then u σ G M R E else R false G M) E
def kOr (t u : KT) : KT := fun σ G M R E => t σ G M (fun c G M => if c = true then R true G M else u σ G M R E) E
def kNot (t : KT) : KT := fun σ G M R E => t σ G M (fun c G M => R (!c) G M) E
def kAndV (t u : KE) : KE := fun σ G M R E => t σ G M (asB fun c G M => if c = true then u σ G M R E else R (.bl false) G M) E
def kOrV (t u : KE) : KE := fun σ G M R E => t σ G M (asB fun c G M => if c = true then R (.bl true) G M else u σ G M R E) E
def kNotV (t : KE) : KE := fun σ G M R E => t σ G M (asB fun c G M => R (.bl (!c)) G M) E
variable {a b : Expr} {rest : List Expr}
theorem jw_and1 {t : KT} (h : JT X W a t) : JW X W (.BoolOp .And [a] pos) t := pw_and1 h
theorem jw_or1 {t : KT} (h : JT X W a t) : JW X W (.BoolOp .Or [a] pos) t := pw_or1 h
theorem jw_and {t u : KT} (ha : JT X W a t) (hb : JW X W (.BoolOp .And (b :: rest) pos) u) : JW X W (.BoolOp .And (a :: b :: rest) pos) (kAnd t u) :=
  pw_mono (pw_and ha hb) fun σ H Q ⟨G, M, R, E, hv, h, hR, hE⟩ => ⟨G, M, _, E, hv, h, fun c G1 M1 H1 hv1 h1 => by
    cases c with
    | true => rw [if_pos rfl] at h1 ⊢; exact ⟨G1, M1, R, E, hv1, h1, hR, hE⟩
    | false => rw [if_neg Bool.false_ne_true] at h1 ⊢; exact hR _ G1 M1 H1 hv1 h1, hE⟩
theorem jw_or {t u : KT} (ha : JT X W a t) (hb : JW X W (.BoolOp .Or (b :: rest) pos) u) : JW X W (.BoolOp .Or (a :: b :: rest) pos) (kOr t u) :=
  pw_mono (pw_or ha hb) fun σ H Q ⟨G, M, R, E, hv, h, hR, hE⟩ => ⟨G, M, _, E, hv, h, fun c G1 M1 H1 hv1 h1 => by
    cases c with
    | true => rw [if_pos rfl] at h1 ⊢; exact hR _ G1 M1 H1 hv1 h1
    | false => rw [if_neg Bool.false_ne_true] at h1 ⊢; exact ⟨G1, M1, R, E, hv1, h1, hR, hE⟩, hE⟩
theorem JW.jt {e : Expr} {t : KT} (h : JW X W e t) : JT X W e t := PW.pt h
theorem jt_not {t : KT} (h : JT X W a t) : JT X W (.UnaryOp .Not a pos) (kNot t) :=
  pt_mono (pt_not h) fun σ H Q ⟨G, M, R, E, hv, h, hR, hE⟩ => ⟨G, M, _, E, hv, h, fun c G1 M1 H1 hv1 h1 => hR _ G1 M1 H1 hv1 h1, hE⟩
theorem je_one {op} {t : KE} (h : JE X W a t) : JE X W (.BoolOp op [a] pos) t := pe_one h
theorem je_and {t u : KE} (ha : JE X W a t) (hb : JE X W (.BoolOp .And (b :: rest) pos) u) : JE X W (.BoolOp .And (a :: b :: rest) pos) (kAndV t u) :=
  pe_mono (pe_and ha hb) fun σ H Q ⟨G, M, R, E, hv, h, hR, hE⟩ => ⟨G, M, _, E, hv, h, fun v G1 M1 H1 hv1 h1 => by
    obtain ⟨c, rfl, h2⟩ := asB_of h1
    refine ⟨c, rfl, ?_⟩
    cases c with
    | true => rw [if_pos rfl] at h2 ⊢; exact ⟨G1, M1, R, E, hv1, h2, hR, hE⟩
    | false => rw [if_neg Bool.false_ne_true] at h2 ⊢; exact hR _ G1 M1 H1 hv1 h2, hE⟩
theorem je_or {t u : KE} (ha : JE X W a t) (hb : JE X W (.BoolOp .Or (b :: rest) pos) u) : JE X W (.BoolOp .Or (a :: b :: rest) pos) (kOrV t u) :=
  pe_mono (pe_or ha hb) fun σ H Q ⟨G, M, R, E, hv, h, hR, hE⟩ => ⟨G, M, _, E, hv, h, fun v G1 M1 H1 hv1 h1 => by
    obtain ⟨c, rfl, h2⟩ := asB_of h1
    refine ⟨c, rfl, ?_⟩
    cases c with
    | true => rw [if_pos rfl] at h2 ⊢; exact hR _ G1 M1 H1 hv1 h2
    | false => rw [if_neg Bool.false_ne_true] at h2 ⊢; exact ⟨G1, M1, R, E, hv1, h2, hR, hE⟩, hE⟩
theorem je_not {t : KE} (h : JE X W a t) : JE X W (.UnaryOp .Not a pos) (kNotV t) :=
  pe_mono (pe_not h) fun σ H Q ⟨G, M, R, E, hv, h, hR, hE⟩ => ⟨G, M, _, E, hv, h, fun v G1 M1 H1 hv1 h1 => by
    obtain ⟨c, rfl, h2⟩ := asB_of h1
    exact ⟨c, rfl, hR _ G1 M1 H1 hv1 h2⟩, hE⟩
/-- a if c else b -/
def kIte (t : KT) (ta tb : KE) : KE := fun σ G M R E => t σ G M (fun c G M => if c = true then ta σ G M R E else tb σ G M R E) E
end
end BT
set_option Elab.async false
set_option linter.all false
set_option maxRecDepth 100000
set_option maxHeartbeats 4000000
namespace BT
open PySem PySem.Spec L2
open PyProof.Rows hiding St
section
variable {X : Cx} {W : WX} {pos : Pos} {a b c e : Expr} {es : List Expr}
theorem je_ite {t : KT} {ta tb : KE} (hc : JT X W c t) (ha : JE X W a ta) (hb : JE X W b tb) : JE X W (.IfExp c a b pos) (kIte t ta tb) :=
  pe_mono (pe_ifExp hc ha hb) fun σ H Q ⟨G, M, R, E, hv, h, hR, hE⟩ => ⟨G, M, _, E, hv, h, fun c G1 M1 H1 hv1 h1 => by
    cases c with
    | true => rw [if_pos rfl] at h1 ⊢; exact ⟨G1, M1, R, E, hv1, h1, hR, hE⟩
    | false => rw [if_neg Bool.false_ne_true] at h1 ⊢; exact ⟨G1, M1, R, E, hv1, h1, hR, hE⟩, hE⟩
/-! ### arguments, displays -/
def kNil : KA := fun _ G M R _ => R [] G M
def kCons (t : KE) (u : KA) : KA := fun σ G M R E => t σ G M (fun x G M => u σ G M (fun xs G M => R (x :: xs) G M) E) E
theorem ja_nil : JA X W [] kNil := pa_mono pa_nil fun σ H Q ⟨G, M, R, E, hv, h, hR, _⟩ => hR _ G M H hv h
theorem ja_cons {t : KE} {u : KA} (ha : JE X W e t) (hr : JA X W es u) (hs : starEach (e :: es) X.env = (false, eval e X.env) :: starEach es X.env := by rfl) : JA X W (e :: es) (kCons t u) :=
  pa_mono (pa_cons ha hr hs) fun σ H Q ⟨G, M, R, E, hv, h, hR, hE⟩ => ⟨G, M, _, E, hv, h, fun x G1 M1 H1 hv1 h1 => ⟨G1, M1, _, E, hv1, h1, fun xs G2 M2 H2 hv2 h2 => hR _ G2 M2 H2 hv2 h2, hE⟩, hE⟩
def kLst (t : KA) : KE := fun σ G M R E => t σ G M (fun xs G M => xs.length ≤ sizeLine ∧ ∀ p, Fr G M p → R (.ref p) G ((p, .lst xs) :: M)) E
def kTup (t : KA) : KE := fun σ G M R E => t σ G M (fun xs G M => xs.length ≤ sizeLine ∧ ∀ p, Fr G M p → R (.ref p) (upd G p (.tup xs)) M) E
theorem je_lst {t : KA} (h : JA X W es t) : JE X W (.List es pos) (kLst t) :=
  pe_mono (pe_lst h) fun σ H Q ⟨G, M, R, E, hv, h, hR, hE⟩ => ⟨G, M, _, E, hv, h, fun xs G1 M1 H1 hv1 h1 => ⟨h1.1, fun p hp => hR _ G1 _ _ (hv1.newM hp) (h1.2 p (hv1.fr hp))⟩, hE⟩
theorem je_tup {t : KA} {k : Nat} (h : JA X W es t) : JE X W (.Tuple es k pos) (kTup t) :=
  pe_mono (pe_tup h) fun σ H Q ⟨G, M, R, E, hv, h, hR, hE⟩ => ⟨G, M, _, E, hv, h, fun xs G1 M1 H1 hv1 h1 => ⟨h1.1, fun p hp => hR _ _ M1 _ (hv1.newG hp) (h1.2 p (hv1.fr hp))⟩, hE⟩
/-! ### operators -/
def kAdd : KR2 := fun x y G M R => match x, y with
  | .int i, .int j => R (.int (i + j)) G M
  | .str i, .str j => i.length + j.length ≤ sizeLine ∧ R (.str (i ++ j)) G M
  | .ref a, .ref b => ∃ xs ys, At G M a (.lst xs) ∧ At G M b (.lst ys) ∧ xs.length + ys.length ≤ sizeLine ∧ ∀ p, Fr G M p → R (.ref p) G ((p, .lst (xs ++ ys)) :: M)
  | _, _ => False
theorem kop_add : KOp X (binaryOp .Add) kAdd := fun pins s σ H x y v u Q G M R I rx ry hv h hR => by
  cases x <;> cases y <;> first
    | exact op_add pins s σ H _ _ v u Q I rx ry ⟨_, _, rfl, rfl, hR _ G M H hv h⟩
    | exact op_add_str pins s σ H _ _ v u Q I rx ry ⟨_, _, rfl, rfl, h.1, hR _ G M H hv h.2⟩
    | (obtain ⟨xs, ys, h1, h2, h3, h4⟩ := h
       exact op_cat pins s σ H _ _ v u Q I rx ry ⟨_, _, xs, ys, rfl, rfl, hv.at h1, hv.at h2, h3, fun p hp => hR _ G _ _ (hv.newM hp) (h4 p (hv.fr hp))⟩)
    | exact h.elim
def kI (C : Int → Int → Prop) (g : Int → Int → V) : KR2 := fun x y G M R => match x, y with
  | .int i, .int j => C i j ∧ R (g i j) G M
  | _, _ => False
def kI0 (g : Int → Int → V) : KR2 := fun x y G M R => match x, y with
  | .int i, .int j => R (g i j) G M
  | _, _ => False
theorem kop_I {f : Value → Value → Sem Value} {C : Int → Int → Prop} {g : Int → Int → V} (h : OpR X f (rI C g)) : KOp X f (kI C g) := kop_of h fun x y G M R H Q hv h hR => by
  cases x <;> cases y <;> first
    | exact ⟨_, _, rfl, rfl, h.1, hR _ G M H hv h.2⟩
    | exact h.elim
theorem kop_I0 {f : Value → Value → Sem Value} {g : Int → Int → V} (h : OpR X f (rI0 g)) : KOp X f (kI0 g) := kop_of h fun x y G M R H Q hv h hR => by
  cases x <;> cases y <;> first
    | exact ⟨_, _, rfl, rfl, hR _ G M H hv h⟩
    | exact h.elim
/-- sizes of products, quotients -/
def MulOk (i j : Int) : Prop := CMul i j ∨ CMulW i j
theorem kop_sub : KOp X (binaryOp .Sub) (kI0 fun i j => .int (i - j)) := kop_I0 op_sub
/-- a product of ints, a list repeated -/
def kMul : KR2 := fun x y G M R => match x, y with
  | .int i, .int j => MulOk i j ∧ R (.int (i * j)) G M
  | .ref a, .int k => ∃ xs, At G M a (.lst xs) ∧ -(2 ^ 63) ≤ k ∧ k < 2 ^ 63 ∧ xs.length * k.toNat ≤ sizeLine ∧ ∀ p, Fr G M p → R (.ref p) G ((p, .lst (List.replicate k.toNat xs).flatten) :: M)
  | _, _ => False
theorem kop_mul : KOp X (binaryOp .Mult) kMul := fun pins s σ H x y v u Q G M R I rx ry hv h hR => by
  cases x <;> cases y <;> first
    | (obtain ⟨hc, h⟩ := h
       rcases hc with hc | hc
       · exact op_mul pins s σ H _ _ v u Q I rx ry ⟨_, _, rfl, rfl, hc, hR _ G M H hv h⟩
       · exact op_mulW pins s σ H _ _ v u Q I rx ry ⟨_, _, rfl, rfl, hc, hR _ G M H hv h⟩)
    | (obtain ⟨xs, h1, h2, h3, h4, h5⟩ := h
       exact op_rep pins s σ H _ _ v u Q I rx ry ⟨_, _, xs, rfl, rfl, hv.at h1, h2, h3, h4, fun p hp => hR _ G _ _ (hv.newM hp) (h5 p (hv.fr hp))⟩)
    | exact h.elim
theorem kop_mod : KOp X (binaryOp .Mod) (kI (fun _ j => 0 < j) fun i j => .int (i % j)) := kop_I op_mod
theorem kop_fdiv : KOp X (binaryOp .FloorDiv) (kI CDivW fun i j => .int (i / j)) := kop_I op_fdivW
theorem kop_pow : KOp X (binaryOp .Pow) (kI CPow fun i j => .int (i ^ j.toNat)) := kop_I op_pow
theorem kop_shl : KOp X (binaryOp .LShift) (kI CPow fun i j => .int (i * 2 ^ j.toNat)) := kop_I op_shl
theorem kop_shr : KOp X (binaryOp .RShift) (kI (fun _ j => 0 ≤ j) fun i j => .int (i / 2 ^ j.toNat)) := kop_I op_shr
theorem kop_lt : KOp X (compareOp .Lt) (kI0 fun i j => .bl (decide (i < j))) := kop_I0 op_lt
theorem kop_le : KOp X (compareOp .LtE) (kI0 fun i j => .bl (decide (i ≤ j))) := kop_I0 op_le
theorem kop_gt : KOp X (compareOp .Gt) (kI0 fun i j => .bl (decide (j < i))) := kop_I0 op_gt
theorem kop_ge : KOp X (compareOp .GtE) (kI0 fun i j => .bl (decide (j ≤ i))) := kop_I0 op_ge
/-- equality: of plain values at once, of data by what they hold -/
def kEqv (neg : Bool) (K : PySem.W.Frag) : KR2 := fun x y G M R =>
  match scal x y with
  | true => R (.bl (if neg then !decide (x = y) else decide (x = y))) G M
  | false => ∃ d e, DatAt K G M x d ∧ DatAt K G M y e ∧ SeqAt.shaped d = true ∧ SeqAt.shaped e = true ∧ R (.bl (if neg then !PyData.eqv d e else PyData.eqv d e)) G M
theorem kop_eq (hu : X.A.units + 64 < cLine) : KOp X (compareOp .Eq) (kEqv false X.K) := fun pins s σ H x y v u Q G M R I rx ry hv h hR => by
  unfold kEqv at h
  split at h
  · rename_i e
    exact op_eq pins s σ H _ _ v u Q I rx ry ⟨e, hR _ G M H hv h⟩
  · obtain ⟨d, e, h1, h2, h3, h4, h5⟩ := h
    exact op_eqD hu pins s σ H _ _ v u Q I rx ry ⟨d, e, hv.dat h1, hv.dat h2, h3, h4, hR _ G M H hv h5⟩
theorem kop_ne (hu : X.A.units + 64 < cLine) : KOp X (compareOp .NotEq) (kEqv true X.K) := fun pins s σ H x y v u Q G M R I rx ry hv h hR => by
  unfold kEqv at h
  split at h
  · rename_i e
    exact op_ne pins s σ H _ _ v u Q I rx ry ⟨e, hR _ G M H hv h⟩
  · obtain ⟨d, e, h1, h2, h3, h4, h5⟩ := h
    exact op_neD hu pins s σ H _ _ v u Q I rx ry ⟨d, e, hv.dat h1, hv.dat h2, h3, h4, hR _ G M H hv h5⟩
def kIs (neg : Bool) : KR2 := fun x y G M R => match y with
  | .non => R (.bl (if neg then !decide (x = .non) else decide (x = .non))) G M
  | _ => False
theorem kop_is : KOp X (compareOp .Is) (kIs false) := kop_of op_isN fun x y G M R H Q hv h hR => by
  cases y <;> first
    | exact ⟨rfl, hR _ G M H hv h⟩
    | exact h.elim
theorem kop_isnot : KOp X (compareOp .IsNot) (kIs true) := kop_of op_notN fun x y G M R H Q hv h hR => by
  cases y <;> first
    | exact ⟨rfl, hR _ G M H hv h⟩
    | exact h.elim
def kUn (k : V → Hp → Mem → KR → Prop) (t : KE) : KE := fun σ G M R E => t σ G M (fun x G M => k x G M R) E
def kNeg : V → Hp → Mem → KR → Prop := fun x G M R => match x with
  | .int i => R (.int (-i)) G M
  | _ => False
theorem je_neg {t : KE} (h : JE X W a t) : JE X W (.UnaryOp .USub a pos) (kUn kNeg t) :=
  pe_mono (pe_un un_neg h) fun σ H Q ⟨G, M, R, E, hv, h, hR, hE⟩ => ⟨G, M, _, E, hv, h, fun x G1 M1 H1 hv1 h1 => by
    cases x <;> first
      | exact ⟨_, rfl, hR _ G1 M1 H1 hv1 h1⟩
      | exact h1.elim, hE⟩
/-! ### subscripts, slices -/
def kIx (K : PySem.W.Frag) : KR2 := fun x y G M R => match x, y with
  | .ref a, .int i => ∃ xs v, SeqAt' K G M a xs ∧ atI xs i = some v ∧ R v G M
  | .str z, .int i => ∃ c, z.length ≤ sizeLine ∧ atI z.cps.toList i = some c ∧ R (.str ⟨#[c]⟩) G M
  | _, _ => False
theorem ix_k : IxR X (rUp (kIx X.K)) := fun value slice pins s σ H x y v u Q I rx ry ⟨G, M, R, hv, h, hR⟩ hs => by
  cases x <;> cases y <;> first
    | (obtain ⟨xs, w, h1, h2, h3⟩ := h
       rcases h1 with h1 | h1
       · exact ix_list value slice pins s σ H _ _ v u Q I rx ry ⟨_, xs, _, w, rfl, rfl, hv.lst h1, h2, hR _ G M H hv h3⟩ hs
       · exact ix_tup value slice pins s σ H _ _ v u Q I rx ry ⟨_, xs, _, w, rfl, rfl, hv.tup h1, h2, hR _ G M H hv h3⟩ hs)
    | (obtain ⟨c, h1, h2, h3⟩ := h
       exact ix_str value slice pins s σ H _ _ v u Q I rx ry ⟨_, _, c, rfl, rfl, h1, h2, hR _ G M H hv h3⟩ hs)
    | exact h.elim
theorem je_ix {ta tb : KE} (ha : JE X W a ta) (hb : JE X W b tb) (hs : PlainIx b := by exact fun _ _ => rfl) : JE X W (.Subscript a b pos) (kBin (kIx X.K) ta tb) :=
  pe_mono (pe_ix ix_k ha hb hs) fun _ _ _ h => bin_sim h
abbrev KO := KK (Option Int)
def JO (X : Cx) (W : WX) (e : Option Expr) (t : KO) : Prop := PO X e (upG W t)
theorem po_mono {X : Cx} {e : Option Expr} {t t' : TO} (h : PO X e t) (i : ∀ σ H Q, t' σ H Q → t σ H Q) : PO X e t' := ⟨fun pins s σ H Q I q => h.run pins s σ H Q I (i σ H Q q)⟩
def kNoP : KO := fun _ G M R _ => R none G M
def asI (R : Option Int → Hp → Mem → Prop) : KR := fun v G M => match v with
  | .int i => R (some i) G M
  | _ => False
def kPart (t : KE) : KO := fun σ G M R E => t σ G M (asI R) E
theorem jo_none : JO X W none kNoP := po_mono po_none fun σ H Q ⟨G, M, R, E, hv, h, hR, _⟩ => hR _ G M H hv h
theorem jo_some {t : KE} (h : JE X W e t) : JO X W (some e) (kPart t) := po_mono (po_some h) fun σ H Q ⟨G, M, R, E, hv, h, hR, hE⟩ => ⟨G, M, _, E, hv, h, fun v G1 M1 H1 hv1 h1 => by
    cases v <;> first
      | exact ⟨_, rfl, hR _ G1 M1 H1 hv1 h1⟩
      | exact h1.elim, hE⟩
/-- xs[lo:hi] of a list -/
def kSl (K : PySem.W.Frag) (t : KE) (tl th : KO) : KE := fun σ G M R E => t σ G M (fun x G M => tl σ G M (fun l G M => th σ G M (fun u G M => match x with
  | .ref a => ∃ xs, LstAt K G M a xs ∧ ∀ p, Fr G M p → R (.ref p) G ((p, .lst (cutV xs l u)) :: M)
  | _ => False) E) E) E
theorem je_slice {t : KE} {lo hi : Option Expr} {tl th : KO} {p2 : Pos} (he : JE X W e t) (hl : JO X W lo tl) (hu : JO X W hi th) : JE X W (.Subscript e (.Slice lo hi none p2) pos) (kSl X.K t tl th) :=
  pe_mono (pe_slice sl_list he hl hu) fun σ H Q ⟨G, M, R, E, hv, h, hR, hE⟩ => ⟨G, M, _, E, hv, h, fun x G1 M1 H1 hv1 h1 => ⟨G1, M1, _, E, hv1, h1, fun l G2 M2 H2 hv2 h2 => ⟨G2, M2, _, E, hv2, h2, fun u G3 M3 H3 hv3 h3 => by
    cases x <;> first
      | (obtain ⟨xs, q1, q2⟩ := h3
         exact ⟨_, xs, rfl, hv3.lst q1, fun p hp => hR _ G3 _ _ (hv3.newM hp) (q2 p (hv3.fr hp))⟩)
      | exact h3.elim, hE⟩, hE⟩, hE⟩
/-! ### calls of built-ins -/
abbrev KC := List V → Hp → Mem → KR → Prop
def rUpC (k : KC) : List V → Hp → VK → Prop := fun vs H Q => ∃ G M R, Hv G M H ∧ k vs G M R ∧ ∀ v G' M' H', Hv G' M' H' → R v G' M' → Q v H'
def kCB (k : KC) (t : KA) : KE := fun σ G M R E => t σ G M (fun vs G M => k vs G M R) E
def KCall (X : Cx) (f : Value) (k : KC) : Prop := CallR X f (rUpC k)
theorem kcall_of {f : Value} {r : List V → Hp → VK → Prop} {k : KC} (h : CallR X f r)
    (s : ∀ vs G M R H Q, Hv G M H → k vs G M R → (∀ v G' M' H', Hv G' M' H' → R v G' M' → Q v H') → r vs H Q) : KCall X f k :=
  fun pins st σ H xs us Q I rv ⟨G, M, R, hv, hk, hR⟩ => h pins st σ H xs us Q I rv (s xs G M R H Q hv hk hR)
theorem cb_sim {t : KA} {k : KC} {σ : St} {H : Hp} {Q : VK} (h : upG W (kCB k t) σ H Q) : tCB (rUpC k) (upG W t) σ H Q := by
  obtain ⟨G, M, R, E, hv, h, hR, hE⟩ := h
  exact ⟨G, M, _, E, hv, h, fun vs G1 M1 H1 hv1 h1 => ⟨G1, M1, R, hv1, h1, hR⟩, hE⟩
variable {x : Str} {p : Pos} {id T : String}
theorem je_callB {k : KC} {t : KA} (hc : KCall X (.builtin id) k) (hm : X.mg x = none) (ha : JA X W (e :: es) t) (hv : bootBuiltins x = some (.builtin id) := by decide +kernel) (hg : Gl X x := by rfl) (hn : x ≠ "__name__" := by decide) (hdb : (x == ("__debug__" : Str)) = false := by decide)
    (he : starEach (e :: es) X.env = (false, eval e X.env) :: starEach es X.env := by rfl) (hpl : (backTo pos (starEach es X.env)).any (·.1) = false := by rfl) : JE X W (.Call (.Name x p) (e :: es) [] pos) (kCB k t) :=
  pe_mono (pe_callB hc hg hm hv ha hn hdb he hpl) fun _ _ _ h => cb_sim h
theorem je_callTy {k : KC} {t : KA} (hc : KCall X (.type T) k) (hm : X.mg x = none) (ha : JA X W (e :: es) t) (hv : bootBuiltins x = some (.type T) := by decide +kernel) (hg : Gl X x := by rfl) (hn : x ≠ "__name__" := by decide) (hdb : (x == ("__debug__" : Str)) = false := by decide)
    (he : starEach (e :: es) X.env = (false, eval e X.env) :: starEach es X.env := by rfl) (hpl : (backTo pos (starEach es X.env)).any (·.1) = false := by rfl) : JE X W (.Call (.Name x p) (e :: es) [] pos) (kCB k t) :=
  pe_mono (pe_callTy hc hg hm hv ha hn hdb he hpl) fun _ _ _ h => cb_sim h
/-- a built-in type's name as a value -/
theorem je_ty {T : String} {x : Str} {pos : Pos} (hm : X.mg x = none) (hv : bootBuiltins x = some (.type T) := by decide +kernel) (hg : Gl X x := by rfl) (hn : x ≠ "__name__" := by decide) (hd : (x == ("__debug__" : Str)) = false := by decide) : JE X W (.Name x pos) (kC (.ty T)) :=
  je_c (pe_bltn hg hm hv rfl hn hd)
/-- a module's constant -/
theorem je_glob {x : Str} {v : V} {u : Value} {pos : Pos} (hm : X.mg x = some u) (r : RelV v u) (hg : Gl X x := by rfl) (hd : (x == ("__debug__" : Str)) = false := by decide) : JE X W (.Name x pos) (kC v) := je_c (pe_glob hg hm r hd)
def kLen (K : PySem.W.Frag) : KC := fun vs G M R => match vs with
  | [.ref a] => ∃ xs, SeqAt' K G M a xs ∧ R (.int xs.length) G M
  | _ => False
theorem kc_len : KCall X (.builtin "len") (kLen X.K) := kcall_of call_len_seq fun vs G M R H Q hv h hR => by
  match vs, h with
  | [.ref a], ⟨xs, h1, h2⟩ => exact ⟨a, xs, rfl, h1.elim (fun q => .inl (hv.lst q)) (fun q => .inr (hv.tup q)), hR _ G M H hv h2⟩
def kList (K : PySem.W.Frag) : KC := fun vs G M R => match vs with
  | [.ref a] => ∃ xs, SeqAt' K G M a xs ∧ ∀ p, Fr G M p → R (.ref p) G ((p, .lst xs) :: M)
  | _ => False
theorem kc_list : KCall X (.type "list") (kList X.K) := kcall_of call_list_of fun vs G M R H Q hv h hR => by
  match vs, h with
  | [.ref a], ⟨xs, h1, h2⟩ => exact ⟨a, xs, rfl, h1.elim (fun q => .inl (hv.lst q)) (fun q => .inr (hv.tup q)), fun p hp => hR _ G _ _ (hv.newM hp) (h2 p (hv.fr hp))⟩
def kMin2 : KC := fun vs G M R => match vs with
  | [.int i, .int j] => R (.int (min i j)) G M
  | _ => False
def kMax2 : KC := fun vs G M R => match vs with
  | [.int i, .int j] => R (.int (max i j)) G M
  | _ => False
theorem kc_min2 (hc : X.calm = true := by rfl) : KCall X (.builtin "min") kMin2 := kcall_of (call_min2 hc) fun vs G M R H Q hv h hR => by
  match vs, h with
  | [.int i, .int j], h =>
    refine ⟨i, j, rfl, ?_⟩
    have e : (if j < i then j else i) = min i j := by split <;> omega
    rw [e]
    exact hR _ G M H hv h
theorem kc_max2 (hc : X.calm = true := by rfl) : KCall X (.builtin "max") kMax2 := kcall_of (call_max2 hc) fun vs G M R H Q hv h hR => by
  match vs, h with
  | [.int i, .int j], h =>
    refine ⟨i, j, rfl, ?_⟩
    have e : (if j > i then j else i) = max i j := by split <;> omega
    rw [e]
    exact hR _ G M H hv h
def kInt : KC := fun vs G M R => match vs with
  | [.int i] => R (.int i) G M
  | [.bl k] => R (.int (if k then 1 else 0)) G M
  | _ => False
theorem kc_int : KCall X (.type "int") kInt := kcall_of call_int1 fun vs G M R H Q hv h hR => by
  match vs, h with
  | [.int i], h => exact .inl ⟨i, rfl, hR _ G M H hv h⟩
  | [.bl i], h => exact .inr ⟨i, rfl, hR _ G M H hv h⟩
/-- min(xs), max(xs) of ints -/
def kMinL (K : PySem.W.Frag) : KC := fun vs G M R => match vs with
  | [.ref a] => ∃ ns : List Int, LstAt K G M a (ns.map V.int) ∧ 0 < ns.length ∧ ∀ m, m ∈ ns → (∀ y, y ∈ ns → m ≤ y) → R (.int m) G M
  | _ => False
def kMaxL (K : PySem.W.Frag) : KC := fun vs G M R => match vs with
  | [.ref a] => ∃ ns : List Int, LstAt K G M a (ns.map V.int) ∧ 0 < ns.length ∧ ∀ m, m ∈ ns → (∀ y, y ∈ ns → y ≤ m) → R (.int m) G M
  | _ => False
theorem kc_minL (hc : X.calm = true := by rfl) : KCall X (.builtin "min") (kMinL X.K) := kcall_of (cr_min hc) fun vs G M R H Q hv h hR => by
  match vs, h with
  | [.ref a], ⟨ns, h1, h2, h3⟩ => exact ⟨a, ns, rfl, hv.lst h1, h2, fun m q1 q2 => hR _ G M H hv (h3 m q1 q2)⟩
theorem kc_maxL (hc : X.calm = true := by rfl) : KCall X (.builtin "max") (kMaxL X.K) := kcall_of (cr_max hc) fun vs G M R H Q hv h hR => by
  match vs, h with
  | [.ref a], ⟨ns, h1, h2, h3⟩ => exact ⟨a, ns, rfl, hv.lst h1, h2, fun m q1 q2 => hR _ G M H hv (h3 m q1 q2)⟩
def kAll (K : PySem.W.Frag) : KC := fun vs G M R => match vs with
  | [.ref a] => ∃ bs : List Bool, LstAt K G M a (bs.map V.bl) ∧ R (.bl (bs.all _root_.id)) G M
  | _ => False
theorem kc_all (hc : X.calm = true := by rfl) : KCall X (.builtin "all") (kAll X.K) := kcall_of (cr_all hc) fun vs G M R H Q hv h hR => by
  match vs, h with
  | [.ref a], ⟨ns, h1, h2⟩ => exact ⟨a, ns, rfl, hv.lst h1, hR _ G M H hv h2⟩
def kSum (K : PySem.W.Frag) : KC := fun vs G M R => match vs with
  | [.ref a] => ∃ ns : List Int, LstAt K G M a (ns.map V.int) ∧ R (.int ns.sum) G M
  | _ => False
theorem kc_sum (hc : X.calm = true := by rfl) : KCall X (.builtin "sum") (kSum X.K) := kcall_of (cr_sum hc) fun vs G M R H Q hv h hR => by
  match vs, h with
  | [.ref a], ⟨ns, h1, h2⟩ => exact ⟨a, ns, rfl, hv.lst h1, hR _ G M H hv h2⟩
/-- isinstance(x, c) -/
def kIsi (K : PySem.W.Frag) : KC := fun vs G M R => match vs with
  | [x, c] => ∃ (t u : Value) (b : Bool), ClsV c u ∧ (∀ H, Hv G M H → TyX K H x t) ∧ PySem.W.kitOne K t u = some b ∧ R (.bl b) G M
  | _ => False
theorem kc_isi : KCall X (.builtin "isinstance") (kIsi X.K) := kcall_of call_isi fun vs G M R H Q hv h hR => by
  match vs, h with
  | [x, c], ⟨t, u, b, h1, h2, h3, h4⟩ => exact ⟨x, c, t, u, b, rfl, h1, h2 H hv, h3, hR _ G M H hv h4⟩
/-! ### methods of built-in types -/
abbrev KM := V → List V → Hp → Mem → KR → Prop
def rUpM (k : KM) : V → List V → Hp → VK → Prop := fun x vs H Q => ∃ G M R, Hv G M H ∧ k x vs G M R ∧ ∀ v G' M' H', Hv G' M' H' → R v G' M' → Q v H'
def KMt (X : Cx) (id : String) (k : KM) : Prop := MtR X id (rUpM k)
theorem kmt_of {r : V → List V → Hp → VK → Prop} {k : KM} (h : MtR X id r)
    (s : ∀ x vs G M R H Q, Hv G M H → k x vs G M R → (∀ v G' M' H', Hv G' M' H' → R v G' M' → Q v H') → r x vs H Q) : KMt X id k :=
  fun pins st σ H x xs v us Q I rx rv ⟨G, M, R, hv, hk, hR⟩ => h pins st σ H x xs v us Q I rx rv (s x xs G M R H Q hv hk hR)
def kBM (K : PySem.W.Frag) (T : String) (k : KM) (to : KE) (t : KA) : KE := fun σ G M R E => to σ G M (fun x G M => (∀ H, Hv G M H → tyV K T x H) ∧ t σ G M (fun vs G M => k x vs G M R) E) E
def kBM0 (K : PySem.W.Frag) (T : String) (k : KM) (to : KE) : KE := fun σ G M R E => to σ G M (fun x G M => (∀ H, Hv G M H → tyV K T x H) ∧ k x [] G M R) E
variable {o : Expr} {name : Str} {apos cpos : Pos}
theorem je_bm {k : KM} {to : KE} {t : KA} (pa : PlainAttrs T) (slot : Slot T name id) (hty : typeOf (.builtin id) = pure (.type "method_descriptor")) (hm : KMt X id k) (ho : JE X W o to) (ha : JA X W (e :: es) t)
    (hbase : attributeBase o name X.env (eval o X.env) = eval o X.env := by rfl)
    (hfew : ((backTo cpos (starEach (e :: es) X.env)).all (fun x => !x.1) && (backToKw cpos (keywordEach [] X.env)).all (fun x => x.1.isSome)
      && decide ((e :: es).length + ([] : List Keyword).length + (if ([] : List Keyword).isEmpty then 0 else 1) < 30)) = true := by rfl)
    (hline : (apos.endLine == cpos.line) = true := by rfl) (hs : starEach (e :: es) X.env = (false, eval e X.env) :: starEach es X.env := by rfl) (hplain : (backTo cpos (starEach es X.env)).any (·.1) = false := by rfl) :
    JE X W (.Call (.Attribute o name apos) (e :: es) [] cpos) (kBM X.K T k to t) :=
  pe_mono (pe_bm pa slot hty hm ho ha hbase hfew hline hs hplain) fun σ H Q ⟨G, M, R, E, hv, h, hR, hE⟩ => ⟨G, M, _, E, hv, h, fun x G1 M1 H1 hv1 h1 => ⟨h1.1 H1 hv1, G1, M1, _, E, hv1, h1.2, fun vs G2 M2 H2 hv2 h2 => ⟨G2, M2, R, hv2, h2, hR⟩, hE⟩, hE⟩
theorem je_bm0 {k : KM} {to : KE} (pa : PlainAttrs T) (slot : Slot T name id) (hty : typeOf (.builtin id) = pure (.type "method_descriptor")) (hm : KMt X id k) (ho : JE X W o to)
    (hbase : attributeBase o name X.env (eval o X.env) = eval o X.env := by rfl) (hline : (apos.endLine == cpos.line) = true := by rfl) : JE X W (.Call (.Attribute o name apos) [] [] cpos) (kBM0 X.K T k to) :=
  pe_mono (pe_bm0 pa slot hty hm ho hbase hline) fun σ H Q ⟨G, M, R, E, hv, h, hR, hE⟩ => ⟨G, M, _, E, hv, h, fun x G1 M1 H1 hv1 h1 => ⟨h1.1 H1 hv1, G1, M1, R, hv1, h1.2, hR⟩, hE⟩
def kAppend : KM := fun x vs G M R => match x, vs with
  | .ref a, [y] => ∃ n xs, M[n]? = some (a, .lst xs) ∧ xs.length < sizeLine ∧ R .non G (M.set n (a, .lst (xs ++ [y])))
  | _, _ => False
theorem km_append : KMt X "list.append" kAppend := kmt_of mt_append fun x vs G M R H Q hv h hR => by
  match x, vs, h with
  | .ref a, [y], ⟨n, xs, h1, h2, h3⟩ => exact ⟨a, xs, y, rfl, rfl, hv.get h1, h2, hR _ G _ _ (hv.set h1) h3⟩
def kExtend : KM := fun x vs G M R => match x, vs with
  | .ref a, [.ref b] => ∃ n xs ys, M[n]? = some (a, .lst xs) ∧ At G M b (.lst ys) ∧ xs.length + ys.length ≤ sizeLine ∧ R .non G (M.set n (a, .lst (xs ++ ys)))
  | _, _ => False
theorem km_extend : KMt X "list.extend" kExtend := kmt_of mt_extend fun x vs G M R H Q hv h hR => by
  match x, vs, h with
  | .ref a, [.ref b], ⟨n, xs, ys, h1, h2, h3, h4⟩ => exact ⟨a, b, xs, ys, rfl, rfl, hv.get h1, hv.at h2, h3, hR _ G _ _ (hv.set h1) h4⟩
def kReverse : KM := fun x vs G M R => match x, vs with
  | .ref a, [] => ∃ n xs, M[n]? = some (a, .lst xs) ∧ R .non G (M.set n (a, .lst xs.reverse))
  | _, _ => False
theorem km_reverse : KMt X "list.reverse" kReverse := kmt_of mt_reverse fun x vs G M R H Q hv h hR => by
  match x, vs, h with
  | .ref a, [], ⟨n, xs, h1, h3⟩ => exact ⟨a, xs, rfl, rfl, hv.get h1, hR _ G _ _ (hv.set h1) h3⟩
end
/-! ### defs -/
abbrev KSp := List V → Hp → Mem → KR → KX → Prop
def lift (S : KSp) : Sp := fun vs H Q E => ∃ G M R X, Hv G M H ∧ S vs G M R X ∧ (∀ v G' M' H', Hv G' M' H' → R v G' M' → Q v H') ∧ (∀ c d G' M' H', Hv G' M' H' → X c d G' M' → E c d H')
def kCall (S : KSp) (t : KA) : KE := fun σ G M R E => t σ G M (fun vs G M => S vs G M R E) E
section
variable {X : Cx} {W : WX} {pos p : Pos} {e : Expr} {es : List Expr} {x : Str} {k : Nat} {f : Addr} {fd : FuncData} {ps : List Str} {S : KSp} {t : KA}
theorem je_call (F : FnOk X.prog X.w X.K X.mg X.base (L2.CX X.prog X.w) k f fd ps (lift S)) (hr : Room k X.A) (tk : Takes X W) (hm : X.mg x = some (.ref f)) (hk : PySem.W.keepIn X.K (.ref f) = true) (hb : Binds X.K fd ps []) (ha : JA X W (e :: es) t) (hg : Gl X x := by rfl)
    (hdb : (x == ("__debug__" : Str)) = false := by decide) (he : starEach (e :: es) X.env = (false, eval e X.env) :: starEach es X.env := by rfl) (hpl : (backTo pos (starEach es X.env)).any (·.1) = false := by rfl) :
    JE X W (.Call (.Name x p) (e :: es) [] pos) (kCall S t) :=
  pe_mono (pe_callS F hr hg hm hk hb (passAt tk) ha hdb he hpl) fun σ H Q ⟨G, M, R, E, hv, h, hR, hE⟩ =>
    ⟨G, M, _, E, hv, h, fun vs G1 M1 H1 hv1 h1 => ⟨G1, M1, R, E, hv1, h1, hR, hE⟩, hE⟩
end
end BT
set_option Elab.async false
set_option linter.all false
set_option maxRecDepth 100000
set_option maxHeartbeats 4000000
namespace BT
open PySem PySem.Spec L2
open PyProof.Rows hiding St
/-! ### statements -/
structure Kd where
  nx : St → Hp → Mem → Prop
  rt : KR
  bk : St → Hp → Mem → Prop := fun _ _ _ => False
  ct : St → Hp → Mem → Prop := fun _ _ _ => False
  xc : Value → Option Addr → St → Hp → Mem → Prop := fun _ _ _ _ _ => False
abbrev KS := Kd → St → Hp → Mem → Prop
structure EndsTo (W : WX) (d : Kd) (D : Ends) : Prop where
  nx : ∀ σ G M H, Hv G M H → d.nx σ G M → D.nx σ H
  rt : ∀ v G M H, Hv G M H → d.rt v G M → D.rt v H
  bk : ∀ σ G M H, Hv G M H → d.bk σ G M → D.bk σ H
  ct : ∀ σ G M H, Hv G M H → d.ct σ G M → D.ct σ H
  xc : ∀ c a σ G M H, Hv G M H → d.xc c a σ G M → W c a σ H
def upS (W : WX) (t : KS) : TS := fun D σ H => ∃ G M d, Hv G M H ∧ t d σ G M ∧ EndsTo W d D
def JS (X : Cx) (W : WX) (s : Stmt) (t : KS) : Prop := PS X s (upS W t)
def JSs (X : Cx) (W : WX) (s : List Stmt) (t : KS) : Prop := PSs X s (upS W t)
theorem ps_mono {X : Cx} {s : Stmt} {t t' : TS} (h : PS X s t) (i : ∀ D σ H, t' D σ H → t D σ H) : PS X s t' := ⟨fun pins st σ H D I q => h.run pins st σ H D I (i D σ H q)⟩
theorem pss_mono {X : Cx} {s : List Stmt} {t t' : TS} (h : PSs X s t) (i : ∀ D σ H, t' D σ H → t D σ H) : PSs X s t' := ⟨fun pins st σ H D I q => h.run pins st σ H D I (i D σ H q)⟩
def Kd.x (d : Kd) (σ : St) : KX := fun c a G M => d.xc c a σ G M
section
variable {X : Cx} {W : WX} {pos : Pos} {s : Stmt} {ss : List Stmt} {e : Expr} {t u : KS}
def kNext : KS := fun D σ G M => D.nx σ G M
def kSeq (t u : KS) : KS := fun D σ G M => ∃ G' M', Wk G M G' M' ∧ t { D with nx := u D } σ G' M'
def kNever : KS := fun _ _ _ _ => False
theorem jss_nil : JSs X W [] kNext := pss_mono pss_nil fun D σ H ⟨G, M, d, hv, h, en⟩ => en.nx σ G M H hv h
theorem jss_cons (h1 : JS X W s t) (h2 : JSs X W ss u) : JSs X W (s :: ss) (kSeq t u) := pss_mono (pss_cons h1 h2) fun D σ H ⟨G, M, d, hv, ⟨G', M', wk, h⟩, en⟩ =>
  ⟨G', M', _, wk H hv, h, ⟨fun σ' G2 M2 H2 hv2 q => ⟨G2, M2, d, hv2, q, en⟩, en.rt, en.bk, en.ct, en.xc⟩⟩
theorem js_never : JS X W s kNever := ps_mono ps_never fun D σ H ⟨G, M, d, hv, h, en⟩ => h
theorem js_pass : JS X W (.Pass pos) kNext := ps_mono ps_pass fun D σ H ⟨G, M, d, hv, h, en⟩ => en.nx σ G M H hv h
def kSet (i : Nat) (t : KE) : KS := fun D σ G M => t σ G M (fun v G M => D.nx (σ.set i (some v)) G M) (D.x σ)
theorem js_set {i : Nat} {x : Str} {t : KE} {pos' : Pos} (he : JE X W e t) (hN : X.N.Nodup) (hi : X.N[i]? = some x := by rfl) (hx : Loc X.env.scope x := by first | exact Or.inl rfl | exact Or.inr rfl)
    (hs : swapsWith e (some (.Name x pos')) pos.line X.env = pure false := by rfl) (hf : X.fn x = true ∨ X.env.scope.names.lookup x = some .local := by first | exact .inl rfl | exact .inr rfl | assumption) :
    JS X W (.Assign [.Name x pos'] e pos) (kSet i t) := ps_mono (ps_set hN hi hx he hs hf) fun D σ H ⟨G, M, d, hv, h, en⟩ =>
  ⟨G, M, _, _, hv, h, fun v G' M' H' hv' q => en.nx _ G' M' H' hv' q, fun c a G' M' H' hv' q => en.xc c a σ G' M' H' hv' q⟩
def kExpr (t : KE) : KS := fun D σ G M => t σ G M (fun _ G M => D.nx σ G M) (D.x σ)
theorem js_expr {t : KE} (he : JE X W e t) (hs : swapsWith e none pos.line X.env = pure false := by rfl) : JS X W (.Expr e pos) (kExpr t) := ps_mono (ps_expr he hs) fun D σ H ⟨G, M, d, hv, h, en⟩ =>
  ⟨G, M, _, _, hv, h, fun v G' M' H' hv' q => en.nx _ G' M' H' hv' q, fun c a G' M' H' hv' q => en.xc c a σ G' M' H' hv' q⟩
def kRet (t : KE) : KS := fun D σ G M => t σ G M D.rt (D.x σ)
theorem js_ret {t : KE} (he : JE X W e t) : JS X W (.Return (some e) pos) (kRet t) := ps_mono (ps_ret he) fun D σ H ⟨G, M, d, hv, h, en⟩ =>
  ⟨G, M, _, _, hv, h, fun v G' M' H' hv' q => en.rt _ G' M' H' hv' q, fun c a G' M' H' hv' q => en.xc c a σ G' M' H' hv' q⟩
def kRetN : KS := fun D σ G M => D.rt .non G M
theorem js_retN : JS X W (.Return none pos) kRetN := ps_mono ps_retN fun D σ H ⟨G, M, d, hv, h, en⟩ => en.rt _ G M H hv h
def kIf (c : KT) (t u : KS) : KS := fun D σ G M => c σ G M (fun b G M => if b = true then t D σ G M else u D σ G M) (D.x σ)
theorem js_if {c : Expr} {a b : List Stmt} {tc : KT} (hc : JT X W c tc) (ha : JSs X W a t) (hb : JSs X W b u) : JS X W (.If c a b pos) (kIf tc t u) := ps_mono (ps_if hc ha hb) fun D σ H ⟨G, M, d, hv, h, en⟩ =>
  ⟨G, M, _, _, hv, h, fun v G' M' H' hv' q => by
    cases v with
    | true => rw [if_pos rfl] at q ⊢; exact ⟨G', M', d, hv', q, en⟩
    | false => rw [if_neg Bool.false_ne_true] at q ⊢; exact ⟨G', M', d, hv', q, en⟩, fun c a G' M' H' hv' q => en.xc c a σ G' M' H' hv' q⟩
/-! ### targets -/
structure KG where
  val : V → St → Hp → Mem → (St → Hp → Mem → Prop) → Prop
  tup : List V → St → Hp → Mem → (St → Hp → Mem → Prop) → Prop
structure JG (X : Cx) (tg : Expr) (g : KG) (gr : TG) : Prop where
  pg : PG X tg gr
  val : ∀ v σ G M R H Q, Hv G M H → g.val v σ G M R → (∀ σ' G' M' H', Hv G' M' H' → R σ' G' M' → Q σ' H') → gr v σ H Q
  tup : ∀ T vs σ G M R H Q, Hv G M H → H T = none → g.tup vs σ G M R → (∀ σ' G' M' H', Hv G' M' H' → R σ' G' M' → Q σ' H') → gr (.ref T) σ (upd H T (.tup vs)) Q
def kgName (i : Nat) : KG := ⟨fun v σ G M R => R (σ.set i (some v)) G M, fun vs σ G M R => ∀ T, Fr G M T → R (σ.set i (some (.ref T))) (upd G T (.tup vs)) M⟩
theorem jg_name {i : Nat} {x : Str} (hN : X.N.Nodup) (hi : X.N[i]? = some x := by rfl) (hx : Loc X.env.scope x := by first | exact Or.inl rfl | exact Or.inr rfl) (hf : X.fn x = true ∨ X.env.scope.names.lookup x = some .local := by first | exact .inl rfl | exact .inr rfl | assumption) : JG X (.Name x pos) (kgName i) (gName i) :=
  ⟨pg_name hN hi hx hf, fun v σ G M R H Q hv h hR => hR _ G M H hv h, fun T vs σ G M R H Q hv hT h hR => hR _ _ M _ (hv.newG hT) (h T (hv.fr hT))⟩
/-- several targets at once -/
abbrev KGs := List V → St → Hp → Mem → (St → Hp → Mem → Prop) → Prop
def kgsNil : KGs := fun vs σ G M R => match vs with
  | [] => R σ G M
  | _ => False
def kgsCons (g : KG) (r : KGs) : KGs := fun vs σ G M R => match vs with
  | v :: vs => g.val v σ G M (fun σ G M => r vs σ G M R)
  | [] => False
structure JGs (X : Cx) (ts : List Expr) (g : KGs) (gr : TGs) : Prop where
  pgs : PGs X ts gr
  sim : ∀ vs σ G M R H Q, Hv G M H → g vs σ G M R → (∀ σ' G' M' H', Hv G' M' H' → R σ' G' M' → Q σ' H') → gr vs σ H Q
theorem jgs_nil : JGs X [] kgsNil gNil := ⟨pgs_nil, fun vs σ G M R H Q hv h hR => by
  match vs, h with
  | [], h => exact ⟨rfl, hR _ G M H hv h⟩⟩
theorem jgs_cons {tg : Expr} {ts : List Expr} {g : KG} {r : KGs} {gr : TG} {gs : TGs} (h1 : JG X tg g gr) (hr : JGs X ts r gs)
    (hs : (assignEach (tg :: ts) X.env).map (·.2) = assign tg X.env :: (assignEach ts X.env).map (·.2) := by rfl) : JGs X (tg :: ts) (kgsCons g r) (gCons gr gs) :=
  ⟨pgs_cons h1.pg hr.pgs hs, fun vs σ G M R H Q hv h hR => by
    match vs, h with
    | v :: vs, h => exact ⟨v, vs, rfl, h1.val v σ G M _ H _ hv h fun σ' G' M' H' hv' q => hr.sim vs σ' G' M' R H' Q hv' q hR⟩⟩
def onLen (n : Nat) (g : KGs) : KGs := fun vs σ G M R => match vs.length == n with
  | true => g vs σ G M R
  | false => False
theorem onLen_of {n : Nat} {g : KGs} {vs : List V} {σ : St} {G : Hp} {M : Mem} {R : St → Hp → Mem → Prop} (h : onLen n g vs σ G M R) : vs.length = n ∧ g vs σ G M R := by
  unfold onLen at h
  split at h
  · rename_i e; exact ⟨beq_iff_eq.mp e, h⟩
  · exact h.elim
def kgTup (K : PySem.W.Frag) (n : Nat) (g : KGs) : KG := ⟨fun v σ G M R => match v with
    | .ref a => ∃ xs, SqT K G a xs ∧ onLen n g xs σ G M R
    | _ => False, onLen n g⟩
theorem jg_tup {K : PySem.W.Frag} {ts : List Expr} {g : KGs} {gs : TGs} {n k : Nat} (hc : X.calm = true) (h : JGs X ts g gs) (hK : X.K = K := by rfl) (hn : (assignEach ts X.env).length = n := by rfl) (hst : (assignEach ts X.env).findIdx? (·.1) = none := by rfl) :
    JG X (.Tuple ts k pos) (kgTup K n g) (gTup K n gs) := by
  subst hK
  exact ⟨pg_tup hc h.pgs hn hst, fun v σ G M R H Q hv q hR => by
    match v, q with
    | .ref a, ⟨xs, q1, q2⟩ =>
      obtain ⟨e, q3⟩ := onLen_of q2
      exact ⟨a, xs, rfl, hv.tup q1, e, h.sim xs σ G M R H Q hv q3 hR⟩,
   fun T vs σ G M R H Q hv hT q hR => by
    obtain ⟨e, q3⟩ := onLen_of q
    exact ⟨T, vs, rfl, .inl (.inl upd_same), e, h.sim vs σ G M R _ Q (hv.junk hT) q3 hR⟩⟩
/-- nothing is raised -/
def W0 : WX := fun _ _ _ _ => False
/-- a place of a list as a target -/
def setL (o i v : V) (G : Hp) (M : Mem) (R : Hp → Mem → Prop) : Prop := match o, i with
  | .ref a, .int k => ∃ n xs j, M[n]? = some (a, .lst xs) ∧ ixN xs.length k = some j ∧ R G (M.set n (a, .lst (xs.set j v)))
  | _, _ => False
def kgIx (to ti : KE) : KG := ⟨fun v σ G M R => to σ G M (fun o G M => ti σ G M (fun i G M => setL o i v G M (fun G M => R σ G M)) (fun _ _ _ _ => False)) (fun _ _ _ _ => False), fun _ _ _ _ _ => False⟩
theorem jg_ix {o i : Expr} {to ti : KE} (ho : JE X W0 o to) (hi : JE X W0 i ti)
    (ha : ∀ v, assign (.Subscript o i pos) X.env v = (do
      let ov ← holding [v] (eval o X.env)
      let iv ← holding [v, ov] (eval i X.env)
      standAt pos
      holding [v, ov, iv] (setItem ov iv v)
      release [v, ov, iv] []) := by intro _; rfl) : JG X (.Subscript o i pos) (kgIx to ti) (gSub (upG W0 to) (upG W0 ti) rSetL) :=
  ⟨pg_sub ho hi set_list ha, fun v σ G M R H Q hv q hR => ⟨G, M, _, _, hv, q, fun ov G2 M2 H2 hv2 q2 => ⟨G2, M2, _, _, hv2, q2, fun iv G3 M3 H3 hv3 q3 => by
    match ov, iv, q3 with
    | .ref a, .int k, ⟨n, xs, j, e1, e2, q⟩ => exact ⟨a, xs, k, j, rfl, rfl, hv3.get e1, e2, hR σ G3 _ _ (hv3.set e1) q⟩, fun _ _ _ _ _ _ z => z.elim⟩, fun _ _ _ _ _ _ z => z.elim⟩,
   fun _ _ _ _ _ _ _ _ _ _ z => z.elim⟩
/-- a target of an assignment -/
def kAsg (t : KE) (g : KG) : KS := fun D σ G M => t σ G M (fun v G M => g.val v σ G M D.nx) (D.x σ)
theorem js_asg {tg : Expr} {t : KE} {g : KG} {gr : TG} (he : JE X W e t) (hg : JG X tg g gr) (hs : swapsWithSole [tg] e pos.line X.env = pure false := by rfl) (hw : swappedStores [tg] e X.env = pure none := by rfl)
    (h1 : (assignEach [tg] X.env).map (·.2) = [assign tg X.env] := by rfl) : JS X W (.Assign [tg] e pos) (kAsg t g) := ps_mono (ps_asg he hg.pg hs hw h1) fun D σ H ⟨G, M, d, hv, h, en⟩ =>
  ⟨G, M, _, _, hv, h, fun v G' M' H' hv' q => hg.val v σ G' M' _ H' _ hv' q fun σ' G2 M2 H2 hv2 q2 => en.nx _ G2 M2 H2 hv2 q2, fun c a G' M' H' hv' q => en.xc c a σ G' M' H' hv' q⟩
end
end BT
set_option Elab.async false
set_option linter.all false
set_option maxRecDepth 100000
set_option maxHeartbeats 4000000
namespace BT
open PySem PySem.Spec L2
open PyProof.Rows hiding St
/-! ### what is walked -/
structure Src where
  n : Nat
  get : Nat → V ⊕ List V
  ok : Hp → Mem → Prop
abbrev KI := KK Src
/-- an iterator that gives what the source says -/
structure Goes (src : Src) (J : It) : Prop where
  go : ∀ i G M H, Hv G M H → src.ok G M → i < src.n → J.go i H
  stop : ∀ i G M H, Hv G M H → src.ok G M → src.n ≤ i → J.stop i H
  yld : ∀ i G M H x H', Hv G M H → src.ok G M → i < src.n → J.yld i H x H' → match src.get i with
    | .inl v => x = v ∧ H' = H
    | .inr vs => ∃ T, x = .ref T ∧ H T = none ∧ H' = upd H T (.tup vs)
def upI (W : WX) (t : KI) : TI := fun σ H Q => ∃ G M R E, Hv G M H ∧ t σ G M R E ∧ (∀ src G' M' H', Hv G' M' H' → R src G' M' → ∀ J, Goes src J → Q J H') ∧ (∀ c d G' M' H', Hv G' M' H' → E c d G' M' → W c d σ H')
def JI (X : Cx) (W : WX) (tg it : Expr) (t : KI) : Prop := PI X tg it (upI W t)
theorem pi_mono {X : Cx} {tg it : Expr} {t t' : TI} (h : PI X tg it t) (i : ∀ σ H Q, t' σ H Q → t σ H Q) : PI X tg it t' := ⟨fun pins s σ H Q I q => h.run pins s σ H Q I (i σ H Q q)⟩
def srcL (K : PySem.W.Frag) (a : Addr) (xs : List V) : Src := ⟨xs.length, fun i => .inl (xs.getD i .non), fun G M => LstAt K G M a xs⟩
def srcT (K : PySem.W.Frag) (a : Addr) (xs : List V) : Src := ⟨xs.length, fun i => .inl (xs.getD i .non), fun G M => SqT K G a xs⟩
def srcR (lo : Int) (n : Nat) : Src := ⟨n, fun i => .inl (.int (lo + i)), fun _ _ => True⟩
def srcC (lo c : Int) (n : Nat) : Src := ⟨n, fun i => .inl (.int (lo + (i : Nat) * c)), fun _ _ => True⟩
def srcE (K : PySem.W.Frag) (a : Addr) (xs : List V) : Src := ⟨xs.length, fun i => .inr [.int i, xs.getD i .non], fun G M => LstAt K G M a xs⟩
def srcZ (K : PySem.W.Frag) (a b : Addr) (xs ys : List V) : Src := ⟨min xs.length ys.length, fun i => .inr [xs.getD i .non, ys.getD i .non], fun G M => LstAt K G M a xs ∧ LstAt K G M b ys⟩
def srcV (K : PySem.W.Frag) (a : Addr) (xs : List V) : Src := ⟨xs.length, fun i => .inl (xs.getD (xs.length - 1 - i) .non), fun G M => LstAt K G M a xs⟩
theorem getD_of {xs : List V} {i : Nat} {x : V} (h : xs[i]? = some x) : xs.getD i .non = x := by
  rw [List.getD_eq_getElem?_getD, h]; rfl
theorem get_lt {xs : List V} {i : Nat} (h : i < xs.length) : xs[i]? = some (xs.getD i .non) := by
  rw [List.getD_eq_getElem?_getD, List.getElem?_eq_getElem h]; rfl
theorem goes_L {K : PySem.W.Frag} {a : Addr} {xs : List V} : Goes (srcL K a xs) (Itl K a) where
  go := fun i G M H hv ok hi => ⟨xs, _, hv.lst ok, get_lt hi⟩
  stop := fun i G M H hv ok hi => ⟨xs, hv.lst ok, hi⟩
  yld := fun i G M H x H' hv ok hi y => ⟨(getD_of (y.2 xs (hv.lst ok))).symm, y.1⟩
theorem goes_T {K : PySem.W.Frag} {a : Addr} {xs : List V} : Goes (srcT K a xs) (Itt K a) where
  go := fun i G M H hv ok hi => ⟨xs, _, hv.tup ok, get_lt hi⟩
  stop := fun i G M H hv ok hi => ⟨xs, hv.tup ok, hi⟩
  yld := fun i G M H x H' hv ok hi y => ⟨(getD_of (y.2 xs (hv.tup ok))).symm, y.1⟩
theorem goes_R {lo : Int} {n : Nat} : Goes (srcR lo n) (Itr lo n) where
  go := fun i G M H hv ok hi => hi
  stop := fun i G M H hv ok hi => hi
  yld := fun i G M H x H' hv ok hi y => ⟨y.2, y.1⟩
theorem goes_C {lo c : Int} {n : Nat} : Goes (srcC lo c n) (Itc lo c n) where
  go := fun i G M H hv ok hi => hi
  stop := fun i G M H hv ok hi => hi
  yld := fun i G M H x H' hv ok hi y => ⟨y.2, y.1⟩
theorem goes_E {K : PySem.W.Frag} {a : Addr} {xs : List V} : Goes (srcE K a xs) (Ite K a) where
  go := fun i G M H hv ok hi => ⟨xs, _, hv.lst ok, get_lt hi⟩
  stop := fun i G M H hv ok hi => ⟨xs, hv.lst ok, hi⟩
  yld := fun i G M H x H' hv ok hi y => by
    obtain ⟨T, z, e1, e2, e3, e4⟩ := y
    have e5 := getD_of (e4 xs (hv.lst ok))
    exact ⟨T, e1, e2, by rw [e3, ← e5]⟩
theorem goes_Z {K : PySem.W.Frag} {a b : Addr} {xs ys : List V} : Goes (srcZ K a b xs ys) (Itz K a b) where
  go := fun i G M H hv ok hi => ⟨xs, ys, _, _, hv.lst ok.1, hv.lst ok.2, get_lt (Nat.lt_of_lt_of_le hi (Nat.min_le_left _ _)), get_lt (Nat.lt_of_lt_of_le hi (Nat.min_le_right _ _))⟩
  stop := fun i G M H hv ok hi => ⟨xs, ys, hv.lst ok.1, hv.lst ok.2, by
    have hi : min xs.length ys.length ≤ i := hi
    omega⟩
  yld := fun i G M H x H' hv ok hi y => by
    obtain ⟨T, z, w, e1, e2, e3, e4, e5⟩ := y
    have e6 := getD_of (e4 xs (hv.lst ok.1))
    have e7 := getD_of (e5 ys (hv.lst ok.2))
    exact ⟨T, e1, e2, by rw [e3, ← e6, ← e7]⟩
theorem goes_V {K : PySem.W.Frag} {a : Addr} {xs : List V} : Goes (srcV K a xs) (Itv K a xs.length) where
  go := fun i G M H hv ok hi => ⟨hi, xs, _, hv.lst ok, get_lt (by have hi : i < xs.length := hi; omega)⟩
  stop := fun i G M H hv ok hi => hi
  yld := fun i G M H x H' hv ok hi y => ⟨(getD_of (y.2 xs (hv.lst ok))).symm, y.1⟩
section
variable {X : Cx} {W : WX} {pos p tpos : Pos} {e e2 a b c : Expr} {es : List Expr} {tg : Expr}
def kiSeq (K : PySem.W.Frag) (t : KE) : KI := fun σ G M R E => t σ G M (fun x G M => match x with
  | .ref a => ∃ xs, LstAt K G M a xs ∧ R (srcL K a xs) G M
  | _ => False) E
def kiTup (K : PySem.W.Frag) (t : KE) : KI := fun σ G M R E => t σ G M (fun x G M => match x with
  | .ref a => ∃ xs, SqT K G a xs ∧ R (srcT K a xs) G M
  | _ => False) E
theorem ji_list {t : KE} (h : JE X W e t) : JI X W tg e (kiSeq X.K t) := pi_mono (pi_list h) fun σ H Q ⟨G, M, R, E, hv, h, hR, hE⟩ => ⟨G, M, _, E, hv, h, fun x G1 M1 H1 hv1 q => by
    match x, q with
    | .ref a, ⟨xs, q1, q2⟩ => exact ⟨a, rfl, ⟨xs, hv1.lst q1⟩, hR _ G1 M1 H1 hv1 q2 _ goes_L⟩, hE⟩
theorem ji_tup {t : KE} (h : JE X W e t) : JI X W tg e (kiTup X.K t) := pi_mono (pi_tup h) fun σ H Q ⟨G, M, R, E, hv, h, hR, hE⟩ => ⟨G, M, _, E, hv, h, fun x G1 M1 H1 hv1 q => by
    match x, q with
    | .ref a, ⟨xs, q1, q2⟩ => exact ⟨a, rfl, ⟨xs, hv1.tup q1⟩, hR _ G1 M1 H1 hv1 q2 _ goes_T⟩, hE⟩
/-- range(n), range(a, b), range(a, b, c) -/
def kiR1 (t : KA) : KI := fun σ G M R E => t σ G M (fun vs G M => match vs with
  | [.int j] => (-(2 ^ 62) ≤ j ∧ j < 2 ^ 62) ∧ R (srcR 0 j.toNat) G M
  | _ => False) E
def kiR2 (t : KA) : KI := fun σ G M R E => t σ G M (fun vs G M => match vs with
  | [.int i, .int j] => (-(2 ^ 62) ≤ i ∧ i < 2 ^ 62 ∧ -(2 ^ 62) ≤ j ∧ j < 2 ^ 62) ∧ R (srcR i (j - i).toNat) G M
  | _ => False) E
def kiR3 (t : KA) : KI := fun σ G M R E => t σ G M (fun vs G M => match vs with
  | [.int i, .int j, .int c] => ∃ n, RgC i j c n ∧ R (srcC i c n) G M
  | _ => False) E
theorem ji_range1 {t : KA} (hm : X.mg "range" = none) (ha : JA X W [a] t) (hg : Gl X "range" := by rfl) (hs : starEach [a] X.env = [(false, eval a X.env)] := by rfl) : JI X W tg (.Call (.Name "range" p) [a] [] pos) (kiR1 t) :=
  pi_mono (pi_range1 hg hm ha hs) fun σ H Q ⟨G, M, R, E, hv, h, hR, hE⟩ => ⟨G, M, _, E, hv, h, fun vs G1 M1 H1 hv1 q => by
    match vs, q with
    | [.int j], ⟨⟨q1, q2⟩, q3⟩ => exact ⟨j, rfl, q1, q2, hR _ G1 M1 H1 hv1 q3 _ goes_R⟩, hE⟩
theorem ji_range2 {t : KA} (hm : X.mg "range" = none) (ha : JA X W [a, b] t) (hg : Gl X "range" := by rfl) (hs : starEach [a, b] X.env = [(false, eval a X.env), (false, eval b X.env)] := by rfl) (hs2 : starEach [b] X.env = [(false, eval b X.env)] := by rfl) : JI X W tg (.Call (.Name "range" p) [a, b] [] pos) (kiR2 t) :=
  pi_mono (pi_range2 hg hm ha hs hs2) fun σ H Q ⟨G, M, R, E, hv, h, hR, hE⟩ => ⟨G, M, _, E, hv, h, fun vs G1 M1 H1 hv1 q => by
    match vs, q with
    | [.int i, .int j], ⟨q1, q3⟩ => exact ⟨i, j, rfl, q1, hR _ G1 M1 H1 hv1 q3 _ goes_R⟩, hE⟩
theorem ji_range3 {t : KA} (hm : X.mg "range" = none) (ha : JA X W [a, b, c] t) (hg : Gl X "range" := by rfl) (hs : starEach [a, b, c] X.env = (false, eval a X.env) :: starEach [b, c] X.env := by rfl) (hpl : (backTo pos (starEach [b, c] X.env)).any (·.1) = false := by rfl) : JI X W tg (.Call (.Name "range" p) [a, b, c] [] pos) (kiR3 t) :=
  pi_mono (pi_range3 hg hm ha hs hpl) fun σ H Q ⟨G, M, R, E, hv, h, hR, hE⟩ => ⟨G, M, _, E, hv, h, fun vs G1 M1 H1 hv1 q => by
    match vs, q with
    | [.int i, .int j, .int c], ⟨n, q1, q3⟩ => exact ⟨i, j, c, n, rfl, q1, hR _ G1 M1 H1 hv1 q3 _ goes_C⟩, hE⟩
def kiEnum (K : PySem.W.Frag) (t : KA) : KI := fun σ G M R E => t σ G M (fun vs G M => match vs with
  | [.ref a] => ∃ xs, LstAt K G M a xs ∧ R (srcE K a xs) G M
  | _ => False) E
def kiRev (K : PySem.W.Frag) (t : KA) : KI := fun σ G M R E => t σ G M (fun vs G M => match vs with
  | [.ref a] => ∃ xs, LstAt K G M a xs ∧ R (srcV K a xs) G M
  | _ => False) E
def kiZip (K : PySem.W.Frag) (t : KA) : KI := fun σ G M R E => t σ G M (fun vs G M => match vs with
  | [.ref a, .ref b] => ∃ xs ys, LstAt K G M a xs ∧ LstAt K G M b ys ∧ R (srcZ K a b xs ys) G M
  | _ => False) E
variable {elts : List Expr} {kk : Nat}
theorem ji_enum {t : KA} (hm : X.mg "enumerate" = none) (ha : JA X W [e] t) (hg : Gl X "enumerate" := by rfl) (hs : starEach [e] X.env = [(false, eval e X.env)] := by rfl) : JI X W (.Tuple elts kk tpos) (.Call (.Name "enumerate" p) [e] [] pos) (kiEnum X.K t) :=
  pi_mono (pi_enum hg hm ha hs) fun σ H Q ⟨G, M, R, E, hv, h, hR, hE⟩ => ⟨G, M, _, E, hv, h, fun vs G1 M1 H1 hv1 q => by
    match vs, q with
    | [.ref a], ⟨xs, q1, q3⟩ => exact ⟨a, xs, rfl, hv1.lst q1, hR _ G1 M1 H1 hv1 q3 _ goes_E⟩, hE⟩
theorem ji_rev {t : KA} (hm : X.mg "reversed" = none) (ha : JA X W [e] t) (hg : Gl X "reversed" := by rfl) (hs : starEach [e] X.env = [(false, eval e X.env)] := by rfl) : JI X W tg (.Call (.Name "reversed" p) [e] [] pos) (kiRev X.K t) :=
  pi_mono (pi_reversed hg hm ha hs) fun σ H Q ⟨G, M, R, E, hv, h, hR, hE⟩ => ⟨G, M, _, E, hv, h, fun vs G1 M1 H1 hv1 q => by
    match vs, q with
    | [.ref a], ⟨xs, q1, q3⟩ => exact ⟨a, xs, rfl, hv1.lst q1, hR _ G1 M1 H1 hv1 q3 _ goes_V⟩, hE⟩
theorem ji_zip {t : KA} (hm : X.mg "zip" = none) (ha : JA X W [e, e2] t) (hg : Gl X "zip" := by rfl) (hs : starEach [e, e2] X.env = (false, eval e X.env) :: starEach [e2] X.env := by rfl) (hpl : (backTo pos (starEach [e2] X.env)).any (·.1) = false := by rfl) :
    JI X W (.Tuple elts kk tpos) (.Call (.Name "zip" p) [e, e2] [] pos) (kiZip X.K t) :=
  pi_mono (pi_zip hg hm ha hs hpl) fun σ H Q ⟨G, M, R, E, hv, h, hR, hE⟩ => ⟨G, M, _, E, hv, h, fun vs G1 M1 H1 hv1 q => by
    match vs, q with
    | [.ref a, .ref b], ⟨xs, ys, q1, q2, q3⟩ => exact ⟨a, b, xs, ys, rfl, hv1.lst q1, hv1.lst q2, hR _ G1 M1 H1 hv1 q3 _ goes_Z⟩, hE⟩
/-! ### for -/
def asg (g : KG) (w : V ⊕ List V) : St → Hp → Mem → (St → Hp → Mem → Prop) → Prop := match w with
  | .inl v => g.val v
  | .inr vs => g.tup vs
def wk1 (Pv : St → Hp → Mem → Prop) : St → Hp → Mem → Prop := fun σ G M => ∃ G' M', Wk G M G' M' ∧ Pv σ G' M'
def kFor (ti : KI) (g : KG) (tb : KS) : KS := fun D σ G M => ti σ G M (fun src G M => ∃ Pv : Nat → St → Hp → Mem → Prop, Pv 0 σ G M ∧ (∀ i σ G M, i ≤ src.n → Pv i σ G M → src.ok G M) ∧
  (∀ i σ G M, i < src.n → Pv i σ G M → asg g (src.get i) σ G M (fun σ G M => tb { D with nx := wk1 (Pv (i + 1)), ct := wk1 (Pv (i + 1)), bk := D.nx } σ G M)) ∧ (∀ σ G M, Pv src.n σ G M → D.nx σ G M)) (D.x σ)
theorem asg_sim {g : KG} {gr : TG} (hg : JG X tg g gr) {w : V ⊕ List V} {σ : St} {G : Hp} {M : Mem} {R : St → Hp → Mem → Prop} {H H' : Hp} {x : V} {Q : St → Hp → Prop} (hv : Hv G M H)
    (y : match w with | .inl v => x = v ∧ H' = H | .inr vs => ∃ T, x = .ref T ∧ H T = none ∧ H' = upd H T (.tup vs)) (h : asg g w σ G M R) (hR : ∀ σ' G' M' H', Hv G' M' H' → R σ' G' M' → Q σ' H') : gr x σ H' Q := by
  cases w with
  | inl v =>
    obtain ⟨rfl, rfl⟩ := y
    exact hg.val _ σ G M R _ Q hv h hR
  | inr vs =>
    obtain ⟨T, rfl, hT, rfl⟩ := y
    exact hg.tup T vs σ G M R H Q hv hT h hR
theorem js_for {it : Expr} {body : List Stmt} {ti : KI} {g : KG} {gr : TG} {tb : KS} (hp : PassesOwn (model X.prog X.w) X.A X.env X.xe) (hc : X.calm = true) (hi : JI X W tg it ti) (hg : JG X tg g gr) (hb : JSs X W body tb)
    (hs : ∀ x, foldedSetIterable it X.env x = pure x := by intro _; rfl) : JS X W (.For tg it body [] pos) (kFor ti g tb) := ps_mono (ps_for hp hc hi hg.pg hb hs) fun D σ H ⟨G, M, d, hv, h, en⟩ => by
  refine ⟨G, M, _, _, hv, h, fun src G1 M1 H1 hv1 q J go => ?_, fun c a G' M' H' hv' q => en.xc c a σ G' M' H' hv' q⟩
  obtain ⟨Pv, p0, pok, pst, pend⟩ := q
  refine ⟨fun i m σ H => m = src.n - i ∧ i ≤ src.n ∧ ∃ G M, Hv G M H ∧ Pv i σ G M, ⟨src.n, by simp, Nat.zero_le _, G1, M1, hv1, p0⟩, ?_⟩
  rintro i m σ2 H2 ⟨rfl, hi2, G2, M2, hv2, p2⟩
  have ok := pok i σ2 G2 M2 hi2 p2
  by_cases hlt : i < src.n
  · refine .inr ⟨go.go i G2 M2 H2 hv2 ok hlt, fun σ' H' => ∃ G M, Hv G M H' ∧ Pv (i + 1) σ' G M, fun σ' H' ⟨G3, M3, hv3, p3⟩ => ⟨src.n - (i + 1), by omega, rfl, hlt, G3, M3, hv3, p3⟩, fun x H' y => ?_⟩
    refine asg_sim hg hv2 (go.yld i G2 M2 H2 x H' hv2 ok hlt y) (pst i σ2 G2 M2 hlt p2) fun σ3 G3 M3 H3 hv3 q3 => ?_
    have e1 : ∀ σ G M H, Hv G M H → wk1 (Pv (i + 1)) σ G M → ∃ G M, Hv G M H ∧ Pv (i + 1) σ G M := fun σ G M H hv ⟨G', M', wk, q⟩ => ⟨G', M', wk H hv, q⟩
    exact ⟨G3, M3, _, hv3, q3, ⟨e1, en.rt, en.nx, e1, en.xc⟩⟩
  · have e : i = src.n := by omega
    subst e
    exact .inl ⟨go.stop _ G2 M2 H2 hv2 ok (Nat.le_refl _), en.nx _ G2 M2 H2 hv2 (pend σ2 G2 M2 p2)⟩
/-! ### while -/
def kWhile (c : KT) (tb : KS) : KS := fun D σ G M => ∃ Pv : Nat → St → Hp → Mem → Prop, (∃ m, Pv m σ G M) ∧ ∀ m σ G M, Pv m σ G M →
  c σ G M (fun b G M => if b = true then tb { D with nx := fun σ G M => ∃ m', m' < m ∧ wk1 (Pv m') σ G M, ct := fun σ G M => ∃ m', m' < m ∧ wk1 (Pv m') σ G M, bk := D.nx } σ G M else D.nx σ G M) (D.x σ)
theorem js_while {c : Expr} {body : List Stmt} {tc : KT} {tb : KS} (hp : PassesOwn (model X.prog X.w) X.A X.env X.xe) (hc : JT X W c tc) (hb : JSs X W body tb) : JS X W (.While c body [] pos) (kWhile tc tb) := ps_mono (ps_while hp hc hb) fun D σ H ⟨G, M, d, hv, ⟨Pv, ⟨m0, p0⟩, st⟩, en⟩ => by
  refine ⟨fun m σ H => ∃ G M, Hv G M H ∧ Pv m σ G M, ⟨m0, G, M, hv, p0⟩, ?_⟩
  rintro m σ1 H1 ⟨G1, M1, hv1, p1⟩
  refine ⟨G1, M1, _, _, hv1, st m σ1 G1 M1 p1, fun b G2 M2 H2 hv2 q2 => ?_, fun c a G' M' H' hv' q => en.xc c a σ1 G' M' H' hv' q⟩
  cases b with
  | true =>
    rw [if_pos rfl] at q2 ⊢
    refine ⟨fun σ' H' => ∃ m', m' < m ∧ ∃ G M, Hv G M H' ∧ Pv m' σ' G M, fun σ' H' h => h, ?_⟩
    have e1 : ∀ σ G M H, Hv G M H → (∃ m', m' < m ∧ wk1 (Pv m') σ G M) → ∃ m', m' < m ∧ ∃ G M, Hv G M H ∧ Pv m' σ G M := fun σ G M H hv ⟨m', l, G', M', wk, q⟩ => ⟨m', l, G', M', wk H hv, q⟩
    exact ⟨G2, M2, _, hv2, q2, ⟨e1, en.rt, en.nx, e1, en.xc⟩⟩
  | false =>
    rw [if_neg Bool.false_ne_true] at q2 ⊢
    exact en.nx _ G2 M2 H2 hv2 q2
/-! ### list comprehensions -/
def E0 : KX := fun _ _ _ _ => False
def kYes : KT := fun _ G M R _ => R true G M
def JTs (X : Cx) (W : WX) (es : List Expr) (t : KT) : Prop := PTs X es (upG W t)
theorem jts_nil : JTs X W [] kYes := ⟨fun pins s σ H Q I ⟨G, M, R, E, hv, h, hR, _⟩ => pts_nil.run pins s σ H Q I (hR _ G M H hv h)⟩
theorem jts_one {t : KT} (h : JT X W c t) : JTs X W [c] t := pts_one h
def kComp (ti : KI) (g : KG) (tt : KT) (te : KE) (own : List Nat) : KE := fun σ G M R E => ti σ G M (fun src G M => src.n ≤ sizeLine ∧ ∃ Pv : Nat → List V → Hp → Mem → Prop, Pv 0 [] G M ∧ (∀ i acc G M, i ≤ src.n → Pv i acc G M → src.ok G M) ∧
  (∀ i acc G M D, i < src.n → acc.length ≤ i → Pv i acc G M → Fr G M D → asg g (src.get i) (wipe σ own) G ((D, .lst acc) :: M) (fun σ2 G M => wipe σ2 own = wipe σ own ∧ tt σ2 G M (fun b G M =>
    if b = true then te σ2 G M (fun y G M => ∃ G' M', Wk G M G' ((D, .lst acc) :: M') ∧ Pv (i + 1) (acc ++ [y]) G' M') E0 else ∃ G' M', Wk G M G' ((D, .lst acc) :: M') ∧ Pv (i + 1) acc G' M') E0)) ∧
  (∀ acc G M p, Pv src.n acc G M → acc.length ≤ src.n → Fr G M p → R (.ref p) G ((p, .lst acc) :: M))) E
theorem comp_sim {K : PySem.W.Frag} {ti : KI} {g : KG} {gr : TG} {tt : KT} {te : KE} {own : List Nat} {σ : St} {H : Hp} {Q : VK}
    (hgv : ∀ v σ G M R H Q, Hv G M H → g.val v σ G M R → (∀ σ' G' M' H', Hv G' M' H' → R σ' G' M' → Q σ' H') → gr v σ H Q)
    (hgt : ∀ T vs σ G M R H Q, Hv G M H → H T = none → g.tup vs σ G M R → (∀ σ' G' M' H', Hv G' M' H' → R σ' G' M' → Q σ' H') → gr (.ref T) σ (upd H T (.tup vs)) Q)
    (h : upG W (kComp ti g tt te own) σ H Q) : tLc (upI W ti) gr (upG W0 tt) (upG W0 te) own σ H Q := by
  obtain ⟨G, M, R, E, hv, h, hR, hE⟩ := h
  refine ⟨G, M, _, E, hv, h, fun src G1 M1 H1 hv1 q J go => ?_, hE⟩
  obtain ⟨hn, Pv, p0, pok, pst, pend⟩ := q
  intro D hD
  refine ⟨fun i m H => m = src.n - i ∧ i ≤ src.n ∧ ∃ acc G M, acc.length ≤ i ∧ Hv G ((D, .lst acc) :: M) H ∧ Pv i acc G M, ⟨src.n, by simp, Nat.zero_le _, [], G1, M1, Nat.le_refl _, hv1.newM hD, p0⟩, ?_⟩
  rintro i m H2 ⟨rfl, hi2, acc, G2, M2, hacc, hv2, p2⟩
  have hv2' : Hv G2 M2 H2 := Wk.drop0 H2 hv2
  have ok := pok i acc G2 M2 hi2 p2
  have fD : Fr G2 M2 D := by
    refine ⟨hv2.dj (D, .lst acc) List.mem_cons_self, fun x hx e => ?_⟩
    have nd := hv2.nd
    rw [List.map_cons, List.nodup_cons] at nd
    exact nd.1 (by rw [← e]; exact List.mem_map.mpr ⟨x, hx, rfl⟩)
  by_cases hlt : i < src.n
  · refine .inr ⟨go.go i G2 M2 H2 hv2' ok hlt, fun H' => ∃ acc G M, acc.length ≤ i + 1 ∧ Hv G ((D, .lst acc) :: M) H' ∧ Pv (i + 1) acc G M, fun H' ⟨acc', G3, M3, l3, hv3, p3⟩ => ⟨src.n - (i + 1), by omega, rfl, hlt, acc', G3, M3, l3, hv3, p3⟩, fun x H' y => ?_⟩
    have step := pst i acc G2 M2 D hlt hacc p2 fD
    have yy := go.yld i G2 M2 H2 x H' hv2' ok hlt y
    have fin : ∀ σ3 G3 M3 H3, Hv G3 M3 H3 → (wipe σ3 own = wipe σ own ∧ tt σ3 G3 M3 (fun b G M =>
        if b = true then te σ3 G M (fun y G M => ∃ G' M', Wk G M G' ((D, .lst acc) :: M') ∧ Pv (i + 1) (acc ++ [y]) G' M') E0 else ∃ G' M', Wk G M G' ((D, .lst acc) :: M') ∧ Pv (i + 1) acc G' M') E0) →
        (wipe σ3 own = wipe σ own ∧ upG W0 tt σ3 H3 fun b H3 => if b = true then upG W0 te σ3 H3 fun y H4 => ∃ acc, H4 D = some (.lst acc) ∧ acc.length < sizeLine ∧ (∃ acc' G M, acc'.length ≤ i + 1 ∧ Hv G ((D, .lst acc') :: M) (upd H4 D (.lst (acc ++ [y]))) ∧ Pv (i + 1) acc' G M) else ∃ acc' G M, acc'.length ≤ i + 1 ∧ Hv G ((D, .lst acc') :: M) H3 ∧ Pv (i + 1) acc' G M) := by
      rintro σ3 G3 M3 H3 hv3 ⟨ew, q3⟩
      refine ⟨ew, G3, M3, _, _, hv3, q3, fun b G4 M4 H4 hv4 q4 => ?_, fun _ _ _ _ _ _ z => z.elim⟩
      cases b with
      | true =>
        rw [if_pos rfl] at q4 ⊢
        refine ⟨G4, M4, _, _, hv4, q4, fun y G5 M5 H5 hv5 ⟨G6, M6, wk, p6⟩ => ?_, fun _ _ _ _ _ _ z => z.elim⟩
        have hv6 := wk H5 hv5
        refine ⟨acc, hv6.mu (D, .lst acc) List.mem_cons_self, by omega, acc ++ [y], G6, M6, by rw [List.length_append]; exact Nat.succ_le_succ hacc, ?_, p6⟩
        exact hv6.set (n := 0) (o' := .lst (acc ++ [y])) rfl
      | false =>
        rw [if_neg Bool.false_ne_true] at q4 ⊢
        obtain ⟨G6, M6, wk, p6⟩ := q4
        exact ⟨acc, G6, M6, by omega, wk H4 hv4, p6⟩
    revert yy step
    cases src.get i with
    | inl v =>
      rintro step ⟨rfl, rfl⟩
      exact hgv _ _ G2 _ _ _ _ hv2 step fin
    | inr vs =>
      rintro step ⟨T, rfl, hT, rfl⟩
      exact hgt T vs _ G2 _ _ _ _ hv2 hT step fin
  · have e : i = src.n := by omega
    subst e
    exact .inl ⟨go.stop _ G2 M2 H2 hv2' ok (Nat.le_refl _), hR _ _ _ _ hv2 (pend acc G2 M2 D p2 hacc fD)⟩
variable {elt it : Expr} {ifs : List Expr} {scope : Scope} {own : List (Str × Nat)} {spos py : Pos}
theorem je_comp {ti : KI} {g : KG} {gr : TG} {tt : KT} {te : KE} (hc : X.calm = true) (hN : X.N.Nodup) (hi : JI X W tg it ti) (ok : BlkOk X.N X.env.scope scope own)
    (hg : ∀ (s : Shared) (H : Hp) (C : Addr) (cl : List (Str × Addr)) (fp : List Addr), JG (X.blk s H scope (compEnvC scope cl C X.env) fp) tg g gr) (ht : ∀ (s : Shared) (H : Hp) (C : Addr) (cl : List (Str × Addr)) (fp : List Addr), JTs (X.blk s H scope (compEnvC scope cl C X.env) fp) W0 ifs tt)
    (he : ∀ (s : Shared) (H : Hp) (C : Addr) (cl : List (Str × Addr)) (fp : List Addr), JE (X.blk s H scope (compEnvC scope cl C X.env) fp) W0 elt te) (hs : ∀ x, foldedSetIterable it X.env x = pure x := by intro _; rfl) :
    JE X W (.ListComp elt [⟨tg, it, ifs, 0⟩] scope pos) (kComp ti g tt te (own.map (·.2))) :=
  pe_mono (pe_lc hc hN hi ok (fun s H C cl fp => (hg s H C cl fp).pg) ht he hs) fun σ H Q h =>
    comp_sim (K := X.K) (fun v σ G M R H Q hv => ((hg X.s_0 H 0 [] []).val v σ G M R H Q hv)) (fun T vs σ G M R H Q hv => ((hg X.s_0 H 0 [] []).tup T vs σ G M R H Q hv)) h
theorem js_setComp {i : Nat} {y : Str} {ti : KI} {g : KG} {gr : TG} {tt : KT} {te : KE} (hc : X.calm = true) (hN : X.N.Nodup) (hsw : swapsWith (.ListComp elt [⟨tg, it, ifs, 0⟩] scope pos) (some (.Name y py)) spos.line X.env = pure true) (hi : JI X W tg it ti) (ok : BlkOk X.N X.env.scope scope own)
    (hg : ∀ (s : Shared) (H : Hp) (C : Addr) (cl : List (Str × Addr)) (fp : List Addr), JG (X.blk s H scope (compEnvC scope cl C X.env) fp) tg g gr) (ht : ∀ (s : Shared) (H : Hp) (C : Addr) (cl : List (Str × Addr)) (fp : List Addr), JTs (X.blk s H scope (compEnvC scope cl C X.env) fp) W0 ifs tt)
    (he : ∀ (s : Shared) (H : Hp) (C : Addr) (cl : List (Str × Addr)) (fp : List Addr), JE (X.blk s H scope (compEnvC scope cl C X.env) fp) W0 elt te) (hy : X.N[i]? = some y := by rfl) (hyl : X.env.scope.names.lookup y = some .local := by rfl) (hs : ∀ x, foldedSetIterable it X.env x = pure x := by intro _; rfl) :
    JS X W (.Assign [.Name y py] (.ListComp elt [⟨tg, it, ifs, 0⟩] scope pos) spos) (kSet i (kComp ti g tt te (own.map (·.2)))) :=
  ps_mono (ps_setLc hc hN hy hyl hsw hi ok (fun s H C cl fp => (hg s H C cl fp).pg) ht he hs) fun D σ H ⟨G, M, d, hv, h, en⟩ =>
    comp_sim (K := X.K) (fun v σ G M R H Q hv => ((hg X.s_0 H 0 [] []).val v σ G M R H Q hv)) (fun T vs σ G M R H Q hv => ((hg X.s_0 H 0 [] []).tup T vs σ G M R H Q hv))
      ⟨G, M, _, _, hv, h, fun v G' M' H' hv' q => en.nx _ G' M' H' hv' q, fun c a G' M' H' hv' q => en.xc c a σ G' M' H' hv' q⟩
end
/-! ### a def -/
/-- what is known may be weakened at the end -/
def wkR (R : KR) : KR := fun v G M => ∀ H, Hv G M H → ∃ G' M', Hv G' M' H ∧ R v G' M'
def wkX (Z : KX) : KX := fun c d G M => ∃ G' M', Wk G M G' M' ∧ Z c d G' M'
theorem ret0 {R : KR} {v : V} {G : Hp} {M : Mem} (h : R v G M) : wkR R v G M := fun _ hv => ⟨G, M, hv, h⟩
theorem retW {R : KR} {v : V} {G G' : Hp} {M M' : Mem} (w : Wk G M G' M') (h : R v G' M') : wkR R v G M := fun H hv => ⟨G', M', w H hv, h⟩
theorem wkR_wk {R : KR} {v : V} {G G' : Hp} {M M' : Mem} (w : Wk G M G' M') (h : wkR R v G' M') : wkR R v G M := fun H hv => h H (w H hv)
section
variable {P : Program} {w : World} {K : PySem.W.Frag} {mg : Str → Option Value} {base : Heap}
theorem fn_ok {x qual : Str} {st : Stmt} {f : Addr} {fd : FuncData} {N ps : List Str} {k : Nat} {S : KSp} (F : Fun K x qual st f fd) (sc : FnScope N ps (defScope st)) (len : ∀ vs G M R X, S vs G M R X → vs.length = ps.length)
    (hbody : ∀ (cdv : Value) (A : Around) (outer : List Env) (s : Shared) (H : Hp) (E : XK), Room k (A.deeper (envOfC qual (defScope st) s.heap.objs.size f cdv)) →
      ∃ t, JSs (cxOf (L2.CX P w) P w K mg base N qual (defScope st) f cdv A outer s H E) (fun c d _ H => E c d H) (defBody st) t ∧
        ∀ vs G M R Z, S vs G M R Z → t { nx := fun _ G M => wkR R .non G M, rt := wkR R, xc := fun c d _ G M => wkX Z c d G M } (start N vs) G M) : FnOk P w K mg base (L2.CX P w) (k + 1) f fd ps (lift S) := by
  refine F.okX sc (fun vs H Q E ⟨G, M, R, Z, _, h, _⟩ => len vs G M R Z h) fun cdv A outer s H vs Q E hr ⟨G, M, R, Z, hv, h, hR, hZ⟩ => ?_
  obtain ⟨t, j, q⟩ := hbody cdv A outer s H E hr
  exact ⟨_, j, G, M, _, hv, q vs G M R Z h, ⟨fun σ G M H hv h => (h H hv).elim fun G' h => h.elim fun M' h => hR _ G' M' H h.1 h.2, fun v G M H hv h => (h H hv).elim fun G' h => h.elim fun M' h => hR _ G' M' H h.1 h.2, fun _ _ _ _ _ z => z.elim, fun _ _ _ _ _ z => z.elim, fun c a σ G M H hv ⟨G', M', w, q⟩ => hZ c a G' M' H (w H hv) q⟩⟩
/-- a def that keeps its promise -/
structure Def (P : Program) (w : World) (K : PySem.W.Frag) (mg : Str → Option Value) (base : Heap) (lev : Nat) (x : Str) (ps : List Str) (S : KSp) : Prop where
  ex : ∃ f fd, FnOk P w K mg base (L2.CX P w) lev f fd ps (lift S) ∧ mg x = some (.ref f) ∧ PySem.W.keepIn K (.ref f) = true ∧ Binds K fd ps []
end
section
variable {X : Cx} {W : WX} {pos p : Pos} {e : Expr} {es : List Expr} {x : Str} {k lev : Nat} {ps : List Str} {S : KSp} {t : KA}
theorem je_callD (D : Def X.prog X.w X.K X.mg X.base lev x ps S) (hr : Room k X.A) (tk : Takes X W) (ha : JA X W (e :: es) t) (hl : lev ≤ k := by decide) (hg : Gl X x := by rfl)
    (hdb : (x == ("__debug__" : Str)) = false := by decide) (he : starEach (e :: es) X.env = (false, eval e X.env) :: starEach es X.env := by rfl) (hpl : (backTo pos (starEach es X.env)).any (·.1) = false := by rfl) :
    JE X W (.Call (.Name x p) (e :: es) [] pos) (kCall S t) := by
  obtain ⟨f, fd, F, hm, hk, hb⟩ := D.ex
  exact je_call (F.mono hl) hr tk hm hk hb ha hg hdb he hpl
end
end BT
set_option Elab.async false
set_option linter.all false
set_option maxRecDepth 100000
set_option maxHeartbeats 4000000
namespace BT
open PySem PySem.Spec L2
open PyProof.Rows hiding St
/-! ### promises by the number of arguments -/
def sp1 (f : V → Hp → Mem → KR → KX → Prop) : KSp := fun vs G M R Z => match vs with
  | [x] => f x G M R Z
  | _ => False
def sp2 (f : V → V → Hp → Mem → KR → KX → Prop) : KSp := fun vs G M R Z => match vs with
  | [x, y] => f x y G M R Z
  | _ => False
def sp3 (f : V → V → V → Hp → Mem → KR → KX → Prop) : KSp := fun vs G M R Z => match vs with
  | [x, y, z] => f x y z G M R Z
  | _ => False
def sp4 (f : V → V → V → V → Hp → Mem → KR → KX → Prop) : KSp := fun vs G M R Z => match vs with
  | [x, y, z, u] => f x y z u G M R Z
  | _ => False
def sp5 (f : V → V → V → V → V → Hp → Mem → KR → KX → Prop) : KSp := fun vs G M R Z => match vs with
  | [x, y, z, u, t] => f x y z u t G M R Z
  | _ => False
section
variable {vs : List V} {G : Hp} {M : Mem} {R : KR} {Z : KX}
theorem sp1_of {f} (h : sp1 f vs G M R Z) : ∃ x, vs = [x] ∧ f x G M R Z := by
  match vs, h with
  | [x], h => exact ⟨x, rfl, h⟩
theorem sp2_of {f} (h : sp2 f vs G M R Z) : ∃ x y, vs = [x, y] ∧ f x y G M R Z := by
  match vs, h with
  | [x, y], h => exact ⟨x, y, rfl, h⟩
theorem sp3_of {f} (h : sp3 f vs G M R Z) : ∃ x y z, vs = [x, y, z] ∧ f x y z G M R Z := by
  match vs, h with
  | [x, y, z], h => exact ⟨x, y, z, rfl, h⟩
theorem sp4_of {f} (h : sp4 f vs G M R Z) : ∃ x y z u, vs = [x, y, z, u] ∧ f x y z u G M R Z := by
  match vs, h with
  | [x, y, z, u], h => exact ⟨x, y, z, u, rfl, h⟩
theorem sp5_of {f} (h : sp5 f vs G M R Z) : ∃ x y z u t, vs = [x, y, z, u, t] ∧ f x y z u t G M R Z := by
  match vs, h with
  | [x, y, z, u, t], h => exact ⟨x, y, z, u, t, rfl, h⟩
theorem sp_len1 {f} (h : sp1 f vs G M R Z) : vs.length = 1 := by obtain ⟨_, rfl, _⟩ := sp1_of h; rfl
theorem sp_len2 {f} (h : sp2 f vs G M R Z) : vs.length = 2 := by obtain ⟨_, _, rfl, _⟩ := sp2_of h; rfl
theorem sp_len3 {f} (h : sp3 f vs G M R Z) : vs.length = 3 := by obtain ⟨_, _, _, rfl, _⟩ := sp3_of h; rfl
theorem sp_len4 {f} (h : sp4 f vs G M R Z) : vs.length = 4 := by obtain ⟨_, _, _, _, rfl, _⟩ := sp4_of h; rfl
theorem sp_len5 {f} (h : sp5 f vs G M R Z) : vs.length = 5 := by obtain ⟨_, _, _, _, _, rfl, _⟩ := sp5_of h; rfl
end
/-- what a body has at its ends -/
abbrev ends (R : KR) (Z : KX) : Kd := { nx := fun _ G M => wkR R .non G M, rt := wkR R, xc := fun c d _ G M => wkX Z c d G M }
/-! ### small helps -/
section
variable {K : PySem.W.Frag} {G : Hp} {M : Mem} {a p : Addr} {xs : List V} {o : HO} {n : Nat}
theorem lst_n (h : M[n]? = some (a, .lst xs)) : SeqAt' K G M a xs := .inl (.inl (List.mem_of_getElem? h))
theorem lat_n (h : M[n]? = some (a, .lst xs)) : LstAt K G M a xs := .inl (List.mem_of_getElem? h)
theorem lst_g (h : SqL K G a xs) : SeqAt' K G M a xs := .inl (.inr h)
theorem lat_g (h : SqL K G a xs) : LstAt K G M a xs := .inr h
theorem tup_g (h : SqT K G a xs) : SeqAt' K G M a xs := .inr h
theorem at_n (h : M[n]? = some (a, o)) : At G M a o := .inl (List.mem_of_getElem? h)
theorem set_n {x : Addr × HO} (h : M[n]? = some (p, o)) : (M.set n x)[n]? = some x := List.getElem?_set_self (List.getElem?_eq_some_iff.mp h).1
theorem sqt_new {xs : List V} : SqT K (upd G p (.tup xs)) p xs := .inl (.inl upd_same)
theorem sql_new {xs : List V} : SqL K (upd G p (.lst xs)) p xs := .inl (.inl upd_same)
theorem ite2' {c : Bool} {A B : Prop} (h1 : c = true → A) (h2 : c = false → B) : if c = true then A else B := by
  cases c with
  | true => rw [if_pos rfl]; exact h1 rfl
  | false => rw [if_neg Bool.false_ne_true]; exact h2 rfl
theorem sz {n : Nat} (h : n ≤ 16777216) : n ≤ sizeLine := h
theorem tyl_n (h : M[n]? = some (a, .lst xs)) : ∀ H, Hv G M H → tyV K "list" (.ref a) H := fun H hv => .inl ⟨rfl, xs, .inl (.inl (hv.get h))⟩
theorem tyl_g (h : SqL K G a xs) : ∀ H, Hv G M H → tyV K "list" (.ref a) H := fun H hv => .inl ⟨rfl, xs, ex_l hv.exx h⟩
end
/-! ### the law's pool of numbers -/
def pool (c s : Int) : HO := .lst [.int c, .int s]
def PoolOk (s : Int) : Prop := 0 ≤ s ∧ s < 2147483647
def S_law_take (K : PySem.W.Frag) : KSp := sp2 fun x y G M R Z => ∃ (p : Addr) (m : Int) (n : Nat) (c s : Int), x = .ref p ∧ y = .int m ∧ M[n]? = some (p, pool c s) ∧ PoolOk s ∧ 0 < m ∧ m < 2 ^ 200 ∧
  ∀ r c' s', 0 ≤ r → r < m → PoolOk s' → R (.int r) G (M.set n (p, pool c' s'))
def S_law_pool (K : PySem.W.Frag) : KSp := sp2 fun x y G M R Z => ∃ (a : Addr) (ns : List Int) (k : Int), x = .ref a ∧ y = .int k ∧ SqL K G a (ns.map V.int) ∧ 0 ≤ k ∧ k ≤ 100 ∧ ns.length ≤ 63 ∧
  ∀ p c s, Fr G M p → PoolOk s → R (.ref p) G ((p, pool c s) :: M)
end BT
set_option Elab.async false
set_option linter.all false
set_option maxRecDepth 100000
set_option maxHeartbeats 4000000
namespace BT
open PySem PySem.Spec L2
open PyProof.Rows hiding St
/-! ### shapes of data -/
inductive Shp : Nat → PyData → Prop
  | non {n} : Shp n .none
  | bl {n b} : Shp n (.bool b)
  | int {n i} : Shp n (.int i)
  | str {n x} : PyData.strOk x = true → Shp n (.str x)
  | list {n ds} : (∀ d, d ∈ ds → Shp n d) → Shp (n + 1) (.list ds)
  | tuple {n ds} : (∀ d, d ∈ ds → Shp n d) → Shp (n + 1) (.tuple ds)
theorem shp_all {n : Nat} (ih : ∀ d, Shp n d → d.canLay0 = true ∧ d.depth ≤ n) : ∀ ds : List PyData, (∀ d, d ∈ ds → Shp n d) → PyData.canLayAll0 ds = true ∧ PyData.depthAll ds ≤ n
  | [], _ => by
    refine ⟨by simp [PyData.canLayAll0], by simp [PyData.depthAll]⟩
  | d :: ds, h => by
    obtain ⟨a, b⟩ := ih d (h d List.mem_cons_self)
    obtain ⟨c, e⟩ := shp_all ih ds fun x hx => h x (List.mem_cons_of_mem _ hx)
    refine ⟨by simp [PyData.canLayAll0, a, c], ?_⟩
    show max d.depth (PyData.depthAll ds) ≤ n
    omega
theorem shp_of : ∀ (n : Nat) (d : PyData), Shp n d → d.canLay0 = true ∧ d.depth ≤ n
  | n, _, .non => by refine ⟨by simp [PyData.canLay0], by simp [PyData.depth]⟩
  | n, _, .bl => by refine ⟨by simp [PyData.canLay0], by simp [PyData.depth]⟩
  | n, _, .int => by refine ⟨by simp [PyData.canLay0], by simp [PyData.depth]⟩
  | n, _, .str h => by refine ⟨by simp [PyData.canLay0, h], by simp [PyData.depth]⟩
  | n + 1, .list ds, .list h => by
    obtain ⟨a, b⟩ := shp_all (shp_of n) ds h
    refine ⟨by simp [PyData.canLay0, a], ?_⟩
    show PyData.depthAll ds + 1 ≤ n + 1
    omega
  | n + 1, .tuple ds, .tuple h => by
    obtain ⟨a, b⟩ := shp_all (shp_of n) ds h
    refine ⟨by simp [PyData.canLay0, a], ?_⟩
    show PyData.depthAll ds + 1 ≤ n + 1
    omega
theorem Shp.shaped {n : Nat} {d : PyData} (h : Shp n d) (hn : n ≤ 64) : SeqAt.shaped d = true := by
  obtain ⟨a, b⟩ := shp_of n d h
  unfold SeqAt.shaped
  rw [a, decide_eq_true (Nat.le_trans b hn)]; rfl
theorem Shp.refl {n : Nat} {d : PyData} (h : Shp n d) : PyData.eqv d d = true := by
  obtain ⟨a, b⟩ := shp_of n d h
  exact SeqAt.eqv_refl d a
theorem shp_ints {n : Nat} (ns : List Int) : Shp (n + 1) (.list (ns.map .int)) := .list fun d hd => by
  obtain ⟨i, _, rfl⟩ := List.mem_map.mp hd
  exact .int
/-! ### data known -/
section
variable {K : PySem.W.Frag} {G G' : Hp} {M : Mem} {a : Addr} {v : V} {d : PyData} {vs : List V} {ds : List PyData}
def DatAll (K : PySem.W.Frag) (G : Hp) (M : Mem) (vs : List V) (ds : List PyData) : Prop := ∀ H, Hv G M H → DpAll K H vs ds
theorem dat_g (h : Dp K G v d) : DatAt K G M v d := fun H hv => ex_d hv.exx d h
theorem dats_g (h : DpAll K G vs ds) : DatAll K G M vs ds := fun H hv => ex_ds hv.exx ds h
theorem dat_list (h : LstAt K G M a vs) (hs : DatAll K G M vs ds) : DatAt K G M (.ref a) (.list ds) := fun H hv => .lst (hv.lst h) (hs H hv)
theorem dat_tup (h : SqT K G a vs) (hs : DatAll K G M vs ds) : DatAt K G M (.ref a) (.tuple ds) := fun H hv => .tup (hv.tup h) (hs H hv)
theorem dat_int {i : Int} : DatAt K G M (.int i) (.int i) := fun H hv => .int i
theorem dat_bl {i : Bool} : DatAt K G M (.bl i) (.bool i) := fun H hv => .bl i
theorem dat_non : DatAt K G M .non .none := fun H hv => .non
theorem dat_str {i : Str} : DatAt K G M (.str i) (.str i) := fun H hv => .str i
theorem dats_nil : DatAll K G M [] [] := fun H hv => .nil
theorem dats_cons (h : DatAt K G M v d) (hs : DatAll K G M vs ds) : DatAll K G M (v :: vs) (d :: ds) := fun H hv => .cons (h H hv) (hs H hv)
theorem dpall_ints : ∀ ns : List Int, DpAll K G (ns.map V.int) (ns.map PyData.int)
  | [] => .nil
  | n :: ns => .cons (.int n) (dpall_ints ns)
theorem dats_ints {ns : List Int} : DatAll K G M (ns.map V.int) (ns.map PyData.int) := fun H hv => dpall_ints ns
theorem dat_ints {ns : List Int} (h : LstAt K G M a (ns.map V.int)) : DatAt K G M (.ref a) (.list (ns.map .int)) := dat_list h dats_ints
theorem dp_ints {ns : List Int} (h : SqL K G a (ns.map V.int)) : Dp K G (.ref a) (.list (ns.map .int)) := .lst h (dpall_ints ns)
theorem dpall_snoc : ∀ {vs : List V} {ds : List PyData}, DpAll K G vs ds → Dp K G v d → DpAll K G (vs ++ [v]) (ds ++ [d])
  | _, _, .nil, h => .cons h .nil
  | _, _, .cons a b, h => .cons a (dpall_snoc b h)
theorem dpall_len : ∀ {vs : List V} {ds : List PyData}, DpAll K G vs ds → vs.length = ds.length
  | _, _, .nil => rfl
  | _, _, .cons _ b => by simp [dpall_len b]
theorem dpall_get : ∀ {vs : List V} {ds : List PyData} {i : Nat} {d : PyData}, DpAll K G vs ds → ds[i]? = some d → ∃ v, vs[i]? = some v ∧ Dp K G v d
  | _, _, _, _, .nil, e => by simp at e
  | _, _, 0, _, .cons a _, e => by
    rw [List.getElem?_cons_zero] at e
    cases e; exact ⟨_, rfl, a⟩
  | _, _, i + 1, d, .cons _ b, e => by
    obtain ⟨v, h1, h2⟩ := dpall_get (i := i) (d := d) b (by simpa using e)
    exact ⟨v, by simpa using h1, h2⟩
theorem dpall_get' : ∀ {vs : List V} {ds : List PyData} {i : Nat} {v : V}, DpAll K G vs ds → vs[i]? = some v → ∃ d, ds[i]? = some d ∧ Dp K G v d
  | _, _, _, _, .nil, e => by simp at e
  | _, _, 0, _, .cons a _, e => by
    rw [List.getElem?_cons_zero] at e
    cases e; exact ⟨_, rfl, a⟩
  | _, _, i + 1, d, .cons _ b, e => by
    obtain ⟨v, h1, h2⟩ := dpall_get' (i := i) (v := d) b (by simpa using e)
    exact ⟨v, by simpa using h1, h2⟩
theorem dpall_one {x : V} {i : PyData} (h : DpAll K G [x] [i]) : Dp K G x i := by
  cases h with
  | cons a b => exact a
theorem dp_int_inv {i : Int} (h : Dp K G v (.int i)) : v = .int i := by cases h; rfl
theorem dp_tup_inv (h : Dp K G v (.tuple ds)) : ∃ t xs, v = .ref t ∧ SqT K G t xs ∧ DpAll K G xs ds := by
  cases h with
  | tup s a => exact ⟨_, _, rfl, s, a⟩
theorem dp_list_inv (h : Dp K G v (.list ds)) : ∃ t xs, v = .ref t ∧ SqL K G t xs ∧ DpAll K G xs ds := by
  cases h with
  | lst s a => exact ⟨_, _, rfl, s, a⟩
theorem dpall_ints_inv : ∀ {vs : List V} {ns : List Int}, DpAll K G vs (ns.map .int) → vs = ns.map V.int
  | _, [], h => by cases h; rfl
  | _, n :: ns, h => by
    cases h with
    | cons a b =>
      have e := dp_int_inv a
      subst e
      rw [dpall_ints_inv b]; rfl
end
/-! ### pairs of ints -/
def prD (p : Int × Int) : PyData := .tuple [.int p.1, .int p.2]
theorem dp_pr_inv {K : PySem.W.Frag} {G : Hp} {v : V} {p : Int × Int} (h : Dp K G v (prD p)) : ∃ t, v = .ref t ∧ SqT K G t [.int p.1, .int p.2] := by
  obtain ⟨t, xs, rfl, s, a⟩ := dp_tup_inv h
  have e : xs = [V.int p.1, V.int p.2] := dpall_ints_inv (ns := [p.1, p.2]) a
  rw [e] at s
  exact ⟨t, rfl, s⟩
theorem dp_pr {K : PySem.W.Frag} {G : Hp} {t : Addr} {a b : Int} (h : SqT K G t [.int a, .int b]) : Dp K G (.ref t) (prD (a, b)) := .tup h (.cons (.int a) (.cons (.int b) .nil))
theorem shp_prs {n : Nat} (ps : List (Int × Int)) : Shp (n + 2) (.list (ps.map prD)) := .list fun d hd => by
  obtain ⟨p, _, rfl⟩ := List.mem_map.mp hd
  refine .tuple fun d hd => ?_
  rcases List.mem_cons.mp hd with rfl | hd
  · exact .int
  · rcases List.mem_cons.mp hd with rfl | hd
    · exact .int
    · cases hd
/-! ### lists of ints by place -/
section
theorem atI_int {ns : List Int} {k : Int} (h0 : 0 ≤ k) (h1 : k < ns.length) : atI (ns.map V.int) k = some (.int (ns.getD k.toNat 0)) := by
  obtain ⟨j, rfl⟩ : ∃ j : Nat, k = j := ⟨k.toNat, by omega⟩
  have hj : j < ns.length := by omega
  refine atI_nat ?_
  rw [List.getElem?_map, List.getElem?_eq_getElem hj, Int.toNat_natCast, List.getD_eq_getElem?_getD, List.getElem?_eq_getElem hj]; rfl
theorem ixN_int {n : Nat} {k : Int} (h0 : 0 ≤ k) (h1 : k < n) : ixN n k = some k.toNat := by
  unfold ixN
  rw [if_pos h0, if_pos h1]
theorem map_set_int {ns : List Int} {j : Nat} {i : Int} : (ns.map V.int).set j (.int i) = (ns.set j i).map V.int := by rw [List.map_set]
theorem lat_cons {K : PySem.W.Frag} {G : Hp} {M : Mem} {a : Addr} {xs : List V} {x : Addr × HO} (h : LstAt K G M a xs) : LstAt K G (x :: M) a xs := by
  rcases h with h | h
  · exact .inl (List.mem_cons_of_mem _ h)
  · exact .inr h
theorem lat_ex {K : PySem.W.Frag} {G G' : Hp} {M : Mem} {a : Addr} {xs : List V} (e : Ex G G') (h : LstAt K G M a xs) : LstAt K G' M a xs := by
  rcases h with h | h
  · exact .inl h
  · exact .inr (ex_l e h)
theorem lat_0 {K : PySem.W.Frag} {G : Hp} {M : Mem} {a : Addr} {xs : List V} : LstAt K G ((a, .lst xs) :: M) a xs := .inl List.mem_cons_self
theorem seq_0 {K : PySem.W.Frag} {G : Hp} {M : Mem} {a : Addr} {xs : List V} : SeqAt' K G ((a, .lst xs) :: M) a xs := .inl lat_0
theorem isi_list {K : PySem.W.Frag} {G : Hp} {M : Mem} {a : Addr} {xs : List V} {R : KR} {n : Nat} (h : M[n]? = some (a, .lst xs)) (q : R (.bl true) G M) : kIsi K [.ref a, .ty "list"] G M R :=
  ⟨.type "list", .type "list", true, .ty "list", fun H hv => .base (.lst (hv.get h)), kit_ty (by decide +kernel), q⟩
theorem mul_l {i j : Int} (h0 : -(2 ^ 64) < i) (h1 : i < 2 ^ 64) : MulOk i j := .inl (.inl ⟨h0, h1⟩)
theorem mul_r {i j : Int} (h0 : -(2 ^ 64) < j) (h1 : j < 2 ^ 64) : MulOk i j := .inl (.inr ⟨h0, h1⟩)
theorem divW {m : Int} (h0 : 0 < m) (h1 : m < 2 ^ 200) (c : Int) : CDivW c m := wide_div (b := 200) h0 (by omega) (by decide) (by decide)
theorem sz0 : (0 : Nat) ≤ sizeLine := by decide
theorem sz1 : (1 : Nat) ≤ sizeLine := by decide
theorem sz2 : (2 : Nat) ≤ sizeLine := by decide
theorem sz3 : (3 : Nat) ≤ sizeLine := by decide
theorem sz4 : (4 : Nat) ≤ sizeLine := by decide
theorem sz5 : (5 : Nat) ≤ sizeLine := by decide
theorem sz6 : (6 : Nat) ≤ sizeLine := by decide
theorem sz7 : (7 : Nat) ≤ sizeLine := by decide
theorem sz8 : (8 : Nat) ≤ sizeLine := by decide
theorem pow10_18 : CPow 10 18 := ⟨by decide, by decide, by decide⟩
end
end BT
namespace BT
open PySem PySem.Spec L2
section
variable {K : PySem.W.Frag} {G : Hp} {M : Mem} {a b : Addr} {vs ws : List V} {i : Nat} {v u : V} {g : KG} {σ : St} {R : St → Hp → Mem → Prop}
theorem asg_L (h : vs[i]? = some v) (q : g.val v σ G M R) : asg g ((srcL K a vs).get i) σ G M R := by
  show g.val (vs.getD i .non) σ G M R
  rw [getD_of h]; exact q
theorem asg_T (h : vs[i]? = some v) (q : g.val v σ G M R) : asg g ((srcT K a vs).get i) σ G M R := by
  show g.val (vs.getD i .non) σ G M R
  rw [getD_of h]; exact q
theorem asg_V (h : vs[vs.length - 1 - i]? = some v) (q : g.val v σ G M R) : asg g ((srcV K a vs).get i) σ G M R := by
  show g.val (vs.getD (vs.length - 1 - i) .non) σ G M R
  rw [getD_of h]; exact q
theorem asg_E (h : vs[i]? = some v) (q : g.tup [.int i, v] σ G M R) : asg g ((srcE K a vs).get i) σ G M R := by
  show g.tup [.int i, vs.getD i .non] σ G M R
  rw [getD_of h]; exact q
theorem asg_Z (h : vs[i]? = some v) (h2 : ws[i]? = some u) (q : g.tup [v, u] σ G M R) : asg g ((srcZ K a b vs ws).get i) σ G M R := by
  show g.tup [vs.getD i .non, ws.getD i .non] σ G M R
  rw [getD_of h, getD_of h2]; exact q
theorem dpall_at {ds : List PyData} {d : PyData} (h : DpAll K G vs ds) (e : ds[i]? = some d) : ∃ v, vs[i]? = some v ∧ Dp K G v d := dpall_get h e
end
end BT
namespace BT
open PySem PySem.Spec L2
/-- a cell becomes frozen -/
theorem frz {G : Hp} {M : Mem} {p : Addr} (o : HO) (h : Fr G M p) : ∃ G', Ex G G' ∧ G' p = some o ∧ Wk G ((p, o) :: M) G' M ∧ ∀ q M0, Fr G M0 q → q ≠ p → Fr G' M0 q :=
  ⟨upd G p o, Ex.new h, upd_same, Wk.frz0, fun q M0 f hq => ⟨by rw [upd_ne hq]; exact f.1, f.2⟩⟩
theorem Wk.nil' {G : Hp} {M : Mem} : Wk G M G [] := fun H h => ⟨h.ex, fun _ z => (nomatch z), List.nodup_nil, fun _ z => (nomatch z)⟩
theorem sql_of {K : PySem.W.Frag} {G : Hp} {a : Addr} {xs : List V} (h : G a = some (.lst xs)) : SqL K G a xs := .inl (.inl h)
theorem sqt_of {K : PySem.W.Frag} {G : Hp} {a : Addr} {xs : List V} (h : G a = some (.tup xs)) : SqT K G a xs := .inl (.inl h)
theorem Fr.cons {G : Hp} {M : Mem} {p : Addr} {x : Addr × HO} (h : Fr G (x :: M) p) : Fr G M p := ⟨h.1, fun y hy => h.2 y (List.mem_cons_of_mem _ hy)⟩
end BT
set_option Elab.async false
set_option linter.all false
set_option maxRecDepth 100000
set_option maxHeartbeats 4000000
namespace BT
open PySem PySem.Spec L2
open PyProof.Rows hiding St
/-- the slots at a body's start -/
def sta (n : Nat) (vs : List V) : St := vs.map some ++ List.replicate (n - vs.length) none
/-! ### ranges with a step -/
theorem rg_up {i j c : Int} (hc : 0 < c) (hc2 : c < 1000000) (hi : -1000000000000 < i) (hi2 : i < 1000000000000) (hj : -1000000000000 < j) (hj2 : j < 1000000000000) :
    RgC i j c (if i < j then ((j - i - 1) / c + 1).toNat else 0) := by
  have e : Builtin.Range.rangeSize i j c = if i < j then (j - i - 1) / c + 1 else 0 := by
    unfold Builtin.Range.rangeSize
    rw [if_pos hc]
  have hb : 0 ≤ (j - i - 1) / c ∨ ¬ i < j := by
    by_cases h : i < j
    · exact .inl (Int.ediv_nonneg (by omega) (by omega))
    · exact .inr h
  have hb2 : (j - i - 1) / c ≤ 2000000000000 ∨ ¬ i < j := by
    by_cases h : i < j
    · left
      have := Int.ediv_le_self c (show 0 ≤ j - i - 1 by omega)
      omega
    · exact .inr h
  refine ⟨by omega, by omega, ?_, ?_⟩
  · unfold Builtin.Range.small
    rw [e]
    simp only [Builtin.Range.rangeFitsLong, Bool.and_eq_true, Bool.or_eq_true, decide_eq_true_eq, beq_iff_eq, hc, gt_iff_lt, if_true]
    by_cases h : i < j
    · rw [if_pos h]; omega
    · rw [if_neg h]; omega
  · rw [e]
    by_cases h : i < j
    · rw [if_pos h, if_pos h]; omega
    · rw [if_neg h, if_neg h]; rfl
theorem rg_down {i j : Int} (hi : -1000000000000 < i) (hi2 : i < 1000000000000) (hj : -1000000000000 < j) (hj2 : j < 1000000000000) : RgC i j (-1) (i - j).toNat :=
  RgC.neg (by omega) (by omega) (by omega) (by omega)
section
variable {X : Cx} {W : WX} {pos : Pos} {a b c e : Expr} {es : List Expr}
/-! ### sorted, xs[::-1] -/
def kSorted (K : PySem.W.Frag) : KC := fun vs G M R => match vs with
  | [.ref a] => ∃ ns : List Int, LstAt K G M a (ns.map V.int) ∧ ∀ (ns' : List Int) (p : Addr), ns'.Perm ns → ns'.Pairwise (· ≤ ·) → Fr G M p → R (.ref p) G ((p, .lst (ns'.map V.int)) :: M)
  | _ => False
theorem kc_sorted : KCall X (.builtin "sorted") (kSorted X.K) := kcall_of cr_sortedI fun vs G M R H Q hv h hR => by
  match vs, h with
  | [.ref a], ⟨ns, h1, h2⟩ => exact ⟨a, ns, rfl, hv.lst h1, fun ns' p q1 q2 q3 => hR _ G _ _ (hv.newM q3) (h2 ns' p q1 q2 (hv.fr q3))⟩
def kRevL (K : PySem.W.Frag) : V → Hp → Mem → KR → Prop := fun x G M R => match x with
  | .ref a => ∃ xs, LstAt K G M a xs ∧ ∀ p, Fr G M p → R (.ref p) G ((p, .lst xs.reverse) :: M)
  | _ => False
theorem je_revl {t : KE} {k : Nat} {p1 p2 p3 : Pos} (he : JE X W e t) : JE X W (.Subscript e (.Slice none none (some (.UnaryOp .USub (.Constant (.int 1) k p1) p2)) p3) pos) (kUn (kRevL X.K) t) :=
  pe_mono (pe_revL he) fun σ H Q ⟨G, M, R, E, hv, h, hR, hE⟩ => ⟨G, M, _, E, hv, h, fun x G1 M1 H1 hv1 h1 => by
    match x, h1 with
    | .ref a, ⟨xs, q1, q2⟩ => exact ⟨a, xs, rfl, hv1.lst q1, fun p hp => hR _ G1 _ _ (hv1.newM hp) (q2 p (hv1.fr hp))⟩, hE⟩
/-! ### in, not in: flat things in a list or a tuple -/
def kIn (neg : Bool) (K : PySem.W.Frag) : KR2 := fun x y G M R => match y with
  | .ref a => ∃ xs, SeqAt' K G M a xs ∧ flatV x = true ∧ xs.all flatV = true ∧ R (.bl (if neg then !inV x xs else inV x xs)) G M
  | _ => False
theorem kop_in : KOp X (compareOp .In) (kIn false X.K) := kop_of op_in_seq fun x y G M R H Q hv h hR => by
  match y, h with
  | .ref a, ⟨xs, h1, h2, h3, h4⟩ => exact ⟨a, xs, rfl, h1.elim (fun q => .inl (hv.lst q)) (fun q => .inr (hv.tup q)), h2, h3, hR _ G M H hv h4⟩
theorem kop_notin : KOp X (compareOp .NotIn) (kIn true X.K) := kop_of op_notIn_seq fun x y G M R H Q hv h hR => by
  match y, h with
  | .ref a, ⟨xs, h1, h2, h3, h4⟩ => exact ⟨a, xs, rfl, h1.elim (fun q => .inl (hv.lst q)) (fun q => .inr (hv.tup q)), h2, h3, hR _ G M H hv h4⟩
/-! ### list.index, list.insert, tuple(xs), bool(x), list(range) -/
def kIndex (K : PySem.W.Frag) : KM := fun x vs G M R => match x, vs with
  | .ref a, [y] => ∃ ys j z, LstAt K G M a ys ∧ flatV y = true ∧ ys.all flatV = true ∧ ys[j]? = some z ∧ eqV z y = true ∧ (∀ m z', m < j → ys[m]? = some z' → eqV z' y = false) ∧ R (.int (j : Nat)) G M
  | _, _ => False
end
end BT
namespace BT
open PySem PySem.Spec L2
open PyProof.Rows hiding St
theorem rg_mul {i c : Int} {n : Nat} (hc : 0 < c) (hc2 : c < 1000000) (hi : -1000000000 < i) (hi2 : i < 1000000000) (hn : n < 100000) : RgC i (i + c * n) c n := by
  have hm : c * n < 100000000000 := by
    have h1 : c * (n : Int) ≤ 1000000 * (n : Int) := Int.mul_le_mul_of_nonneg_right (by omega) (by omega)
    omega
  have hm0 : 0 ≤ c * n := Int.mul_nonneg (by omega) (by omega)
  have q := rg_up (i := i) (j := i + c * n) hc hc2 (by omega) (by omega) (by omega) (by omega)
  have e : (if i < i + c * n then ((i + c * n - i - 1) / c + 1).toNat else 0) = n := by
    cases n with
    | zero => rw [if_neg (by simp)]
    | succ k =>
      have hk : 0 < c * ((k + 1 : Nat) : Int) := Int.mul_pos hc (by omega)
      rw [if_pos (by omega)]
      have e1 : i + c * ((k + 1 : Nat) : Int) - i - 1 = (c - 1) + c * (k : Int) := by
        rw [show ((k + 1 : Nat) : Int) = (k : Int) + 1 by omega, Int.mul_add]; omega
      rw [e1, ((Int.ediv_emod_unique hc).mpr ⟨rfl, by omega, by omega⟩).1]
      omega
  rw [e] at q
  exact q
theorem fn_false {P : Program} {w : World} {K : PySem.W.Frag} {mg : Str → Option Value} {base : Heap} {CX : CXT} {k : Nat} {f : Addr} {fd : FuncData} {ps : List Str} {S : KSp} (h : ∀ vs G M R Z, ¬ S vs G M R Z) : FnOk P w K mg base CX k f fd ps (lift S) :=
  ⟨fun vs H Q E ⟨G, M, R, Z, _, q, _⟩ => (h vs G M R Z q).elim, fun A outer s H args us vs Q E _ _ _ _ ⟨G, M, R, Z, _, q, _⟩ => (h vs G M R Z q).elim⟩
theorem cx_none {P : Program} {w : World} {l : List Env} {H : Hp} {s : Shared} {e : Value} {s' : Shared} (h : L2.CX P w l H s (fun _ _ _ => False) e s') : False := by
  obtain ⟨_, _, _, _, _, _, _, _, _, _, _, _, z⟩ := h
  exact z.elim
/-- a law's promise -/
def S_law (K : PySem.W.Frag) : KSp := sp1 fun x G M R Z => ∃ (a : Addr) (ns : List Int), x = .ref a ∧ SqL K G a (ns.map V.int) ∧ ns.length ≤ 63 ∧ ∀ G' M', R (.bl true) G' M'
theorem law_start {K : PySem.W.Frag} {H : Hp} {a : Addr} {ns : List Int} (hl : ns.length ≤ 63) (hS : SqL K H a (ns.map V.int)) : lift (S_law K) [.ref a] H (fun v _ => v = .bl true) fun _ _ _ => False :=
  ⟨H, [], fun v _ _ => v = .bl true, fun _ _ _ _ => False, Hv.self H, ⟨a, ns, rfl, hS, hl, fun _ _ => rfl⟩, fun _ _ _ _ _ h => h, fun _ _ _ _ _ _ z => z⟩
end BT
namespace BT
open PySem PySem.Spec L2
open PyProof.Rows hiding St
/-! ### is of None and of truths -/
def kIs2 (neg : Bool) : KR2 := fun x y G M R => match x, y with
  | .bl a, .bl b => R (.bl (if neg then !decide (a = b) else decide (a = b))) G M
  | x, .non => R (.bl (if neg then !decide (x = .non) else decide (x = .non))) G M
  | _, _ => False
theorem kop_is2 {X : Cx} : KOp X (compareOp .Is) (kIs2 false) := fun pins s σ H x y v u Q G M R I rx ry hv h hR => by
  cases y <;> cases x <;> first
    | exact op_isBl pins s σ H _ _ v u Q I rx ry ⟨_, _, rfl, rfl, hR _ G M H hv h⟩
    | exact op_isN pins s σ H _ _ v u Q I rx ry ⟨rfl, hR _ G M H hv h⟩
    | exact h.elim
theorem kop_isnot2 {X : Cx} : KOp X (compareOp .IsNot) (kIs2 true) := fun pins s σ H x y v u Q G M R I rx ry hv h hR => by
  cases y <;> cases x <;> first
    | exact op_notBl pins s σ H _ _ v u Q I rx ry ⟨_, _, rfl, rfl, hR _ G M H hv h⟩
    | exact op_notN pins s σ H _ _ v u Q I rx ry ⟨rfl, hR _ G M H hv h⟩
    | exact h.elim
/-! ### types of values -/
inductive PT | int | bool | non | str | list | tuple | dict
  deriving DecidableEq
def PT.name : PT → String
  | .int => "int" | .bool => "bool" | .non => "NoneType" | .str => "str" | .list => "list" | .tuple => "tuple" | .dict => "dict"
def TyK (K : PySem.W.Frag) (G : Hp) (M : Mem) (x : V) (T : PT) : Prop := ∀ H, Hv G M H → TyX K H x (.type T.name)
section
variable {K : PySem.W.Frag} {G : Hp} {M : Mem} {a : Addr} {xs : List V} {n : Nat}
theorem ty_int {i : Int} : TyK K G M (.int i) .int := fun H hv => .base (.int i)
theorem ty_bl {i : Bool} : TyK K G M (.bl i) .bool := fun H hv => .base (.bl i)
theorem ty_non : TyK K G M .non .non := fun H hv => .base .non
theorem ty_str {i : Str} : TyK K G M (.str i) .str := fun H hv => .base (.str i)
theorem ty_lst (h : LstAt K G M a xs) : TyK K G M (.ref a) .list := fun H hv => by
  rcases hv.lst h with (z | ⟨o, z⟩) | ⟨o, its, m, z1, z2, _⟩
  · exact .base (.lst z)
  · exact .base (.frz z)
  · exact .kList z1 z2
theorem ty_tup (h : SqT K G a xs) : TyK K G M (.ref a) .tuple := fun H hv => by
  rcases hv.tup h with (z | ⟨o, z⟩) | ⟨o, its, m, z1, z2, _⟩
  · exact .base (.tup z)
  · exact .fTuple z
  · exact .kTuple z1 z2
theorem ty_dict {kvs : List (Key × V)} (h : At G M a (.dK kvs)) : TyK K G M (.ref a) .dict := fun H hv => .base (.dK (hv.at h))
/-- isinstance(x, T): both answers -/
def isaB (T U : PT) : Bool := T == U || (T == .bool && U == .int)
theorem kit_pt (T U : PT) : PySem.W.kitOne K (.type T.name) (.type U.name) = some (isaB T U) := by
  cases T <;> cases U <;> exact kit_ty (by decide +kernel)
theorem isi_pt {x : V} {T : PT} {R : KR} (U : PT) (h : TyK K G M x T) (q : R (.bl (isaB T U)) G M) : kIsi K [x, .ty U.name] G M R :=
  ⟨.type T.name, .type U.name, _, .ty U.name, h, kit_pt T U, q⟩
end
end BT
namespace BT
open PySem PySem.Spec L2
/-! ### steps by name -/
section
variable {D : Kd} {σ : St} {G : Hp} {M : Mem} {i : Nat} {te ta tb : KE}
theorem kset_of (h : te σ G M (fun v G M => D.nx (σ.set i (some v)) G M) (D.x σ)) : kSet i te D σ G M := h
theorem kret_of (h : te σ G M D.rt (D.x σ)) : kRet te D σ G M := h
theorem kexpr_of (h : te σ G M (fun _ G M => D.nx σ G M) (D.x σ)) : kExpr te D σ G M := h
theorem kbin_of {β : Type} {k : V → V → Hp → Mem → (β → Hp → Mem → Prop) → Prop} {R : β → Hp → Mem → Prop} {E : KX} (h : ta σ G M (fun x G M => tb σ G M (fun y G M => k x y G M R) E) E) : kBin k ta tb σ G M R E := h
theorem kcb_of {k : KC} {t : KA} {R : KR} {E : KX} (h : t σ G M (fun vs G M => k vs G M R) E) : kCB k t σ G M R E := h
theorem kcons_of {t : KE} {u : KA} {R : List V → Hp → Mem → Prop} {E : KX} (h : t σ G M (fun x G M => u σ G M (fun xs G M => R (x :: xs) G M) E) E) : kCons t u σ G M R E := h
end
end BT
set_option Elab.async false
set_option linter.all false
set_option maxRecDepth 100000
set_option maxHeartbeats 4000000
namespace BT
open PySem PySem.Spec L2
open PyProof.Rows hiding St
/-! ### own errors: raised, caught, held -/
/-- the address of a class, by its name -/
def cl (K : PySem.W.Frag) (x : Str) : Addr := match PySem.W.nsIn K mainGlobals x with
  | some (some (.ref a)) => a
  | _ => 0
theorem cl_of {K : PySem.W.Frag} {x : Str} {C : Addr} (a : PySem.W.nsIn K mainGlobals x = some (some (.ref C))) : cl K x = C := by
  unfold cl
  rw [a]
/-- a class that is known -/
structure XG (K : PySem.W.Frag) (mg : Str → Option Value) (x : Str) : Prop where
  g : mg x = some (.ref (cl K x))
  k : PySem.W.keepIn K (.ref (cl K x)) = true
/-- a class without own __init__ under ValueError, to be raised -/
structure XR (K : PySem.W.Frag) (x : Str) : Prop where
  n : PySem.W.excIn K (cl K x) [.type "ValueError", .type "Exception", .type "BaseException", .type "object"] "ValueError.__new__" = true
  b : PySem.W.subIn K (.ref (cl K x)) (.type "BaseException") = some true
  t : PySem.W.typeIn K (.ref (cl K x)) = some (.type "type")
theorem xg_mk {K : PySem.W.Frag} {mg : Str → Option Value} {h : Heap} {x : Str} {C : Addr} (X : K.In h) (G : h.Ns mainGlobals mg) (a : PySem.W.nsIn K mainGlobals x = some (some (.ref C))) (k : PySem.W.keepIn K (.ref C) = true) : XG K mg x := by
  have e := cl_of a
  exact ⟨by rw [e]; exact PySem.W.mg_of X G a, by rw [e]; exact k⟩
theorem xr_mk {K : PySem.W.Frag} {x : Str} {C : Addr} (a : PySem.W.nsIn K mainGlobals x = some (some (.ref C)))
    (q : PySem.W.excIn K C [.type "ValueError", .type "Exception", .type "BaseException", .type "object"] "ValueError.__new__" = true)
    (b : PySem.W.subIn K (.ref C) (.type "BaseException") = some true) (t : PySem.W.typeIn K (.ref C) = some (.type "type")) : XR K x := by
  have e := cl_of a
  exact ⟨by rw [e]; exact q, by rw [e]; exact b, by rw [e]; exact t⟩
theorem xe_mk {K : PySem.W.Frag} {x : Str} {C : Addr} (a : PySem.W.nsIn K mainGlobals x = some (some (.ref C))) (q : ExcC K C) : ExcC K (cl K x) := by
  rw [cl_of a]
  exact q
section
variable {X : Cx} {W : WX} {pos : Pos}
/-- raise C('m') -/
def kRaise (K : PySem.W.Frag) (x : Str) : KS := fun D σ G M => D.xc (.ref (cl K x)) none σ G M
theorem js_raise {x m : Str} {j : Nat} {p p2 pos2 : Pos} (g : XG X.K X.mg x) (r : XR X.K x) (tk : Takes X W) (hc : X.calm = true := by rfl) (hg : Gl X x := by rfl) (hdb : (x == ("__debug__" : Str)) = false := by decide) :
    JS X W (.Raise (some (.Call (.Name x p) [.Constant (.str m) j p2] [] pos2)) none pos) (kRaise X.K x) :=
  ps_mono (ps_raise hc tk (pmk_own PySem.F.excBase_ValueError r.n g.g g.k (raises_own r.b r.t) hg hdb)) fun D σ H ⟨G, M, d, hv, h, en⟩ => en.xc _ _ _ _ _ _ hv h

/-- a caught error that is held: its class and its dict -/
def ExT (cls : Value) (d : Option Addr) (a : Addr) : HO := .ext fun h => ∃ (oe : Obj) (vs : Array Value), h.get? a = some oe ∧ Zc cls d oe ∧ oe.data = .fields vs
theorem exT_ok {P : Program} {w : World} {H : Hp} {h : Heap} {a : Addr} {cls : Value} {d : Option Addr} {oe : Obj} {vs : Array Value} (e : h.get? a = some oe) (z : Zc cls d oe) (q : oe.data = .fields vs) : ObjOk P w H h a (ExT cls d a) :=
  ⟨⟨oe, vs, e, z, q⟩, ⟨oe, e⟩, fun _ _ ⟨o, v, q, r⟩ k => ⟨o, v, k o q, r⟩⟩
/-- an object that nobody tracked is tracked from here on -/
theorem inv_track {pins : List (Addr × Obj)} {σ : St} {H : Hp} {s : Shared} {a : Addr} {o : HO} (I : Inv X pins σ H s) (n : H a = none) (n0 : X.s_0.heap.get? a = none) (nl : a ≠ X.env.locals)
    (nc : ∀ y c, X.env.cells.lookup y = some c → c ≠ a) (np : ∀ p ∈ X.pn ++ pins, p.1 ≠ a) (new : ObjOk X.prog X.w (upd H a o) s.heap a o) : Inv X pins σ (upd H a o) s := by
  have ne : ∀ b u, H b = some u → b ≠ a := fun b u e z => by
    rw [z, n] at e
    cases e
  refine ⟨I.ok, I.os, I.bare, ⟨I.base.keep, I.base.slot, fun b u e m x => ?_, I.base.there, fun b xs e => ?_, fun b u v e => ?_, fun b ps e => ?_⟩, I.loc, I.cell, ?_, fun y c e => ?_, fun p hp => ?_, fun b u e => ?_, I.len⟩
  · rw [upd_ne (fun z => by rw [z, n0] at e; cases e)]
    exact I.base.free b u e m x
  · have q := I.base.tups b xs e
    rw [upd_ne (ne b _ q)]
    exact q
  · have q := I.base.frzs b u v e
    rw [upd_ne (ne b _ q)]
    exact q
  · obtain ⟨m, q⟩ := I.base.tbls b ps e
    exact ⟨m, by rw [upd_ne (ne b _ q)]; exact q⟩
  · rw [upd_ne (Ne.symm nl)]
    exact I.free
  · rw [upd_ne (nc y c e)]
    exact I.freeC y c e
  · obtain ⟨p1, p2, p3, p4, p5⟩ := I.pin p hp
    exact ⟨p1, by rw [upd_ne (np p hp)]; exact p2, p3, p4, p5⟩
  · by_cases hb : b = a
    · subst hb
      rw [upd_same] at e
      cases e
      exact new
    · rw [upd_ne hb] at e
      exact (I.hok b u e).stay (fun c v _ q => q) (fun c q => by rw [upd_ne (ne c _ q)]; exact q) fun c xs q => by rw [upd_ne (ne c _ q)]; exact q
end

/-- what 'except x as n: y = n' wishes of an error of the body -/
def wKeep (K : PySem.W.Frag) (c : Value) (i j : Nat) (Wout : WX) (D : Ends) : WX := fun cls d σ H => ∃ b, PySem.W.exmOne K cls c = some b ∧
  (b = true → ∀ a, H a = none → D.nx (((σ.set i (some (.ref a))).set j (some (.ref a))).set i none) (upd H a (ExT cls d a))) ∧ (b = false → Wout cls d σ H)
section
variable {X : Cx} {x n y : Str} {c : Value} {i j : Nat} {body : List Stmt} {np pos pos' q1 q2 q3 : Pos} {tb : WX → TS} {Wout : WX}
theorem ps_try_keep (hs : X.stack = X.env :: X.outer) (hf : X.env.frame = some X.env.locals) (hx : X.ex = []) (hN : X.N.Nodup) (hi : X.N[i]? = some n) (hj : X.N[j]? = some y) (hln : X.env.kindOf n = some .local) (hlj : Loc X.env.scope y) (hij : i ≠ j)
    (hfy : X.fn y = true ∨ X.env.scope.names.lookup y = some .local) (hdn : (n == ("__debug__" : Str)) = false) (hcn : (n == ("__classdict__" : Str)) = false)
    (hsw : swapsWith (.Name n q2) (some (.Name y q1)) q3.line X.env = pure false) (hc : Names X x c) (tk : Takes X Wout)
    (hb : ∀ (W : WX) (pn : List (Addr × Obj)) (xe : Value → Shared → Prop), Takes (X.tr pn xe) W → PassesOwn (model X.prog X.w) X.A X.env xe → PSs (X.tr pn xe) body (tb W)) :
    PS X (.Try body [.ExceptHandler (some (.Name x np)) (some n) [.Assign [.Name y q1] (.Name n q2) q3] pos'] [] [] pos) (fun D σ H => tb (wKeep X.K c i j Wout D) D σ H) := by
  refine ⟨fun pins s σ H D I h => ?_⟩
  have ok := I.ok
  have fr0 : X.A.frames = some (X.env :: X.outer) := by rw [ok.frames, hs]
  refine wpAny_Try_except ?_
  refine wpAny_mono ((hb (wKeep X.K c i j Wout D) (X.pn ++ pins) _ (fun u s' xx => ?_) PassesOwn.looking).run [] s σ H D (I.toTry _) h) (fun f s1 hsp => ?_) (fun e s1 he => he)
  · obtain ⟨a, B, sI, pins', σ', H', cls, d, rfl, J', nb, up, sky, na, os, ag, b, hb1, hyes, hno⟩ := xx
    have J : Inv X pins σ' H' sI := J'.ofTry ok
    have sky2 : Sky B (X.env :: X.outer) a (Zc cls d) X.env.locals s'.heap := by
      rw [← hs]
      exact sky
    show wpAny (model X.prog X.w) X.A (noteFrame (.ref a) X.env) _ _ _
    refine Sky.land Zc.steady fr0 hf sky2 fun h3 fl3 up3 => ?_
    have J3 : Inv X pins σ' H' { s' with heap := h3 } := J.landed nb fl3.1 (up.trans up3) os ag
    obtain ⟨oe3, vs3, he3, hz3, hd3⟩ := fl3.there
    have nfr : a ∉ frs (X.env :: X.outer) := fun hm => by
      obtain ⟨_, o', e', hnf⟩ := fl3.2.2.1.mem hm
      rw [he3] at e'
      cases e'
      exact hnf _ hd3
    have nL : a ≠ X.env.locals := fun z => nfr (List.mem_filterMap.mpr ⟨X.env, List.mem_cons_self, by rw [hf, z]⟩)
    have nF : a ∉ X.fs := fun hm => by
      obtain ⟨e, he, q⟩ := List.mem_filterMap.mp hm
      exact nfr (List.mem_filterMap.mpr ⟨e, List.mem_cons_of_mem _ he, q⟩)
    have nI : sI.heap.get? a = none := by
      cases e : sI.heap.get? a with
      | none => rfl
      | some o =>
        have z := nb a o e (by rw [hs]; exact nfr)
        rw [fl3.2.1] at z
        cases z
    have n0 : X.s_0.heap.get? a = none := by
      cases e : X.s_0.heap.get? a with
      | none => rfl
      | some o =>
        obtain ⟨o', z⟩ := J.base.there a o e (by rw [hx]; exact fun z => nomatch z)
        rw [nI] at z
        cases z
    have nc : ∀ w c, X.env.cells.lookup w = some c → c ≠ a := fun w c e z => by
      obtain ⟨v, o, ho, _⟩ := J.cell w c e
      rw [z, nI] at ho
      cases ho
    have npn : ∀ p ∈ X.pn ++ pins, p.1 ≠ a := fun p hp z => by
      obtain ⟨q, _⟩ := J.pin p hp
      rw [z, nI] at q
      cases q
    have S3 := J3.suite he3 hd3 na nL nF
    refine wpAny_handleBy_cons (codeAny_handlers_test ?_) (by intro q; cases q)
    have LT : PySem.W.Looks (model X.prog X.w) h3 (typeOf (.ref a)) cls := fun A Q E s k q => wpAny_typeOf_ref (k _ _ he3) (by rw [hz3.1]; exact q)
    have LM := PySem.W.exm_one (M := model X.prog X.w) (J3.kIn) LT hb1
    have look : ∀ {Q : Value → Shared → Prop} {E : Value → Shared → Prop}, Q c { s' with heap := h3 } → wpAny (model X.prog X.w) (X.A.mark (some (.ref a))) (eval (.Name x np) X.env) Q E { s' with heap := h3 } := fun {Q E} q => by
      obtain ⟨hg, hdbg, hm | ⟨hm, hv, hnn⟩⟩ := hc
      · exact ld_glob (X := X.suite a ((a, oe3) :: (X.pn ++ pins))) S3 hg hm q hdbg
      · exact ld_blt (X := X.suite a ((a, oe3) :: (X.pn ++ pins))) S3 hg hm hv q hnn hdbg
    refine look (LM.here ?_)
    cases b with
    | true =>
      refine codeAny_handlers_suite_as ?_
      refine HandSPX.lands_againZ fl3 fun h4 fl4 up4 => ?_
      have J4 : Inv X pins σ' H' { s' with heap := h4 } := J.landed nb fl4.1 ((up.trans up3).trans up4) os ag
      obtain ⟨oe4, vs4, he4, hz4, hd4⟩ := fl4.there
      have S4 := J4.suite he4 hd4 na nL nF
      refine store_ok (X := X.suite a ((a, oe4) :: (X.pn ++ pins))) (v := .ref a) S4 hN hi (.inl hln) rfl (fun s5 S5 => ?_) (.inr hln)
      have lenσ : σ'.length = X.N.length := J.len
      have hiσ : i < σ'.length := by
        rw [lenσ]
        exact (List.getElem?_eq_some_iff.mp hi).1
      have P1 : PSs (X.suite a ((a, oe4) :: (X.pn ++ pins))) [.Assign [.Name y q1] (.Name n q2) q3] (tSeq (tAsg (tVar i) (gName j)) tNext) :=
        pss_cons (ps_set hN hj hlj (pe_var hi (.inl hln) hdn hcn) hsw hfy) pss_nil
      refine wpAny_mono (P1.run [] s5 (σ'.set i (some (.ref a))) H' { nx := fun σ6 H6 => σ6 = (σ'.set i (some (.ref a))).set j (some (.ref a)) ∧ H6 = H', rt := fun _ _ => False, bk := fun _ _ => False, ct := fun _ _ => False } S5 ?_) (fun f s6 hsp => ?_) (fun _ _ z => False.elim z)
      · exact ⟨.ref a, by rw [List.getElem?_set_self hiσ], rfl, rfl⟩
      · cases f with
        | next =>
          obtain ⟨σ6, H6, S6, rfl, rfl⟩ := hsp
          refine gone_ok (X := X.suite a ((a, oe4) :: (X.pn ++ pins))) S6 hN hi hln fun s7 S7 => ?_
          obtain ⟨k1, k2, _⟩ := S7.pin (a, oe4) (List.mem_append.mpr (.inl List.mem_cons_self))
          exact ⟨_, _, inv_track (S7.unsuite ok) na n0 nL nc npn (exT_ok k1 hz4 hd4), hyes rfl a na⟩
        | brk => obtain ⟨_, _, _, z⟩ := hsp; exact z.elim
        | cont => obtain ⟨_, _, _, z⟩ := hsp; exact z.elim
        | ret u => obtain ⟨_, _, _, _, _, z⟩ := hsp; exact z.elim
    | false =>
      show wpAny _ X.A (handleBy (.ref a) X.env []) _ _ _
      refine wpAny_handleBy_nil ?_
      obtain ⟨k1, k2, k3, oe, vs, T, oT, ts', he, hz, hd, h1, hr⟩ := id fl3
      unfold PySem.passOn
      refine wpAny_bind (wpAny_field he hd h1 ?_)
      rw [if_neg (show ¬ ((Value.ref T == Value.none) = true) from by simp)]
      have fin : wpAny (model X.prog X.w) X.A (setFlight (.ref a) X.env.frame) (fun _ s4 => wpAny (model X.prog X.w) X.A (throw (.ref a) : Sem Flow) (SP X pins D) X.xe s4) X.xe { s' with heap := h3 } := by
        rw [hf]
        refine HandSPX.setFlight_upZ fl3 fun h4 hh4 up4 => wpAny_throw (tk _ _ ?_)
        exact ⟨a, B, sI, pins, σ', H', cls, d, rfl, J, nb, (up.trans up3).trans up4, .inr (.inr (by rw [hs]; exact hh4)), na, os, ag, hno rfl⟩
      first
        | exact wpAny_bind (wpAny_pure (wpAny_bind fin))
        | exact wpAny_bind fin
  · cases f with
    | next => obtain ⟨σ', H', J', q⟩ := hsp; exact wpAny_execs_nil ⟨σ', H', J'.ofTry ok, q⟩
    | brk => obtain ⟨σ', H', J', q⟩ := hsp; exact ⟨σ', H', J'.ofTry ok, q⟩
    | cont => obtain ⟨σ', H', J', q⟩ := hsp; exact ⟨σ', H', J'.ofTry ok, q⟩
    | ret u => obtain ⟨v, σ', H', J', r, q⟩ := hsp; exact ⟨v, σ', H', J'.ofTry ok, r, q⟩
end
/-! ### the readings -/
/-- an error of the class named x, held at a -/
def ErA (K : PySem.W.Frag) (x : Str) (d : Option Addr) (a : Addr) : HO := ExT (.ref (cl K x)) d a
/-- try: t, except C as n (slot i): y = n (slot j); the classes that the law knows, and whether they stand under C -/
def kTry (K : PySem.W.Frag) (tab : List (Str × Bool)) (i j : Nat) (t : KS) : KS := fun D σ G M => t { D with xc := fun c d σ' G' M' => ∃ p ∈ tab, c = .ref (cl K p.1) ∧
  (if p.2 = true then ∀ a, Fr G' M' a → D.nx (((σ'.set i (some (.ref a))).set j (some (.ref a))).set i none) (upd G' a (ErA K p.1 d a)) M' else D.xc c d σ' G' M') } σ G M
section
variable {X : Cx} {W : WX} {pos : Pos}
theorem js_try {K : PySem.W.Frag} {x n y : Str} {i j : Nat} {tab : List (Str × Bool)} {body : List Stmt} {t : KS} {np pos' q1 q2 q3 : Pos} (g : XG X.K X.mg x) (ht : ∀ p ∈ tab, PySem.W.exmOne X.K (.ref (cl X.K p.1)) (.ref (cl X.K x)) = some p.2) (hN : X.N.Nodup) (tk : Takes X W)
    (hb : ∀ (W : WX) (pn : List (Addr × Obj)) (xe : Value → Shared → Prop), Takes (X.tr pn xe) W → PassesOwn (model X.prog X.w) X.A X.env xe → JSs (X.tr pn xe) W body t)
    (hK : X.K = K := by rfl) (hs : X.stack = X.env :: X.outer := by rfl) (hf : X.env.frame = some X.env.locals := by rfl) (hx : X.ex = [] := by rfl) (hi : X.N[i]? = some n := by rfl) (hj : X.N[j]? = some y := by rfl)
    (hln : X.env.kindOf n = some .local := by rfl) (hlj : Loc X.env.scope y := by first | exact Or.inl rfl | exact Or.inr rfl) (hij : i ≠ j := by decide)
    (hfy : X.fn y = true ∨ X.env.scope.names.lookup y = some .local := by first | exact .inl rfl | exact .inr rfl) (hdn : (n == ("__debug__" : Str)) = false := by decide) (hcn : (n == ("__classdict__" : Str)) = false := by decide)
    (hsw : swapsWith (.Name n q2) (some (.Name y q1)) q3.line X.env = pure false := by rfl) (hg : Gl X x := by rfl) (hxd : (x == ("__debug__" : Str)) = false := by decide) :
    JS X W (.Try body [.ExceptHandler (some (.Name x np)) (some n) [.Assign [.Name y q1] (.Name n q2) q3] pos'] [] [] pos) (kTry K tab i j t) := by
  subst hK
  refine ps_mono (ps_try_keep (c := .ref (cl X.K x)) (tb := fun W => upS W t) hs hf hx hN hi hj hln hlj hij hfy hdn hcn hsw ⟨hg, hxd, .inl g.g⟩ tk hb) fun D σ H ⟨G, M, d, hv, h, en⟩ => ?_
  refine ⟨G, M, _, hv, h, ⟨en.nx, en.rt, en.bk, en.ct, fun c e σ' G' M' H' hv' q => ?_⟩⟩
  obtain ⟨p, hp, rfl, q⟩ := q
  refine ⟨p.2, ht p hp, fun hb a na => ?_, fun hb => ?_⟩
  · rw [if_pos hb] at q
    exact en.nx _ _ _ _ (hv'.newG na) (q a (hv'.fr na))
  · rw [if_neg (by rw [hb]; exact Bool.false_ne_true)] at q
    exact en.xc _ _ _ _ _ _ hv' q
/-- isinstance(v, C), where v is an error that is held, or None -/
def kIsX (K : PySem.W.Frag) (c : V) (tab : List (Str × Bool)) : KC := fun vs G M R => match vs with
  | [.non, c'] => c' = c ∧ R (.bl false) G M
  | [.ref a, c'] => c' = c ∧ ∃ p ∈ tab, At G M a (ErA K p.1 none a) ∧ R (.bl p.2) G M
  | _ => False
theorem kc_isX {tab : List (Str × Bool)} {c : V} {cv : Value} (hcv : ClsV c cv) (hn : PySem.W.kitOne X.K (.type "NoneType") cv = some false)
    (ht : ∀ p ∈ tab, ExcC X.K (cl X.K p.1) ∧ PySem.W.kitOne X.K (.ref (cl X.K p.1)) cv = some p.2) : KCall X (.builtin "isinstance") (kIsX X.K c tab) := by
  intro pins s σ H xs us Q I r h
  obtain ⟨G, M, R, hv, h, hR⟩ := h
  match xs, h with
  | [.non, c'], h2 =>
    obtain ⟨rfl, h3⟩ := h2
    exact (call_isi (X := X)) pins s σ H [.non, c'] _ Q I r ⟨_, _, .type "NoneType", _, false, rfl, hcv, .base .non, hn, hR _ _ _ _ hv h3⟩
  | [.ref a, c'], h2 =>
    obtain ⟨rfl, p, hp, ha, h3⟩ := h2
    cases r with
    | cons rx rr =>
      cases rr with
      | cons rt rr =>
        cases rr
        have ec := hcv.eq rt
        subst ec
        cases rx
        obtain ⟨C, e⟩ := ht p hp
        have hH : H a = some (ErA X.K p.1 none a) := hv.at ha
        obtain ⟨⟨oe, vs, hget, hz, hd⟩, _, _⟩ := I.hok a _ hH
        have J : PySem.W.InstAt s.heap a oe (cl X.K p.1) none := by
          obtain ⟨oc, od, oda, osl⟩ := oe
          obtain ⟨h1, h2⟩ := hz
          dsimp only at h1 h2 hd
          subst h1 h2 hd
          exact ⟨hget, rfl, rfl, trivial⟩
        exact PySem.W.kia_one (PySem.W.handS_kitx_exc C.hg C.hk C.hs C.hd C.ha C.hn C.ht C.hm) I.kIn J e (fun z => nomatch z) fun tk => ⟨.bl p.2, H, I.kept (t' := tk) fun _ _ z => z, rfl, hR _ _ _ _ hv h3⟩
/-- the name of an own class -/
theorem je_cls {K : PySem.W.Frag} {x : Str} {pos : Pos} (g : XG X.K X.mg x) (hK : X.K = K := by rfl) (hg : Gl X x := by rfl) (hd : (x == ("__debug__" : Str)) = false := by decide) : JE X W (.Name x pos) (kC (.ref (cl K x))) := by
  subst hK
  exact je_glob g.g rfl hg hd
end
theorem kop_shlW {X : Cx} : KOp X (binaryOp .LShift) (kI CShl fun i j => .int (i * 2 ^ j.toNat)) := kop_I op_shlW
theorem excX {R : KR} {Z : KX} {c : Value} {d : Option Addr} {σ : St} {G : Hp} {M : Mem} (h : Z c d G M) : (ends R Z).xc c d σ G M := ⟨G, M, Wk.refl, h⟩
theorem kit_ref {K : PySem.W.Frag} {t : Value} {C : Addr} {b : Bool} (hc : PySem.W.hasDictIn K C = true) (ht : PySem.W.typeIn K (.ref C) = some (.type "type")) (hs : PySem.W.subIn K (.ref C) (.ref C) = some true) (h : PySem.W.subIn K t (.ref C) = some b) :
    PySem.W.kitOne K t (.ref C) = some b := by
  unfold PySem.W.kitOne
  by_cases e : (t == .ref C) = true
  · rw [if_pos e]
    have e2 : t = .ref C := beq_iff_eq.mp e
    rw [e2, hs] at h
    exact h
  · rw [if_neg e]
    obtain ⟨cd, hcd, _⟩ := PySem.W.any_some hc
    have e1 : ((PySem.W.clsIn K C).isSome && PySem.W.typeIn K (.ref C) == some (.type "type")) = true := by rw [hcd, ht] <;> rfl
    show (if ((PySem.W.clsIn K C).isSome && PySem.W.typeIn K (.ref C) == some (.type "type")) = true then PySem.W.subIn K t (.ref C) else none) = some b
    rw [if_pos e1]
    exact h
theorem kit_tyV {K : PySem.W.Frag} {t : Value} {T : String} {b : Bool} (hm : PySem.W.kitMeta T = true) (hne : (t == .type T) = false) (h : PySem.W.subIn K t (.type T) = some b) : PySem.W.kitOne K t (.type T) = some b := by
  unfold PySem.W.kitOne
  rw [if_neg (by rw [hne]; exact Bool.false_ne_true)]
  show (if PySem.W.kitMeta T = true then PySem.W.subIn K t (.type T) else none) = some b
  rw [if_pos hm]
  exact h
end BT
set_option Elab.async false
set_option linter.all false
set_option maxRecDepth 100000
set_option maxHeartbeats 4000000
namespace BT
open PySem PySem.Spec L2
open PyProof.Rows hiding St
section
variable {X : Cx} {W : WX} {pos p : Pos} {a b : Expr}
/-! ### list(range(..)) -/
def rgL (i j : Int) (G : Hp) (M : Mem) (R : KR) : Prop := RgOk i j ∧ ∀ q, Fr G M q → R (.ref q) G ((q, .lst (rgV i j)) :: M)
def kListR1 (t : KE) : KE := fun σ G M R E => t σ G M (fun x G M => match x with
  | .int n => rgL 0 n G M R
  | _ => False) E
def kListR2 (t u : KE) : KE := fun σ G M R E => t σ G M (fun x G M => u σ G M (fun y G M => match x, y with
  | .int i, .int j => rgL i j G M R
  | _, _ => False) E) E
theorem je_listR1 {t : KE} {p2 pos2 : Pos} (hl : X.mg "list" = none) (hr : X.mg "range" = none) (ha : JE X W a t) (hc : X.calm = true := by rfl) (h1 : Gl X "list" := by rfl) (h2 : Gl X "range" := by rfl)
    (na : starEach [a] X.env = (false, eval a X.env) :: starEach [] X.env := by rfl) (nb : starEach [.Call (.Name "range" p2) [a] [] pos2] X.env = (false, eval (.Call (.Name "range" p2) [a] [] pos2) X.env) :: starEach [] X.env := by rfl) :
    JE X W (.Call (.Name "list" p) [.Call (.Name "range" p2) [a] [] pos2] [] pos) (kListR1 t) :=
  pe_mono (pe_listRg hc h1 hl (prg_1 h2 hr ha na) nb) fun σ H Q ⟨G, M, R, E, hv, h, hR, hE⟩ => ⟨G, M, _, E, hv, h, fun x G1 M1 H1 hv1 q => by
    match x, q with
    | .int n, ⟨q1, q2⟩ => exact ⟨n, rfl, q1, fun w hw => hR _ G1 _ _ (hv1.newM hw) (q2 w (hv1.fr hw))⟩, hE⟩
theorem je_listR2 {t u : KE} {p2 pos2 : Pos} (hl : X.mg "list" = none) (hr : X.mg "range" = none) (ha : JE X W a t) (hb : JE X W b u) (hc : X.calm = true := by rfl) (h1 : Gl X "list" := by rfl) (h2 : Gl X "range" := by rfl)
    (na : starEach [a, b] X.env = (false, eval a X.env) :: starEach [b] X.env := by rfl) (nb : starEach [b] X.env = (false, eval b X.env) :: starEach [] X.env := by rfl) (hp : (backTo pos2 (starEach [b] X.env)).any (·.1) = false := by rfl)
    (nc : starEach [.Call (.Name "range" p2) [a, b] [] pos2] X.env = (false, eval (.Call (.Name "range" p2) [a, b] [] pos2) X.env) :: starEach [] X.env := by rfl) :
    JE X W (.Call (.Name "list" p) [.Call (.Name "range" p2) [a, b] [] pos2] [] pos) (kListR2 t u) :=
  pe_mono (pe_listRg hc h1 hl (prg_2 h2 hr ha hb na nb hp) nc) fun σ H Q ⟨G, M, R, E, hv, h, hR, hE⟩ => ⟨G, M, _, E, hv, h, fun x G1 M1 H1 hv1 q => ⟨G1, M1, _, E, hv1, q, fun y G2 M2 H2 hv2 q => by
    match x, y, q with
    | .int i, .int j, ⟨q1, q2⟩ => exact ⟨i, j, rfl, rfl, q1, fun w hw => hR _ G2 _ _ (hv2.newM hw) (q2 w (hv2.fr hw))⟩, hE⟩, hE⟩
/-! ### an empty dict -/
def kDNew : KE := fun _ G M R _ => ∀ q, Fr G M q → R (.ref q) G ((q, .dK []) :: M)
theorem je_dnew : JE X W (.Dict [] [] pos) kDNew := pe_mono pe_dnewK fun σ H Q ⟨G, M, R, E, hv, h, hR, hE⟩ => fun w hw => hR _ G _ _ (hv.newM hw) (h w (hv.fr hw))
/-! ### constants of the module -/
theorem je_const {x : Str} {v : V} (h : ∃ u, X.mg x = some u ∧ RelV v u) (hg : Gl X x := by rfl) (hd : (x == ("__debug__" : Str)) = false := by decide) : JE X W (.Name x pos) (kC v) := by
  obtain ⟨u, hm, r⟩ := h
  exact je_glob hm r hg hd
/-- a tuple of texts that the module holds -/
def kConT (K : PySem.W.Frag) (x : Str) (xs : List V) : KE := fun _ G M R _ => (∀ H, SqT K H (cl K x) xs) → R (.ref (cl K x)) G M
structure XT (K : PySem.W.Frag) (mg : Str → Option Value) (x : Str) (xs : List V) : Prop where
  g : mg x = some (.ref (cl K x))
  s : ∀ H, SqT K H (cl K x) xs
theorem je_conT {K : PySem.W.Frag} {x : Str} {xs : List V} (h : XT X.K X.mg x xs) (hK : X.K = K := by rfl) (hg : Gl X x := by rfl) (hd : (x == ("__debug__" : Str)) = false := by decide) : JE X W (.Name x pos) (kConT K x xs) := by
  subst hK
  exact pe_mono (je_glob (W := W) (v := .ref (cl X.K x)) h.g rfl hg hd) fun σ H Q ⟨G, M, R, E, hv, q, hR, hE⟩ => ⟨G, M, R, E, hv, q h.s, hR, hE⟩
end
theorem vals_abs : ∀ {us : List Value} {xs : List V}, us.map absV = xs.map some → (∀ x, x ∈ xs → (∃ i, x = .int i) ∨ ∃ s, x = .str s) → Vals xs us
  | [], [], _, _ => .nil
  | [], _ :: _, h, _ => by cases h
  | _ :: _, [], h, _ => by cases h
  | u :: us, x :: xs, h, hx => by
    rw [List.map_cons, List.map_cons] at h
    injection h with h1 h2
    refine .cons ?_ (vals_abs h2 fun y hy => hx y (List.mem_cons_of_mem _ hy))
    rcases hx x List.mem_cons_self with ⟨i, rfl⟩ | ⟨s, rfl⟩
    · cases u <;> simp only [absV] at h1 <;> first | (cases h1; done) | (injection h1 with h1; first | (cases h1; exact ⟨_, rfl⟩) | cases h1)
    · cases u <;> simp only [absV] at h1 <;> first | (cases h1; done) | (injection h1 with h1; first | (cases h1; exact ⟨_, rfl⟩) | cases h1)
theorem xt_mk {K : PySem.W.Frag} {mg : Str → Option Value} {h : Heap} {x : Str} {C : Addr} {xs : List V} {od : Option Addr} {its : Array Value} {n : Nat} {sl : Array (Option Value)} (X : K.In h) (G : h.Ns mainGlobals mg) (a : PySem.W.nsIn K mainGlobals x = some (some (.ref C)))
    (l : K.lookup C = some ⟨.type "tuple", od, .seq its n, sl⟩) (e : its.toList.map absV = xs.map some) (hx : ∀ x, x ∈ xs → (∃ i, x = .int i) ∨ ∃ s, x = .str s) (hs : its.size ≤ 1000) : XT K mg x xs := by
  have ec := cl_of a
  refine ⟨by rw [ec]; exact PySem.W.mg_of X G a, fun H => ?_⟩
  rw [ec]
  exact .inr ⟨_, its, n, l, rfl, rfl, Nat.le_trans hs (by decide), vals_abs e hx⟩
/-! ### sum of a tuple -/
section
variable {prog : Program} {w : World} {A : Around} {E : Value → Shared → Prop} {s : Shared} {l : Addr} {its : List Value} {ns : List Int} {Q : Value → Shared → Prop}
theorem sum_tupT (hh : A.handled = none) (hl : s.heap.IsTuple l its.toArray) (hi : IntsAre its ns)
    (h : ∀ h' tk t', (∀ b o, s.heap.get? b = some o → h'.get? b = some o) → Q (.int ns.sum t') { s with heap := h', toks := tk }) : wpAny (model prog w) A (call (.builtin "sum") [.ref l]) Q E s := by
  obtain ⟨xs, e⟩ := hi.allInts.items
  have hn : numsOf (intItems xs).toList = ns := by rw [← e]; exact hi.numsOf
  rw [nums_intItems] at hn
  rw [e] at hl
  have hlt : l < s.heap.objs.size := by obtain ⟨_, e, _⟩ := hl; exact Heap.lt_size e
  refine call_sum_walkG (wpAny_pyIter_tuple hl ?_)
  refine ⟨_, _, _, _, _, _, numAt xs, rfl, Walks.tuple (A := A.in1) hh _ l (Nat.ne_of_lt hlt) (intItems xs), ⟨⟨_, Heap.get?_push_size _ rfl, rfl, rfl⟩, hl.push _⟩, fun b hb => ?_, (fun _ _ => intItems_at), fun h' tk t' hk => ?_⟩
  · show b < (s.heap.push _).objs.size
    rw [Heap.size_push]
    simp only [List.mem_cons, List.not_mem_nil, or_false] at hb
    rcases hb with z | z
    · rw [z]; exact Nat.lt_succ_self _
    · rw [z]; exact Nat.lt_succ_of_lt hlt
  · have := h h' tk t' fun b o eb => hk b o (fun hm => absurd (Heap.lt_size eb) ((List.mem_singleton.mp hm) ▸ Nat.lt_irrefl _)) (Heap.get?_push_of_some _ eb)
    have e2 : preSum (numAt xs) (intItems xs).size = ns.sum := by
      rw [preSum_eq, List.take_of_length_le (by simp [intItems]), hn]
    rw [e2]; exact this
end
section
variable {X : Cx}
def kSumS (K : PySem.W.Frag) : KC := fun vs G M R => match vs with
  | [.ref a] => ∃ ns : List Int, SeqAt' K G M a (ns.map V.int) ∧ R (.int ns.sum) G M
  | _ => False
theorem kc_sumS (hc : X.calm = true := by rfl) : KCall X (.builtin "sum") (kSumS X.K) := by
  intro pins s σ H vs us Q I r h
  obtain ⟨G, M, R, hv, h, hR⟩ := h
  match vs, h with
  | [.ref a], ⟨ns, h1, h2⟩ =>
    rcases h1 with h1 | h1
    · exact cr_sum hc pins s σ H [.ref a] us Q I r ⟨a, ns, rfl, hv.lst h1, hR _ _ _ _ hv h2⟩
    · obtain ⟨its, rv, ht, _⟩ := I.tuple (ex_t hv.exx h1)
      rw [Vals.ref1 r]
      exact sum_tupT (I.ok.hd hc) ht rv.ints fun h' tk t' hk => ⟨.int _, H, I.kept hk, ⟨_, rfl⟩, hR _ _ _ _ hv h2⟩
end
end BT
set_option Elab.async false
set_option linter.all false
set_option maxRecDepth 100000
set_option maxHeartbeats 4000000
namespace BT
open PySem PySem.Spec L2
open PyProof.Rows hiding St
/-! ### len(set(xs)) of ints -/
theorem dedup_len : ∀ (l acc : List Int), (l.foldl step_dedup acc).length ≤ acc.length + l.length
  | [], acc => Nat.le_refl _
  | x :: l, acc => by
    have h := dedup_len l (step_dedup acc x)
    rw [step_length] at h
    rw [List.foldl_cons, List.length_cons]
    split at h <;> omega
theorem dedup_eq : ∀ (l acc : List Int), (l.foldl step_dedup acc).length = acc.length + l.length ↔ (l.Nodup ∧ ∀ x, x ∈ l → x ∉ acc)
  | [], acc => by simp
  | x :: l, acc => by
    rw [List.foldl_cons, List.length_cons]
    by_cases hx : acc.any (· == x) = true
    · have hm : x ∈ acc := by simpa using hx
      have h := dedup_len l (step_dedup acc x)
      rw [step_length, if_pos hx] at h
      constructor
      · intro e; omega
      · intro e; exact absurd hm (e.2 x List.mem_cons_self)
    · have hm : x ∉ acc := by simpa using hx
      have e1 : step_dedup acc x = acc ++ [x] := by unfold step_dedup; rw [if_neg hx]
      have ih := dedup_eq l (acc ++ [x])
      rw [List.length_append, List.length_singleton] at ih
      rw [e1, show acc.length + (l.length + 1) = acc.length + 1 + l.length by omega, ih, List.nodup_cons]
      constructor
      · rintro ⟨a, b⟩
        refine ⟨⟨fun z => b x z (by simp), a⟩, fun y hy => ?_⟩
        rcases List.mem_cons.mp hy with rfl | hy
        · exact hm
        · exact fun z => b y hy (List.mem_append.mpr (.inl z))
      · rintro ⟨⟨a, b⟩, c⟩
        refine ⟨b, fun y hy z => ?_⟩
        rcases List.mem_append.mp z with z | z
        · exact c y (List.mem_cons_of_mem _ hy) z
        · have : y = x := by simpa using z
          subst this; exact a hy
theorem range_getD (ns : List Int) : (List.range ns.length).map (fun i => ns.getD i 0) = ns := by
  apply List.ext_getElem (by simp)
  intro i h1 h2
  simp [List.getD_eq_getElem?_getD, List.getElem?_eq_getElem h2]
section
variable {X : Cx} {W : WX}
def kLenSet (K : PySem.W.Frag) (t : KE) : KE := fun σ G M R E => t σ G M (fun x G M => match x with
  | .ref a => ∃ ns : List Int, LstAt K G M a (ns.map V.int) ∧ ns.length ≤ 4000 ∧ ∀ m : Nat, m ≤ ns.length → (m = ns.length ↔ ns.Nodup) → R (.int m) G M
  | _ => False) E
theorem je_lenSet {a : Expr} {ta : KE} {p p2 q pos : Pos} (hm : X.mg "len" = none) (hm2 : X.mg "set" = none) (ha : JE X W a ta) (hc : X.calm = true := by rfl) (hg : Gl X "len" := by rfl) (hg2 : Gl X "set" := by rfl)
    (na : starEach [a] X.env = (false, eval a X.env) :: starEach [] X.env := by rfl) : JE X W (.Call (.Name "len" p) [.Call (.Name "set" p2) [a] [] q] [] pos) (kLenSet X.K ta) := by
  refine ⟨fun pins s σ H Q I ⟨G, M, R, E, hv, h, hR, hE⟩ => ?_⟩
  refine Call_ (ld_blt I hg hm PySem.boot_len ?_)
  refine PyProof.Rows.callWith_builtin1 (PyProof.Rows.args_cons ?_ rfl) rfl rfl
  refine Call_ (ld_blt I hg2 hm2 PyProof.Rows.boot_set ?_)
  refine PyProof.Rows.callWith_type1 (PyProof.Rows.args_cons (thn (ha.run pins s σ H (fun x H1 => ∃ (l : Addr) (ns : List Int), x = V.ref l ∧ SqL X.K H1 l (ns.map V.int) ∧ ns.length ≤ 4000 ∧ ∀ m : Nat, m ≤ ns.length → (m = ns.length ↔ ns.Nodup) → Q (.int m) H1) I ?_) fun v s1 ⟨x, H1, I1, r1, q1⟩ => PyProof.Rows.args_nil ?_) na) na rfl
  · refine ⟨G, M, _, E, hv, h, fun x G1 M1 H1 hv1 q => ?_, hE⟩
    match x, q with
    | .ref a, ⟨ns, q1, q2, q3⟩ => exact ⟨a, ns, rfl, hv1.lst q1, q2, fun m e1 e2 => hR _ G1 M1 H1 hv1 (q3 m e1 e2)⟩
  obtain ⟨l, ns, rfl, hq, h1, q1⟩ := q1
  cases r1
  obtain ⟨its, r, pl, hz⟩ := I1.list hq
  have hl : its.toArray.size = ns.length := by rw [List.size_toArray, ← r.length, List.length_map]
  refine call_set_list (I1.ok.hd hc) pl.isList (ns := ns) (by simpa using r.ints) (by unfold scanBound; omega) fun h' tk hS hk => ?_
  rw [hl] at hS
  have em : firstMet (fun i => ns.getD i 0) ns.length = ns.foldl step_dedup [] := by
    unfold firstMet; rw [range_getD]
  rw [em] at hS
  have hle := dedup_len ns []
  have heq := dedup_eq ns []
  rw [List.length_nil, Nat.zero_add] at hle heq
  refine PyProof.Rows.args_nil ?_
  obtain ⟨o, es, ep, t, ho, hex, hd, _, _, _, hf, hn⟩ := hS
  have I2 : Inv X pins σ H1 { s1 with heap := h', toks := tk } := I1.kept fun b o e => hk b o (Heap.lt_size e) e
  refine call_len_set ho hex hd hf (by rw [hn] <;> omega) ⟨.int _, H1, I2.tok _, ⟨_, by rw [hn]⟩, q1 _ hle (heq.trans ⟨fun z => z.1, fun z => ⟨z, fun x _ => by simp⟩⟩)⟩
/-! ### reversed(range(..)) -/
def revR (i j : Int) (R : Src → Hp → Mem → Prop) (G : Hp) (M : Mem) : Prop := (-(2 ^ 62) ≤ i ∧ i < 2 ^ 62 ∧ -(2 ^ 62) ≤ j ∧ j < 2 ^ 62) ∧ R (srcC (i + (((j - i).toNat : Nat) : Int) - 1) (-1) (j - i).toNat) G M
def kiRv1 (t : KE) : KI := fun σ G M R E => t σ G M (fun x G M => match x with
  | .int n => revR 0 n R G M
  | _ => False) E
def kiRv2 (t u : KE) : KI := fun σ G M R E => t σ G M (fun x G M => u σ G M (fun y G M => match x, y with
  | .int i, .int j => revR i j R G M
  | _, _ => False) E) E
theorem ji_rv1 {a tg : Expr} {t : KE} {p p2 pos pos2 : Pos} (hv : X.mg "reversed" = none) (hr : X.mg "range" = none) (ha : JE X W a t) (h1 : Gl X "reversed" := by rfl) (h2 : Gl X "range" := by rfl)
    (na : starEach [a] X.env = (false, eval a X.env) :: starEach [] X.env := by rfl) (nb : starEach [.Call (.Name "range" p2) [a] [] pos2] X.env = (false, eval (.Call (.Name "range" p2) [a] [] pos2) X.env) :: starEach [] X.env := by rfl) :
    JI X W tg (.Call (.Name "reversed" p) [.Call (.Name "range" p2) [a] [] pos2] [] pos) (kiRv1 t) :=
  pi_mono (pi_revR h1 hv (prg_1 h2 hr ha na) nb) fun σ H Q ⟨G, M, R, E, hv, h, hR, hE⟩ => ⟨G, M, _, E, hv, h, fun x G1 M1 H1 hv1 q => by
    match x, q with
    | .int n, ⟨⟨q1, q2, q3, q4⟩, q5⟩ => exact ⟨n, rfl, q1, q2, q3, q4, hR _ G1 M1 H1 hv1 q5 _ goes_C⟩, hE⟩
theorem ji_rv2 {a b tg : Expr} {t u : KE} {p p2 pos pos2 : Pos} (hv : X.mg "reversed" = none) (hr : X.mg "range" = none) (ha : JE X W a t) (hb : JE X W b u) (h1 : Gl X "reversed" := by rfl) (h2 : Gl X "range" := by rfl)
    (na : starEach [a, b] X.env = (false, eval a X.env) :: starEach [b] X.env := by rfl) (nb : starEach [b] X.env = (false, eval b X.env) :: starEach [] X.env := by rfl) (hp : (backTo pos2 (starEach [b] X.env)).any (·.1) = false := by rfl)
    (nc : starEach [.Call (.Name "range" p2) [a, b] [] pos2] X.env = (false, eval (.Call (.Name "range" p2) [a, b] [] pos2) X.env) :: starEach [] X.env := by rfl) :
    JI X W tg (.Call (.Name "reversed" p) [.Call (.Name "range" p2) [a, b] [] pos2] [] pos) (kiRv2 t u) :=
  pi_mono (pi_revR h1 hv (prg_2 h2 hr ha hb na nb hp) nc) fun σ H Q ⟨G, M, R, E, hv, h, hR, hE⟩ => ⟨G, M, _, E, hv, h, fun x G1 M1 H1 hv1 q => ⟨G1, M1, _, E, hv1, q, fun y G2 M2 H2 hv2 q => by
    match x, y, q with
    | .int i, .int j, ⟨⟨q1, q2, q3, q4⟩, q5⟩ => exact ⟨i, j, rfl, rfl, q1, q2, q3, q4, hR _ G2 M2 H2 hv2 q5 _ goes_C⟩, hE⟩, hE⟩
/-! ### index, insert, pop, clear, tuple(), bool() -/
theorem km_index : KMt X "list.index" (kIndex X.K) := kmt_of mt_index fun x vs G M R H Q hv h hR => by
  match x, vs, h with
  | .ref a, [y], ⟨ys, j, z, h1, h2, h3, h4, h5, h6, h7⟩ => exact ⟨a, ys, y, j, z, rfl, rfl, hv.lst h1, h2, h3, h4, h5, h6, hR _ G M H hv h7⟩
def kInsert : KM := fun x vs G M R => match x, vs with
  | .ref a, [.int i, y] => ∃ n xs, M[n]? = some (a, .lst xs) ∧ xs.length < sizeLine ∧ 0 ≤ i ∧ i < 2 ^ 63 ∧ R .non G (M.set n (a, .lst (xs.take i.toNat ++ [y] ++ xs.drop i.toNat)))
  | _, _ => False
theorem km_insert : KMt X "list.insert" kInsert := kmt_of mt_insert fun x vs G M R H Q hv h hR => by
  match x, vs, h with
  | .ref a, [.int i, y], ⟨n, xs, h1, h2, h3, h4, h5⟩ => exact ⟨a, xs, i, y, rfl, rfl, hv.get h1, h2, h3, h4, hR _ G _ _ (hv.set h1) h5⟩
def kTuple (K : PySem.W.Frag) : KC := fun vs G M R => match vs with
  | [.ref a] => (∃ xs, LstAt K G M a xs ∧ ∀ p, Fr G M p → R (.ref p) (upd G p (.tup xs)) M) ∨ ∃ xs, SqT K G a xs ∧ R (.ref a) G M
  | _ => False
theorem kc_tuple : KCall X (.type "tuple") (kTuple X.K) := kcall_of call_tuple_of fun vs G M R H Q hv h hR => by
  match vs, h with
  | [.ref a], .inl ⟨xs, h1, h2⟩ => exact ⟨a, xs, rfl, .inl ⟨hv.lst h1, fun p hp => hR _ _ M _ (hv.newG hp) (h2 p (hv.fr hp))⟩⟩
  | [.ref a], .inr ⟨xs, h1, h2⟩ => exact ⟨a, xs, rfl, .inr ⟨hv.tup h1, hR _ G M H hv h2⟩⟩
def kBool : KC := fun vs G M R => match vs with
  | [.int i] => R (.bl (i != 0)) G M
  | [.bl k] => R (.bl k) G M
  | _ => False
theorem kc_bool : KCall X (.type "bool") kBool := kcall_of call_bool1 fun vs G M R H Q hv h hR => by
  match vs, h with
  | [.int i], h => exact .inl ⟨i, rfl, hR _ G M H hv h⟩
  | [.bl i], h => exact .inr ⟨i, rfl, hR _ G M H hv h⟩
def kPopAt : KM := fun x vs G M R => match x, vs with
  | .ref a, [.int i] => ∃ n xs k y, M[n]? = some (a, .lst xs) ∧ -(2 ^ 63) ≤ i ∧ i < 2 ^ 63 ∧ seqIndex? i xs.length = some k ∧ xs[k]? = some y ∧ R y G (M.set n (a, .lst (xs.eraseIdx k)))
  | _, _ => False
def kPop : KM := fun x vs G M R => match x, vs with
  | .ref a, [] => ∃ n xs y, M[n]? = some (a, .lst xs) ∧ xs[xs.length - 1]? = some y ∧ R y G (M.set n (a, .lst xs.dropLast))
  | _, _ => False
def kClear : KM := fun x vs G M R => match x, vs with
  | .ref a, [] => ∃ n xs, M[n]? = some (a, .lst xs) ∧ R .non G (M.set n (a, .lst []))
  | _, _ => False
theorem km_popAt : KMt X "list.pop" kPopAt := kmt_of mt_popAt fun x vs G M R H Q hv h hR => by
  match x, vs, h with
  | .ref a, [.int i], ⟨n, xs, k, y, h1, h2, h3, h4, h5, h6⟩ => exact ⟨a, xs, i, k, y, rfl, rfl, hv.get h1, h2, h3, h4, h5, hR _ G _ _ (hv.set h1) h6⟩
theorem km_pop : KMt X "list.pop" kPop := kmt_of mt_pop fun x vs G M R H Q hv h hR => by
  match x, vs, h with
  | .ref a, [], ⟨n, xs, y, h1, h2, h3⟩ => exact ⟨a, xs, y, rfl, rfl, hv.get h1, h2, hR _ G _ _ (hv.set h1) h3⟩
theorem km_clear : KMt X "list.clear" kClear := kmt_of mt_clear fun x vs G M R H Q hv h hR => by
  match x, vs, h with
  | .ref a, [], ⟨n, xs, h1, h3⟩ => exact ⟨a, xs, rfl, rfl, hv.get h1, hR _ G _ _ (hv.set h1) h3⟩
/-! ### {k: v, ..} -/
def kPairs : List (KE × KE) → St → Hp → Mem → (List (V × V) → Hp → Mem → Prop) → KX → Prop
  | [], _, G, M, R, _ => R [] G M
  | (tk, tv) :: r, σ, G, M, R, E => tk σ G M (fun x G M => tv σ G M (fun y G M => kPairs r σ G M (fun ps G M => R ((x, y) :: ps) G M) E) E) E
def kDisp (trs : List (KE × KE)) : KE := fun σ G M R E => ∀ p, Fr G M p → kPairs trs σ G ((p, .dK []) :: M) (fun ps G M => ∃ (n : Nat) (kvs : List (Key × V)), M[n]? = some (p, .dK []) ∧ ps = kvs.map (fun kv => (kV kv.1, kv.2)) ∧ kvs.length ≤ 15 ∧ R (.ref p) G (M.set n (p, .dK (mergeK [] kvs)))) E
def JPs (X : Cx) (W : WX) (pos : Pos) (keys : List (Option Expr)) (values : List Expr) (trs : List (KE × KE)) : Prop := PPs X pos keys values (trs.map fun p => (upG W p.1, upG W p.2))
theorem jps_nil {pos : Pos} : JPs X W pos [] [] [] := pps_nil
theorem jps_cons {pos : Pos} {k v : Expr} {ks : List (Option Expr)} {vs : List Expr} {tk tv : KE} {trs : List (KE × KE)} (hk : JE X W k tk) (hv : JE X W v tv) (hr : JPs X W pos ks vs trs) : JPs X W pos (some k :: ks) (v :: vs) ((tk, tv) :: trs) := pps_cons hk hv hr
theorem pairs_sim {σ : St} {E : KX} (hE : ∀ c d G' M' H', Hv G' M' H' → E c d G' M' → W c d σ H') : ∀ (trs : List (KE × KE)) (G : Hp) (M : Mem) (R : List (V × V) → Hp → Mem → Prop) (H : Hp) (Q : List (V × V) → Hp → Prop), Hv G M H → kPairs trs σ G M R E →
    (∀ v G' M' H', Hv G' M' H' → R v G' M' → Q v H') → tPairs (trs.map fun p => (upG W p.1, upG W p.2)) σ H Q
  | [], G, M, R, H, Q, hv, h, hR => hR _ G M H hv h
  | (tk, tv) :: r, G, M, R, H, Q, hv, h, hR => ⟨G, M, _, E, hv, h, fun x G1 M1 H1 hv1 q1 => ⟨G1, M1, _, E, hv1, q1, fun y G2 M2 H2 hv2 q2 => pairs_sim hE r G2 M2 _ H2 _ hv2 q2 fun v G' M' H' hv' q => hR _ G' M' H' hv' q, hE⟩, hE⟩
theorem je_disp {pos : Pos} {keys : List (Option Expr)} {values : List Expr} {trs : List (KE × KE)} (h : JPs X W pos keys values trs) (hall : keys.all (·.isSome) = true := by rfl) (hl : keys.length = values.length := by rfl) (h0 : keys ≠ [] := by exact fun z => nomatch z) (h15 : keys.length ≤ 15 := by decide) :
    JE X W (.Dict keys values pos) (kDisp trs) := pe_mono (pe_disp h hall hl h0 h15) fun σ H Q ⟨G, M, R, E, hv, h, hR, hE⟩ => fun p hp =>
  pairs_sim hE trs G _ _ _ _ (hv.newM hp) (h p (hv.fr hp)) fun ps G' M' H' hv' ⟨n, kvs, q1, q2, q3, q4⟩ => ⟨hv'.get q1, kvs, q2, q3, hR _ G' _ _ (hv'.set q1) q4⟩
end
end BT
namespace BT
open PySem PySem.Spec L2
/-- what is walked, behind which something may be forgotten -/
def kiW (t : KI) : KI := fun σ G M R E => t σ G M (fun src G M => ∃ G' M', Wk G M G' M' ∧ R src G' M') E
theorem ji_w {X : Cx} {W : WX} {tg it : Expr} {t : KI} (h : JI X W tg it t) : JI X W tg it (kiW t) := pi_mono h fun σ H Q ⟨G, M, R, E, hv, h, hR, hE⟩ =>
  ⟨G, M, _, E, hv, h, fun src G1 M1 H1 hv1 ⟨G2, M2, w, q⟩ J go => hR src G2 M2 H1 (w H1 hv1) q J go, hE⟩
end BT
set_option Elab.async false
set_option linter.all false
set_option maxRecDepth 100000
set_option maxHeartbeats 4000000
namespace BT
open PySem PySem.Spec L2
open PyProof.Rows hiding St
/-! ### objects: the program's classes by number, their attributes by place -/
def clsN : Nat → Str × List Str
  | 0 => ("Plain", ["words"])
  | 1 => ("Keeper", ["log"])
  | 2 => ("Shelf", ["keeper", "number", "things"])
  | 3 => ("Scan", ["cells", "limit", "draws", "keeper", "made", "shelf"])
  | 4 => ("Spare", ["cells", "limit", "draws", "keeper", "made", "side", "order", "shelf", "hand"])
  | 5 => ("Stairs", ["cells", "limit", "draws", "keeper", "made", "climb", "hand", "shelves", "orders"])
  | 6 => ("Tree", ["cells", "limit", "draws", "keeper", "made", "body", "table"])
  | 7 => ("Grove", ["cells", "limit", "draws", "keeper", "made", "highs", "bodies", "start", "table"])
  | 8 => ("Body", ["shelf", "high", "firsts", "hand"])
  | 9 => ("Climb", ["cells", "last", "full", "drawn", "home", "held"])
  | 10 => ("Runner", ["program", "slates", "place"])
  | _ => ("Desk", ["stores"])
theorem cls_all {P : Str × List Str → Prop} (h : ∀ k, k < 12 → P (clsN k)) : ∀ k, P (clsN k) := fun k => by
  by_cases e : k < 12
  · exact h k e
  · have : clsN k = clsN 11 := by
      unfold clsN
      split <;> first | omega | rfl
    rw [this]; exact h 11 (by decide)
theorem cls_nodup : ∀ k, (clsN k).2.Nodup := cls_all (P := fun x => x.2.Nodup) (by decide +kernel)
theorem cls_few : ∀ k, (clsN k).2.length < 20 := cls_all (P := fun x => x.2.length < 20) (by decide +kernel)
def Ob (K : PySem.W.Frag) (k : Nat) (dx : Addr) (vs : List V) : HO := .ins (cl K (clsN k).1) dx ((clsN k).2.zip vs)
def putV : Nat → V → List V → List V
  | 0, y, [] => [y]
  | 0, y, _ :: r => y :: r
  | n + 1, y, x :: r => x :: putV n y r
  | _ + 1, _, [] => []
theorem zip_lookup : ∀ (ns : List Str) (vs : List V) (i : Nat) (f : Str), ns.Nodup → ns[i]? = some f → (ns.zip vs).lookup f = vs[i]?
  | [], _, _, _, _, h => by simp at h
  | n :: ns, [], i, f, _, _ => by simp
  | n :: ns, v :: vs, 0, f, _, h => by
    have e : n = f := by simpa using h
    subst e
    simp [List.zip_cons_cons, List.lookup]
  | n :: ns, v :: vs, i + 1, f, hn, h => by
    rw [List.nodup_cons] at hn
    have h2 : ns[i]? = some f := by simpa using h
    have ne : (f == n) = false := by
      rw [beq_eq_false_iff_ne]
      intro z
      exact hn.1 (z ▸ List.mem_of_getElem? h2)
    rw [List.zip_cons_cons, List.lookup, ne]
    simp only []
    rw [zip_lookup ns vs i f hn.2 h2]; simp
theorem zip_none : ∀ (ns : List Str) (vs : List V) (f : Str), f ∉ ns → (ns.zip vs).lookup f = none
  | [], _, _, _ => by simp
  | n :: ns, [], f, _ => by simp
  | n :: ns, v :: vs, f, h => by
    have ne : (f == n) = false := by
      rw [beq_eq_false_iff_ne]
      intro z
      exact h (z ▸ List.mem_cons_self)
    rw [List.zip_cons_cons, List.lookup, ne]
    exact zip_none ns vs f fun z => h (List.mem_cons_of_mem _ z)
theorem zip_put : ∀ (ns : List Str) (vs : List V) (i : Nat) (f : Str) (y : V), ns.Nodup → ns[i]? = some f → i ≤ vs.length → putF f y (ns.zip vs) = ns.zip (putV i y vs)
  | [], _, _, _, _, _, h, _ => by simp at h
  | n :: ns, [], 0, f, y, _, h, _ => by
    have e : n = f := by simpa using h
    subst e
    cases ns <;> rfl
  | n :: ns, [], i + 1, f, y, _, _, h => by simp at h
  | n :: ns, v :: vs, 0, f, y, _, h, _ => by
    have e : n = f := by simpa using h
    subst e
    show putF n y ((n, v) :: ns.zip vs) = _
    unfold putF
    rw [if_pos rfl]; rfl
  | n :: ns, v :: vs, i + 1, f, y, hn, h, hi => by
    rw [List.nodup_cons] at hn
    have h2 : ns[i]? = some f := by simpa using h
    have ne : ¬ n = f := fun z => hn.1 (z ▸ List.mem_of_getElem? h2)
    show putF f y ((n, v) :: ns.zip vs) = _
    unfold putF
    rw [if_neg ne, zip_put ns vs i f y hn.2 h2 (by simpa using hi)]; rfl
/-- what of the text a class must have -/
structure CK (K : PySem.W.Frag) (k : Nat) : Prop where
  cls : Cls K (cl K (clsN k).1)
  na : ∀ f ∈ (clsN k).2, NoAttr K (cl K (clsN k).1) f
theorem lookup_mem {α β : Type} [BEq α] [LawfulBEq α] : ∀ {l : List (α × β)} {a : α} {b : β}, l.lookup a = some b → (a, b) ∈ l
  | [], _, _, h => by simp at h
  | (x, y) :: l, a, b, h => by
    rw [List.lookup] at h
    split at h
    · rename_i e
      have e := eq_of_beq e
      cases h; subst e; exact List.mem_cons_self
    · exact List.mem_cons_of_mem _ (lookup_mem h)
section
variable {X : Cx} {W : WX} {pos : Pos}
/-- e.f; tab: the classes that have it, and its place -/
def kFld (K : PySem.W.Frag) (tab : List (Nat × Nat)) (t : KE) : KE := fun σ G M R E => t σ G M (fun x G M => match x with
  | .ref a => ∃ (k : Nat) (dx : Addr) (vs : List V) (i : Nat) (v : V), At G M a (Ob K k dx vs) ∧ tab.lookup k = some i ∧ vs[i]? = some v ∧ R v G M
  | _ => False) E
theorem je_fld {e : Expr} {f : Str} {tab : List (Nat × Nat)} {t : KE} (he : JE X W e t) (ht : ∀ p ∈ tab, CK X.K p.1 ∧ (clsN p.1).2[p.2]? = some f) (hb : attributeBase e f X.env (eval e X.env) = eval e X.env := by rfl) : JE X W (.Attribute e f pos) (kFld X.K tab t) :=
  pe_mono (pe_fld he hb) fun σ H Q ⟨G, M, R, E, hv, h, hR, hE⟩ => ⟨G, M, _, E, hv, h, fun x G1 M1 H1 hv1 q => by
    match x, q with
    | .ref a, ⟨k, dx, vs, i, v, q1, q2, q3, q4⟩ =>
      obtain ⟨ck, hf⟩ := ht (k, i) (lookup_mem q2)
      exact ⟨a, _, dx, _, v, rfl, hv1.at q1, ck.cls, ck.na f (List.mem_of_getElem? hf), by rw [zip_lookup _ _ i f (cls_nodup k) hf]; exact q3, hR _ G1 M1 H1 hv1 q4⟩, hE⟩
/-- o.f = e -/
def kFSet (K : PySem.W.Frag) (tab : List (Nat × Nat)) (to tv : KE) : KS := fun D σ G M => tv σ G M (fun y G M => to σ G M (fun x G M => match x with
  | .ref a => ∃ (n k : Nat) (dx : Addr) (vs : List V) (i : Nat), M[n]? = some (a, Ob K k dx vs) ∧ tab.lookup k = some i ∧ i ≤ vs.length ∧ D.nx σ G (M.set n (a, Ob K k dx (putV i y vs)))
  | _ => False) (D.x σ)) (D.x σ)
theorem js_fset {o value : Expr} {f : Str} {tab : List (Nat × Nat)} {to tv : KE} {pos' : Pos} (ho : JE X W o to) (hv : JE X W value tv) (ht : ∀ p ∈ tab, CK X.K p.1 ∧ (clsN p.1).2[p.2]? = some f)
    (hs : swapsWith value (some (.Attribute o f pos')) pos.line X.env = pure false := by rfl) : JS X W (.Assign [.Attribute o f pos'] value pos) (kFSet X.K tab to tv) :=
  ps_mono (ps_fld ho hv hs) fun D σ H ⟨G, M, d, hv, h, en⟩ => ⟨G, M, _, _, hv, h, fun y G1 M1 H1 hv1 q => ⟨G1, M1, _, _, hv1, q, fun x G2 M2 H2 hv2 q2 => by
    match x, q2 with
    | .ref a, ⟨n, k, dx, vs, i, q3, q4, q5, q6⟩ =>
      obtain ⟨ck, hf⟩ := ht (k, i) (lookup_mem q4)
      refine ⟨a, _, dx, _, rfl, hv2.get q3, ck.cls, ck.na f (List.mem_of_getElem? hf), ?_, ?_⟩
      · have := cls_few k
        rw [List.length_zip]; omega
      · rw [zip_put _ _ i f y (cls_nodup k) hf q5]
        exact en.nx _ G2 _ _ (hv2.set q3) q6, fun c a G' M' H' hv' q => en.xc c a σ G' M' H' hv' q⟩, fun c a G' M' H' hv' q => en.xc c a σ G' M' H' hv' q⟩
/-- a method that keeps its promise, of the class k -/
structure MDef (P : Program) (w : World) (K : PySem.W.Frag) (mg : Str → Option Value) (base : Heap) (lev : Nat) (k : Nat) (m : Str) (S : KSp) : Prop where
  ex : ∃ f fd ps, FnOk P w K mg base (L2.CX P w) lev f fd ps (lift S) ∧ Meth K (cl K (clsN k).1) m f ∧ Binds K fd ps []
  ck : CK K k
  no : m ∉ (clsN k).2
theorem MDef.mono {P : Program} {w : World} {K : PySem.W.Frag} {mg : Str → Option Value} {base : Heap} {lev lev' k : Nat} {m : Str} {S : KSp} (D : MDef P w K mg base lev k m S) (h : lev ≤ lev') : MDef P w K mg base lev' k m S := by
  obtain ⟨⟨f, fd, ps, F, a, b⟩, c, d⟩ := D
  exact ⟨⟨f, fd, ps, F.mono h, a, b⟩, c, d⟩
def kMeth (K : PySem.W.Frag) (tab : List (Nat × KSp)) (to : KE) (t : KA) : KE := fun σ G M R E => to σ G M (fun x G M => match x with
  | .ref a => ∃ (k : Nat) (dx : Addr) (vs : List V) (S : KSp), At G M a (Ob K k dx vs) ∧ tab.lookup k = some S ∧ t σ G M (fun ws G M => S (.ref a :: ws) G M R E) E
  | _ => False) E
theorem je_meth {pl : Sem Bool} {o e : Expr} {es : List Expr} {m : Str} {apos : Pos} {tab : List (Nat × KSp)} {k : Nat} {to : KE} {t : KA} (D : ∀ p ∈ tab, MDef X.prog X.w X.K X.mg X.base k p.1 m p.2) (hr : Room k X.A) (tk : Takes X W) (ho : JE X W o to) (ha : JA X W (e :: es) t)
    (hst : starEach (e :: es) X.env = (false, eval e X.env) :: starEach es X.env := by rfl) (hpl : (backTo pos (starEach es X.env)).any (·.1) = false := by rfl)
    (ht : eval (.Call (.Attribute o m apos) (e :: es) [] pos) X.env = (do
      let ov ← eval o X.env
      standAt apos.atName
      let (f, first) ← holding [ov] (getMethod ov m pl)
      callWith pos f first (backTo pos (starEach (e :: es) X.env)) (backToKw pos (keywordEach [] X.env))) := by rfl) :
    JE X W (.Call (.Attribute o m apos) (e :: es) [] pos) (kMeth X.K tab to t) := by
  refine ⟨fun pins s σ H Q I ⟨G, M, R, E, hv, h, hR, hE⟩ => ?_⟩
  refine PySem.W.methodCall_KW (pl := pl) (thn (ho.run pins s σ H (fun x H1 => ∃ (a k : Nat) (dx : Addr) (vs : List V) (S : KSp), x = .ref a ∧ H1 a = some (Ob X.K k dx vs) ∧ tab.lookup k = some S ∧ upG W t σ H1 fun ws H2 => lift S (.ref a :: ws) H2 Q (WE W σ)) I ?_) fun u s1 ⟨x, H1, I1, rx, a, k, dx, vs, S, ex, ea, l, q⟩ => ?_) ht
  · refine ⟨G, M, _, E, hv, h, fun x G1 M1 H1 hv1 q => ?_, hE⟩
    match x, q with
    | .ref a, ⟨k, dx, vs, S, q1, q2, q3⟩ => exact ⟨a, k, dx, vs, S, rfl, hv1.at q1, q2, G1, M1, _, E, hv1, q3, fun ws G2 M2 H2 hv2 q4 => ⟨G2, M2, R, E, hv2, q4, hR, hE⟩, hE⟩
  subst ex
  obtain rfl : u = Value.ref a := rx
  obtain ⟨⟨f, fd, ps, F, mt, hb⟩, ck, no⟩ := D (k, S) (lookup_mem l)
  refine getmeth_ok I1 ea ck.cls mt (zip_none _ _ _ no) ?_
  refine PySem.W.callWith_K (first := [.ref a]) (h₀ := X.base) I.ok.mod.kin mt.kp (thn (ha.run pos pins s1 σ H1 _ I1 q) fun us s2 ⟨vs, H2, I2, r, q2⟩ => ⟨I2.kIn, ?_⟩) hst hpl
  exact run_fnS (us := .ref a :: us) (vs := .ref a :: vs) F hr hb (passAt tk σ) I2 (.cons rfl r) q2
theorem je_meth0 {pl : Sem Bool} {o : Expr} {m : Str} {apos : Pos} {tab : List (Nat × KSp)} {k : Nat} {to : KE} (D : ∀ p ∈ tab, MDef X.prog X.w X.K X.mg X.base k p.1 m p.2) (hr : Room k X.A) (tk : Takes X W) (ho : JE X W o to)
    (ht : eval (.Call (.Attribute o m apos) [] [] pos) X.env = (do
      let ov ← eval o X.env
      standAt apos.atName
      let (f, first) ← holding [ov] (getMethod ov m pl)
      callWith pos f first (backTo pos (starEach [] X.env)) (backToKw pos (keywordEach [] X.env))) := by rfl) :
    JE X W (.Call (.Attribute o m apos) [] [] pos) (kMeth X.K tab to kNil) := by
  refine ⟨fun pins s σ H Q I ⟨G, M, R, E, hv, h, hR, hE⟩ => ?_⟩
  refine PySem.W.methodCall_KW (pl := pl) (thn (ho.run pins s σ H (fun x H1 => ∃ (a k : Nat) (dx : Addr) (vs : List V) (S : KSp), x = .ref a ∧ H1 a = some (Ob X.K k dx vs) ∧ tab.lookup k = some S ∧ lift S [.ref a] H1 Q (WE W σ)) I ?_) fun u s1 ⟨x, H1, I1, rx, a, k, dx, vs, S, ex, ea, l, q⟩ => ?_) ht
  · refine ⟨G, M, _, E, hv, h, fun x G1 M1 H1 hv1 q => ?_, hE⟩
    match x, q with
    | .ref a, ⟨k, dx, vs, S, q1, q2, q3⟩ => exact ⟨a, k, dx, vs, S, rfl, hv1.at q1, q2, G1, M1, R, E, hv1, q3, hR, hE⟩
  subst ex
  obtain rfl : u = Value.ref a := rx
  obtain ⟨⟨f, fd, ps, F, mt, hb⟩, ck, no⟩ := D (k, S) (lookup_mem l)
  refine getmeth_ok I1 ea ck.cls mt (zip_none _ _ _ no) ?_
  exact PySem.W.callWith_K0 (first := [.ref a]) I1.kIn mt.kp (run_fnS (us := [.ref a]) (vs := [.ref a]) F hr hb (passAt tk σ) I1 (.cons rfl .nil) q)
/-! C(..) -/
theorem run_makeS {CX : CXT} {k : Nat} {C f : Addr} {fd : FuncData} {ps : List Str} {sp : Sp} {E : XK} {pins : List (Addr × Obj)} {σ : St} {H : Hp} {s : Shared} {Q : VK} {us : List Value} {vs : List V} (M : Mk X.K C f) (F : FnOk X.prog X.w X.K X.mg X.base CX k f fd ps sp) (hr : Room (k + 1) X.A) (hb : Binds X.K fd ps [])
    (hx : PassesAt CX X σ E) (I : Inv X pins σ H s) (r : Vals vs us)
    (h : ∀ x dx, H x = none → H dx = none → dx ≠ x → sp (.ref x :: vs) (upd (upd H dx (.own x)) x (.ins C dx [])) (fun v H2 => v = .non ∧ Q (.ref x) H2) E) :
    wpAny (model X.prog X.w) X.A (call (.ref C) us) (EP X pins σ Q) X.xe s := by
  have hq := h (s.heap.objs.size + 1) s.heap.objs.size (I.hok.fresh (Nat.le_succ _)) (I.hok.fresh (Nat.le_refl _)) (Nat.ne_of_lt (Nat.lt_succ_self _))
  have I2 := Inv.made (C := C) I
  have r2 : Vals (V.ref (s.heap.objs.size + 1) :: vs) (Value.ref (s.heap.objs.size + 1) :: us) := .cons rfl r
  have hl : (Value.ref (s.heap.objs.size + 1) :: us ++ []).length = ps.length := by
    have e := r2.length
    rw [F.len _ _ _ _ hq] at e
    rw [List.append_nil]
    exact e.symm
  have hb2 := hb _ (Value.ref (s.heap.objs.size + 1) :: us) I2.kIn hl
  rw [List.append_nil] at hb2
  refine wpAny_call (make_map (f := f) I.kIn M.makes M.init (beq_iff_eq.mp M.fn) (codeAny_mono (F.run _ X.stack _ _ ⟨Value.ref (s.heap.objs.size + 1) :: us, []⟩ (Value.ref (s.heap.objs.size + 1) :: us) _ _ E (hr.make C us [])
    (I2.env0.make C us []) hb2 r2 hq) fun r s' hq' => ?_))
  cases r with
  | error e => exact hx pins _ _ e s' I2 hq'
  | ok fl =>
    cases fl with
    | ret u =>
      obtain ⟨v, H', I3, rv, ev, q3⟩ := I2.after hq'
      subst ev
      exact ⟨rv, ⟨V.ref (s.heap.objs.size + 1), H', I3, rfl, q3⟩⟩
    | next => exact False.elim hq'
    | brk => exact False.elim hq'
    | cont => exact False.elim hq'
structure CDef (P : Program) (w : World) (K : PySem.W.Frag) (mg : Str → Option Value) (base : Heap) (lev : Nat) (k : Nat) (x : Str) (S : KSp) : Prop where
  ex : ∃ f fd ps, FnOk P w K mg base (L2.CX P w) lev f fd ps (lift S) ∧ Mk K (cl K (clsN k).1) f ∧ Binds K fd ps []
  g : mg x = some (.ref (cl K (clsN k).1))
def kMake (K : PySem.W.Frag) (k : Nat) (S : KSp) (t : KA) : KE := fun σ G M R E => t σ G M (fun vs G M => ∀ x dx, Fr G M x → S (.ref x :: vs) G ((x, Ob K k dx []) :: M) (fun v G M => v = .non ∧ R (.ref x) G M) E) E
theorem ob_nil {K : PySem.W.Frag} {k : Nat} {dx : Addr} : Ob K k dx [] = .ins (cl K (clsN k).1) dx [] := by unfold Ob; rw [List.zip_nil_right]
theorem make_sim {k : Nat} {S : KSp} {σ : St} {vs : List V} {G : Hp} {M : Mem} {R : KR} {E : KX} {H : Hp} {Q : VK} (hv : Hv G M H) (q : ∀ x dx, Fr G M x → S (.ref x :: vs) G ((x, Ob X.K k dx []) :: M) (fun v G M => v = .non ∧ R (.ref x) G M) E)
    (hR : ∀ v G' M' H', Hv G' M' H' → R v G' M' → Q v H') (hE : ∀ c d G' M' H', Hv G' M' H' → E c d G' M' → W c d σ H') (x dx : Addr) (hx : H x = none) (hd : H dx = none) (hne : dx ≠ x) :
    lift S (.ref x :: vs) (upd (upd H dx (.own x)) x (.ins (cl X.K (clsN k).1) dx [])) (fun v H2 => v = .non ∧ Q (.ref x) H2) (WE W σ) := by
  have h1 : Hv G M (upd H dx (.own x)) := hv.junk hd
  have h2 : (upd H dx (.own x)) x = none := by rw [upd_ne (Ne.symm hne)]; exact hx
  refine ⟨G, _, fun v G M => v = .non ∧ R (.ref x) G M, E, h1.newM (o := .ins (cl X.K (clsN k).1) dx []) h2, by rw [← ob_nil]; exact q x dx (hv.fr hx), fun v G' M' H' hv' q => ⟨q.1, hR _ G' M' H' hv' q.2⟩, fun c d G' M' H' hv' q => hE c d G' M' H' hv' q⟩
theorem je_make {k lev cid : Nat} {x : Str} {p : Pos} {e : Expr} {es : List Expr} {S : KSp} {t : KA} (D : CDef X.prog X.w X.K X.mg X.base lev cid x S) (hk : PySem.W.keepIn X.K (.ref (cl X.K (clsN cid).1)) = true) (hr : Room k X.A) (tk : Takes X W) (ha : JA X W (e :: es) t) (hl : lev + 1 ≤ k := by decide) (hg : Gl X x := by rfl)
    (hdb : (x == ("__debug__" : Str)) = false := by decide) (he : starEach (e :: es) X.env = (false, eval e X.env) :: starEach es X.env := by rfl) (hpl : (backTo pos (starEach es X.env)).any (·.1) = false := by rfl) :
    JE X W (.Call (.Name x p) (e :: es) [] pos) (kMake X.K cid S t) := by
  obtain ⟨⟨f, fd, ps, F, mk, hb⟩, hm⟩ := D
  obtain ⟨k', rfl⟩ : ∃ k', k = k' + 1 := ⟨k - 1, by omega⟩
  refine ⟨fun pins s σ H Q I ⟨G, M, R, E, hv, h, hR, hE⟩ => ?_⟩
  refine wpAny_Call_Name_kw (ld_glob I hg hm ?_ hdb)
  refine PySem.W.callWith_K (h₀ := X.base) I.ok.mod.kin hk (thn (ha.run pos pins s σ H (fun vs H1 => ∀ x dx, H1 x = none → H1 dx = none → dx ≠ x → lift S (.ref x :: vs) (upd (upd H1 dx (.own x)) x (.ins (cl X.K (clsN cid).1) dx [])) (fun v H2 => v = .non ∧ Q (.ref x) H2) (WE W σ)) I ?_) fun us s1 ⟨vs, H1, I1, r, q⟩ => ⟨I1.kIn, ?_⟩) he hpl
  · exact ⟨G, M, _, E, hv, h, fun vs G1 M1 H1 hv1 q x dx hx hd hne => make_sim hv1 q hR hE x dx hx hd hne, hE⟩
  · exact run_makeS mk (F.mono (by omega)) hr hb (passAt tk σ) I1 r q
theorem je_make0 {k lev cid : Nat} {x : Str} {p : Pos} {S : KSp} (D : CDef X.prog X.w X.K X.mg X.base lev cid x S) (hk : PySem.W.keepIn X.K (.ref (cl X.K (clsN cid).1)) = true) (hr : Room k X.A) (tk : Takes X W) (hl : lev + 1 ≤ k := by decide) (hg : Gl X x := by rfl)
    (hdb : (x == ("__debug__" : Str)) = false := by decide) : JE X W (.Call (.Name x p) [] [] pos) (kMake X.K cid S kNil) := by
  obtain ⟨⟨f, fd, ps, F, mk, hb⟩, hm⟩ := D
  obtain ⟨k', rfl⟩ : ∃ k', k = k' + 1 := ⟨k - 1, by omega⟩
  refine ⟨fun pins s σ H Q I ⟨G, M, R, E, hv, h, hR, hE⟩ => ?_⟩
  refine wpAny_Call_Name_kw (ld_glob I hg hm ?_ hdb)
  refine PySem.W.callWith_K0 I.kIn hk (run_makeS (us := []) (vs := []) mk (F.mono (by omega)) hr hb (passAt tk σ) I .nil fun x dx hx hd hne => make_sim hv h hR hE x dx hx hd hne)
/-! C.m(self, ..), m a def of the class C -/
structure FDef (P : Program) (w : World) (K : PySem.W.Frag) (mg : Str → Option Value) (base : Heap) (lev : Nat) (x m : Str) (S : KSp) : Prop where
  ex : ∃ f fd ps, FnOk P w K mg base (L2.CX P w) lev f fd ps (lift S) ∧ PySem.W.findCls K (.ref (cl K x)) (.type "type") m = some (.val (.ref f)) ∧ Binds K fd ps [] ∧ PySem.W.keepIn K (.ref f) = true
  g : mg x = some (.ref (cl K x))
  rd : PySem.W.readsIn K (cl K x) (.type "type") = true
  ga : PySem.W.specialIn K (.ref (cl K x)) "__getattribute__" = some (some (.builtin "type.__getattribute__"))
theorem je_clsCall {pl : Sem Bool} {k lev : Nat} {x m : Str} {p apos : Pos} {e : Expr} {es : List Expr} {S : KSp} {t : KA} (D : FDef X.prog X.w X.K X.mg X.base lev x m S) (hr : Room k X.A) (tk : Takes X W) (ha : JA X W (e :: es) t) (hl : lev ≤ k := by decide) (hg : Gl X x := by rfl)
    (hdb : (x == ("__debug__" : Str)) = false := by decide) (hst : starEach (e :: es) X.env = (false, eval e X.env) :: starEach es X.env := by rfl) (hpl : (backTo pos (starEach es X.env)).any (·.1) = false := by rfl)
    (ht : eval (.Call (.Attribute (.Name x p) m apos) (e :: es) [] pos) X.env = (do
      let ov ← eval (.Name x p) X.env
      standAt apos.atName
      let (f, first) ← holding [ov] (getMethod ov m pl)
      callWith pos f first (backTo pos (starEach (e :: es) X.env)) (backToKw pos (keywordEach [] X.env))) := by rfl) :
    JE X W (.Call (.Attribute (.Name x p) m apos) (e :: es) [] pos) (kCall S t) := by
  obtain ⟨⟨f, fd, ps, F, hf, hb, hkp⟩, hm, rd, ga⟩ := D
  refine ⟨fun pins s σ H Q I ⟨G, M, R, E, hv, h, hR, hE⟩ => ?_⟩
  refine PySem.W.methodCall_KW (pl := pl) (ld_glob I hg hm ?_ hdb) ht
  refine PySem.W.method_cls I.kIn ga (PySem.W.cls_value I.kIn rd hf rfl ?_)
  refine PySem.W.callWith_K (first := []) (h₀ := X.base) I.ok.mod.kin hkp (thn (ha.run pos pins _ σ H (fun vs H1 => lift S vs H1 Q (WE W σ)) (I.tok _) ?_) fun us s2 ⟨vs, H2, I2, r, q2⟩ => ⟨I2.kIn, ?_⟩) hst hpl
  · exact ⟨G, M, _, E, hv, h, fun vs G1 M1 H1 hv1 q => ⟨G1, M1, R, E, hv1, q, hR, hE⟩, hE⟩
  · exact run_fnS (us := us) (vs := vs) (F.mono hl) hr hb (passAt tk σ) I2 r q2
end
end BT
namespace BT
open PySem PySem.Spec L2
open PyProof.Rows hiding St
section
variable {P : Program} {w : World} {K : PySem.W.Frag} {mg : Str → Option Value} {base : Heap} {k lev : Nat} {C f : Addr} {fd : FuncData} {ps : List Str} {S : KSp} {x m : Str}
theorem ck_mk (a : PySem.W.nsIn K mainGlobals (clsN k).1 = some (some (.ref C))) (h1 : PySem.W.plainGet K C Str.empty = true) (h2 : PySem.W.hasDictIn K C = true) (h3 : PySem.W.plainOver K C = true)
    (h4 : PySem.W.findIn K (.ref C) "__setattr__" = some (some (.builtin "object.__setattr__"))) (h5 : ∀ f ∈ (clsN k).2, PySem.W.findIn K (.ref C) f = some none) : CK K k := by
  have e := cl_of a
  exact ⟨by rw [e]; exact ⟨h1, h2, h3, h4⟩, by rw [e]; exact h5⟩
theorem keep_mk (a : PySem.W.nsIn K mainGlobals (clsN k).1 = some (some (.ref C))) (h : PySem.W.keepIn K (.ref C) = true) : PySem.W.keepIn K (.ref (cl K (clsN k).1)) = true := by
  rw [cl_of a]; exact h
theorem cd_mk (hx : (clsN k).1 = x) (a : PySem.W.nsIn K mainGlobals (clsN k).1 = some (some (.ref C))) (g : mg x = some (.ref C)) (F : FnOk P w K mg base (L2.CX P w) lev f fd ps (lift S)) (h1 : PySem.W.makesIn K C = true) (h2 : PySem.W.findIn K (.ref C) "__init__" = some (some (.ref f)))
    (h3 : PySem.W.isFn K (.ref f) = true) (h4 : PySem.W.keepIn K (.ref C) = true) (b : Binds K fd ps []) : CDef P w K mg base lev k x S := by
  have e := cl_of a
  exact ⟨⟨f, fd, ps, F, by rw [e]; exact ⟨h1, h2, h3, h4⟩, b⟩, by rw [e]; exact g⟩
theorem md_mk (a : PySem.W.nsIn K mainGlobals (clsN k).1 = some (some (.ref C))) (F : FnOk P w K mg base (L2.CX P w) lev f fd ps (lift S)) (h1 : PySem.W.findIn K (.ref C) m = some (some (.ref f))) (h2 : PySem.W.isFn K (.ref f) = true) (h3 : PySem.W.keepIn K (.ref f) = true) (b : Binds K fd ps [])
    (ck : CK K k) (no : m ∉ (clsN k).2) : MDef P w K mg base lev k m S := by
  have e := cl_of a
  exact ⟨⟨f, fd, ps, F, by rw [e]; exact ⟨h1, h2, h3⟩, b⟩, ck, no⟩
theorem fd_mk (a : PySem.W.nsIn K mainGlobals x = some (some (.ref C))) (g : mg x = some (.ref C)) (F : FnOk P w K mg base (L2.CX P w) lev f fd ps (lift S)) (h1 : PySem.W.findCls K (.ref C) (.type "type") m = some (.val (.ref f))) (b : Binds K fd ps []) (h2 : PySem.W.keepIn K (.ref f) = true)
    (h3 : PySem.W.readsIn K C (.type "type") = true) (h4 : PySem.W.specialIn K (.ref C) "__getattribute__" = some (some (.builtin "type.__getattribute__"))) : FDef P w K mg base lev x m S := by
  have e := cl_of a
  exact ⟨⟨f, fd, ps, F, by rw [e]; exact h1, b, h2⟩, by rw [e]; exact g, by rw [e]; exact h3, by rw [e]; exact h4⟩
end
end BT
set_option Elab.async false
set_option linter.all false
set_option maxRecDepth 100000
set_option maxHeartbeats 4000000
namespace BT
open PySem PySem.Spec L2
open PyProof.Rows hiding St
/-! ### dicts whose keys are ints and texts -/
section
variable {X : Cx} {W : WX} {pos : Pos} {o i e f : Expr}
def kDIn (neg : Bool) (ty td : KE) : KE := fun σ G M R E => ty σ G M (fun y G M => td σ G M (fun x G M => match x with
  | .ref a => ∃ (kvs : List (Key × V)) (k : Key), At G M a (.dK kvs) ∧ y = kV k ∧ R (.bl (if neg then !(valV kvs k).isSome else (valV kvs k).isSome)) G M
  | _ => False) E) E
theorem din_sim {ty td : KE} {σ : St} {H : Hp} {Q : VK} (h : upG W (kDIn false ty td) σ H Q) : tDIn (upG W ty) (upG W td) σ H Q := by
  obtain ⟨G, M, R, E, hv, h, hR, hE⟩ := h
  exact ⟨G, M, _, E, hv, h, fun y G1 M1 H1 hv1 q1 => ⟨G1, M1, _, E, hv1, q1, fun x G2 M2 H2 hv2 q2 => by
    match x, q2 with
    | .ref a, ⟨kvs, k, q3, q4, q5⟩ => subst q4; exact ⟨a, _, rfl, DGet.k (hv2.at q3), hR _ G2 M2 H2 hv2 q5⟩, hE⟩, hE⟩
theorem dnotin_sim {ty td : KE} {σ : St} {H : Hp} {Q : VK} (h : upG W (kDIn true ty td) σ H Q) : tDNotIn (upG W ty) (upG W td) σ H Q := by
  obtain ⟨G, M, R, E, hv, h, hR, hE⟩ := h
  exact ⟨G, M, _, E, hv, h, fun y G1 M1 H1 hv1 q1 => ⟨G1, M1, _, E, hv1, q1, fun x G2 M2 H2 hv2 q2 => by
    match x, q2 with
    | .ref a, ⟨kvs, k, q3, q4, q5⟩ => subst q4; exact ⟨a, _, rfl, DGet.k (hv2.at q3), hR _ G2 M2 H2 hv2 q5⟩, hE⟩, hE⟩
theorem je_din {ty td : KE} (hu : X.A.units + 64 < cLine) (hi : JE X W i ty) (ho : JE X W o td) (hm : behindInMarks .In o = false := by first | rfl | with_unfolding_all rfl) : JE X W (.Compare i [.In] [o] pos) (kDIn false ty td) := pe_mono (pe_cmp (pc_din (by omega) hi ho) hm) fun _ _ _ h => din_sim h
theorem jt_din {ty td : KE} (hu : X.A.units + 64 < cLine) (hi : JE X W i ty) (ho : JE X W o td) (hm : behindInMarks .In o = false := by first | rfl | with_unfolding_all rfl) : JT X W (.Compare i [.In] [o] pos) (kT (kDIn false ty td)) := pt_mono (pt_cmp (pc_din (by omega) hi ho) hm) fun _ _ _ h => din_sim (t_sim h)
theorem je_dnotin {ty td : KE} (hu : X.A.units + 64 < cLine) (hi : JE X W i ty) (ho : JE X W o td) (hm : behindInMarks .NotIn o = false := by first | rfl | with_unfolding_all rfl) : JE X W (.Compare i [.NotIn] [o] pos) (kDIn true ty td) := pe_mono (pe_cmp (pc_dnotin (by omega) hi ho) hm) fun _ _ _ h => dnotin_sim h
theorem jt_dnotin {ty td : KE} (hu : X.A.units + 64 < cLine) (hi : JE X W i ty) (ho : JE X W o td) (hm : behindInMarks .NotIn o = false := by first | rfl | with_unfolding_all rfl) : JT X W (.Compare i [.NotIn] [o] pos) (kT (kDIn true ty td)) := pt_mono (pt_cmp (pc_dnotin (by omega) hi ho) hm) fun _ _ _ h => dnotin_sim (t_sim h)
/-- d[k] -/
def kDGet : KR2 := fun x y G M R => match x with
  | .ref a => ∃ (kvs : List (Key × V)) (k : Key) (v : V), At G M a (.dK kvs) ∧ y = kV k ∧ valV kvs k = some v ∧ R v G M
  | _ => False
theorem je_dget {ta tb : KE} (hu : X.A.units + 64 < cLine) (ha : JE X W o ta) (hb : JE X W i tb) (hs : NoSl i := by exact fun _ _ => rfl) : JE X W (.Subscript o i pos) (kBin kDGet ta tb) :=
  pe_mono (pe_dget (by omega) ha hb hs) fun σ H Q ⟨G, M, R, E, hv, h, hR, hE⟩ => ⟨G, M, _, E, hv, h, fun x G1 M1 H1 hv1 q1 => ⟨G1, M1, _, E, hv1, q1, fun y G2 M2 H2 hv2 q2 => by
    match x, q2 with
    | .ref a, ⟨kvs, k, v, q3, q4, q5, q6⟩ =>
      subst q4
      refine ⟨a, v, rfl, ?_, hR _ G2 M2 H2 hv2 q6⟩
      rw [← q5]; exact DGet.k (hv2.at q3), hE⟩, hE⟩
/-- d[k] = v -/
def kDSet (td ty tv : KE) : KS := fun D σ G M => tv σ G M (fun v G M => td σ G M (fun x G M => ty σ G M (fun y G M => match x with
  | .ref a => ∃ (n : Nat) (kvs : List (Key × V)) (k : Key), M[n]? = some (a, .dK kvs) ∧ y = kV k ∧ kvs.length < sizeLine ∧ D.nx σ G (M.set n (a, .dK (putK kvs k v)))
  | _ => False) (D.x σ)) (D.x σ)) (D.x σ)
theorem js_dset {td ty tv : KE} {value : Expr} {pos' : Pos} (hu : X.A.units + 64 < cLine) (ho : JE X W o td) (hi : JE X W i ty) (hv : JE X W value tv) (hs : swapsWith value (some (.Subscript o i pos')) pos.line X.env = pure false := by rfl) :
    JS X W (.Assign [.Subscript o i pos'] value pos) (kDSet td ty tv) := ps_mono (ps_dput (by omega) ho hi hv hs) fun D σ H ⟨G, M, d, hv, h, en⟩ =>
  ⟨G, M, _, _, hv, h, fun v G1 M1 H1 hv1 q => ⟨G1, M1, _, _, hv1, q, fun x G2 M2 H2 hv2 q2 => ⟨G2, M2, _, _, hv2, q2, fun y G3 M3 H3 hv3 q3 => by
    match x, q3 with
    | .ref a, ⟨n, kvs, k, q4, q5, q6, q7⟩ => subst q5; exact ⟨a, _, rfl, DPut.k (hv3.get q4) q6, en.nx _ G3 _ _ (hv3.set q4) q7⟩, fun c a G' M' H' hv' q => en.xc c a σ G' M' H' hv' q⟩, fun c a G' M' H' hv' q => en.xc c a σ G' M' H' hv' q⟩, fun c a G' M' H' hv' q => en.xc c a σ G' M' H' hv' q⟩
/-- d.get(k, x), d.get(k) -/
def kDGet2 (td ty tx : KE) : KE := fun σ G M R E => td σ G M (fun x G M => match x with
  | .ref a => (∃ kvs, At G M a (.dK kvs)) ∧ ty σ G M (fun y G M => tx σ G M (fun z G M => ∃ (kvs : List (Key × V)) (k : Key), At G M a (.dK kvs) ∧ y = kV k ∧ R ((valV kvs k).getD z) G M) E) E
  | _ => False) E
theorem je_dget2 {td ty tx : KE} {apos cpos : Pos} (hu : X.A.units + 64 < cLine) (ho : JE X W o td) (he : JE X W e ty) (hf : JE X W f tx) (m : M2 X o "get" apos e f cpos := by exact ⟨rfl, rfl, rfl, rfl⟩) : JE X W (.Call (.Attribute o "get" apos) [e, f] [] cpos) (kDGet2 td ty tx) :=
  pe_mono (pe_dget2 (by omega) ho he hf m) fun σ H Q ⟨G, M, R, E, hv, h, hR, hE⟩ => ⟨G, M, _, E, hv, h, fun x G1 M1 H1 hv1 q1 => by
    match x, q1 with
    | .ref a, ⟨⟨kvs, q2⟩, q3⟩ => exact ⟨a, rfl, .inl ⟨kvs, .inl (hv1.at q2)⟩, G1, M1, _, E, hv1, q3, fun y G2 M2 H2 hv2 q4 => ⟨G2, M2, _, E, hv2, q4, fun z G3 M3 H3 hv3 q5 => by
        obtain ⟨kvs, k, q6, q7, q8⟩ := q5
        subst q7
        exact ⟨_, DGet.k (hv3.at q6), hR _ G3 M3 H3 hv3 q8⟩, hE⟩, hE⟩, hE⟩
def kDGet1 (td ty : KE) : KE := fun σ G M R E => td σ G M (fun x G M => match x with
  | .ref a => (∃ kvs, At G M a (.dK kvs)) ∧ ty σ G M (fun y G M => ∃ (kvs : List (Key × V)) (k : Key), At G M a (.dK kvs) ∧ y = kV k ∧ R ((valV kvs k).getD .non) G M) E
  | _ => False) E
theorem je_dget1 {td ty : KE} {apos cpos : Pos} (hu : X.A.units + 64 < cLine) (ho : JE X W o td) (he : JE X W e ty) (m : M1 X o "get" apos e cpos := by exact ⟨rfl, rfl, rfl, rfl⟩) : JE X W (.Call (.Attribute o "get" apos) [e] [] cpos) (kDGet1 td ty) :=
  pe_mono (pe_dget1 (by omega) ho he m) fun σ H Q ⟨G, M, R, E, hv, h, hR, hE⟩ => ⟨G, M, _, E, hv, h, fun x G1 M1 H1 hv1 q1 => by
    match x, q1 with
    | .ref a, ⟨⟨kvs, q2⟩, q3⟩ => exact ⟨a, rfl, .inl ⟨kvs, .inl (hv1.at q2)⟩, G1, M1, _, E, hv1, q3, fun y G2 M2 H2 hv2 q5 => by
        obtain ⟨kvs, k, q6, q7, q8⟩ := q5
        subst q7
        exact ⟨_, DGet.k (hv2.at q6), hR _ G2 M2 H2 hv2 q8⟩, hE⟩, hE⟩
/-- d.pop(k, x), d.pop(k) -/
def kDPop2 (td ty tx : KE) : KE := fun σ G M R E => td σ G M (fun x G M => match x with
  | .ref a => (∃ kvs, At G M a (.dK kvs)) ∧ ty σ G M (fun y G M => tx σ G M (fun z G M => ∃ (n : Nat) (kvs : List (Key × V)) (k : Key), M[n]? = some (a, .dK kvs) ∧ y = kV k ∧ (∀ v, valV kvs k = some v → R v G (M.set n (a, .dK (dropK kvs k)))) ∧ (valV kvs k = none → R z G M)) E) E
  | _ => False) E
theorem je_dpop2 {td ty tx : KE} {apos cpos : Pos} (ho : JE X W o td) (he : JE X W e ty) (hf : JE X W f tx) (m : M2 X o "pop" apos e f cpos := by exact ⟨rfl, rfl, rfl, rfl⟩) : JE X W (.Call (.Attribute o "pop" apos) [e, f] [] cpos) (kDPop2 td ty tx) :=
  pe_mono (pe_dpop2 ho he hf m) fun σ H Q ⟨G, M, R, E, hv, h, hR, hE⟩ => ⟨G, M, _, E, hv, h, fun x G1 M1 H1 hv1 q1 => by
    match x, q1 with
    | .ref a, ⟨⟨kvs, q2⟩, q3⟩ => exact ⟨a, rfl, .inl ⟨kvs, .inl (hv1.at q2)⟩, G1, M1, _, E, hv1, q3, fun y G2 M2 H2 hv2 q4 => ⟨G2, M2, _, E, hv2, q4, fun z G3 M3 H3 hv3 q5 => by
        obtain ⟨n, kvs, k, q6, q7, q8, q9⟩ := q5
        exact ⟨kvs, k, hv3.get q6, q7, fun v hv => hR _ G3 _ _ (hv3.set q6) (q8 v hv), fun hv => hR _ G3 M3 H3 hv3 (q9 hv)⟩, hE⟩, hE⟩, hE⟩
def kDPop1 (td ty : KE) : KE := fun σ G M R E => td σ G M (fun x G M => match x with
  | .ref a => (∃ kvs, At G M a (.dK kvs)) ∧ ty σ G M (fun y G M => ∃ (n : Nat) (kvs : List (Key × V)) (k : Key) (v : V), M[n]? = some (a, .dK kvs) ∧ y = kV k ∧ valV kvs k = some v ∧ R v G (M.set n (a, .dK (dropK kvs k)))) E
  | _ => False) E
theorem je_dpop1 {td ty : KE} {apos cpos : Pos} (ho : JE X W o td) (he : JE X W e ty) (m : M1 X o "pop" apos e cpos := by exact ⟨rfl, rfl, rfl, rfl⟩) : JE X W (.Call (.Attribute o "pop" apos) [e] [] cpos) (kDPop1 td ty) :=
  pe_mono (pe_dpop1 ho he m) fun σ H Q ⟨G, M, R, E, hv, h, hR, hE⟩ => ⟨G, M, _, E, hv, h, fun x G1 M1 H1 hv1 q1 => by
    match x, q1 with
    | .ref a, ⟨⟨kvs, q2⟩, q3⟩ => exact ⟨a, rfl, .inl ⟨kvs, .inl (hv1.at q2)⟩, G1, M1, _, E, hv1, q3, fun y G2 M2 H2 hv2 q5 => by
        obtain ⟨n, kvs, k, v, q6, q7, q8, q9⟩ := q5
        exact ⟨kvs, k, v, hv2.get q6, q7, q8, hR _ G2 _ _ (hv2.set q6) q9⟩, hE⟩, hE⟩
/-- d.setdefault(k, x) -/
def kDSetd (td ty tx : KE) : KE := fun σ G M R E => td σ G M (fun x G M => match x with
  | .ref a => (∃ kvs, At G M a (.dK kvs)) ∧ ty σ G M (fun y G M => tx σ G M (fun z G M => ∃ (n : Nat) (kvs : List (Key × V)) (k : Key), M[n]? = some (a, .dK kvs) ∧ y = kV k ∧ kvs.length < sizeLine ∧ (∀ v, valV kvs k = some v → R v G M) ∧ (valV kvs k = none → R z G (M.set n (a, .dK (putK kvs k z))))) E) E
  | _ => False) E
theorem je_dsetd {td ty tx : KE} {apos cpos : Pos} (ho : JE X W o td) (he : JE X W e ty) (hf : JE X W f tx) (m : M2 X o "setdefault" apos e f cpos := by exact ⟨rfl, rfl, rfl, rfl⟩) : JE X W (.Call (.Attribute o "setdefault" apos) [e, f] [] cpos) (kDSetd td ty tx) :=
  pe_mono (pe_dsetd ho he hf m) fun σ H Q ⟨G, M, R, E, hv, h, hR, hE⟩ => ⟨G, M, _, E, hv, h, fun x G1 M1 H1 hv1 q1 => by
    match x, q1 with
    | .ref a, ⟨⟨kvs, q2⟩, q3⟩ => exact ⟨a, rfl, .inl ⟨kvs, .inl (hv1.at q2)⟩, G1, M1, _, E, hv1, q3, fun y G2 M2 H2 hv2 q4 => ⟨G2, M2, _, E, hv2, q4, fun z G3 M3 H3 hv3 q5 => by
        obtain ⟨n, kvs, k, q6, q7, q8, q9, q10⟩ := q5
        exact ⟨kvs, k, hv3.get q6, q7, q8, fun v hv => hR _ G3 M3 H3 hv3 (q9 v hv), fun hv => hR _ G3 _ _ (hv3.set q6) (q10 hv)⟩, hE⟩, hE⟩, hE⟩
/-- sorted(d), list(d), len(d) -/
def kSortedD : KC := fun vs G M R => match vs with
  | [.ref a] => ∃ (kvs : List (Key × V)) (ks : List Int), At G M a (.dK kvs) ∧ kvs.map (·.1) = ks.map Sum.inl ∧ ks.length < 64 ∧ ∀ (ys : List Int) (p : Addr), ys.Perm ks → ys.Pairwise (· ≤ ·) → Fr G M p → R (.ref p) G ((p, .lst (ys.map V.int)) :: M)
  | _ => False
theorem kc_sortedD (hc : X.calm = true := by rfl) : KCall X (.builtin "sorted") kSortedD := kcall_of (call_sortedDI hc) fun vs G M R H Q hv h hR => by
  match vs, h with
  | [.ref a], ⟨kvs, ks, h1, h2, h3, h4⟩ => exact ⟨a, kvs, ks, rfl, .inl (hv.at h1), h2, h3, fun ys p q1 q2 q3 => hR _ G _ _ (hv.newM q3) (h4 ys p q1 q2 (hv.fr q3))⟩
def kListD : KC := fun vs G M R => match vs with
  | [.ref a] => ∃ kvs : List (Key × V), At G M a (.dK kvs) ∧ ∀ p, Fr G M p → R (.ref p) G ((p, .lst (kvs.map fun kv => kV kv.1)) :: M)
  | _ => False
theorem kc_listD (hc : X.calm = true := by rfl) : KCall X (.type "list") kListD := kcall_of (call_listD hc) fun vs G M R H Q hv h hR => by
  match vs, h with
  | [.ref a], ⟨kvs, h1, h2⟩ => exact ⟨a, kvs, rfl, .inl (hv.at h1), fun p q3 => hR _ G _ _ (hv.newM q3) (h2 p (hv.fr q3))⟩
def kLenD : KC := fun vs G M R => match vs with
  | [.ref a] => ∃ kvs : List (Key × V), At G M a (.dK kvs) ∧ R (.int kvs.length) G M
  | _ => False
theorem kc_lenD : KCall X (.builtin "len") kLenD := kcall_of call_lenD fun vs G M R H Q hv h hR => by
  match vs, h with
  | [.ref a], ⟨kvs, h1, h2⟩ => exact ⟨a, kvs, rfl, hv.at h1, hR _ G M H hv h2⟩
/-- x, y = a, b, two local names -/
def kPar (i j : Nat) (t : KA) : KS := fun D σ G M => t σ G M (fun vs G M => match vs with
  | [v, w] => D.nx ((σ.set i (some v)).set j (some w)) G M
  | _ => False) (D.x σ)
theorem js_par {i j : Nat} {x y : Str} {a b : Expr} {ta : KA} {px py pt : Pos} {kt k2 pt2} (hN : X.N.Nodup) (ha : JA X W [a, b] ta) (hc : X.calm = true := by rfl) (hi : X.N[i]? = some x := by rfl) (hj : X.N[j]? = some y := by rfl) (hij : i ≠ j := by decide)
    (hx : X.env.scope.names.lookup x = some .local := by rfl) (hy : X.env.scope.names.lookup y = some .local := by rfl)
    (hw : swappedStores [.Tuple [.Name x px, .Name y py] kt pt] (.Tuple [a, b] k2 pt2) X.env = pure (some [x, y]) := by rfl)
    (hs : swapsWithSole [.Tuple [.Name x px, .Name y py] kt pt] (.Tuple [a, b] k2 pt2) pos.line X.env = pure false := by rfl) :
    JS X W (.Assign [.Tuple [.Name x px, .Name y py] kt pt] (.Tuple [a, b] k2 pt2) pos) (kPar i j ta) :=
  ps_mono (ps_par hc hN hi hj hij hx hy ha hw hs) fun D σ H ⟨G, M, d, hv, h, en⟩ => ⟨G, M, _, _, hv, h, fun vs G1 M1 H1 hv1 q => by
    match vs, q with
    | [v, w], q => exact ⟨v, w, rfl, en.nx _ G1 M1 H1 hv1 q⟩, fun c a G' M' H' hv' q => en.xc c a σ G' M' H' hv' q⟩
end
end BT
set_option Elab.async false
set_option linter.all false
set_option maxRecDepth 100000
set_option maxHeartbeats 4000000
namespace BT
open PySem PySem.Spec L2
open PyProof.Rows hiding St
/-! ### slices and sums of tuples, unpacked lists -/
section
variable {X : Cx} {W : WX} {pos : Pos} {o i e f : Expr}
/-- a tuple's slice; the whole of it is the tuple itself -/
def cutT (K : PySem.W.Frag) (x : V) (lo hi : Option Int) (G : Hp) (M : Mem) (R : KR) : Prop := match x with
  | .ref a => ∃ xs, SqT K G a xs ∧ (HT.sIx xs.length 0 lo = 0 ∧ HT.sIx xs.length xs.length hi = xs.length → R (.ref a) G M) ∧ (¬ (HT.sIx xs.length 0 lo = 0 ∧ HT.sIx xs.length xs.length hi = xs.length) → ∀ p, Fr G M p → R (.ref p) (upd G p (.tup (cutV xs lo hi))) M)
  | _ => False
def kSlT (K : PySem.W.Frag) (t : KE) (tl th : KO) : KE := fun σ G M R E => t σ G M (fun x G M => tl σ G M (fun l G M => th σ G M (fun u G M => cutT K x l u G M R) E) E) E
theorem je_slT {t : KE} {lo hi : Option Expr} {tl th : KO} {p2 : Pos} (he : JE X W e t) (hl : JO X W lo tl) (hu : JO X W hi th) : JE X W (.Subscript e (.Slice lo hi none p2) pos) (kSlT X.K t tl th) :=
  pe_mono (pe_slice sl_tupA he hl hu) fun σ H Q ⟨G, M, R, E, hv, h, hR, hE⟩ => ⟨G, M, _, E, hv, h, fun x G1 M1 H1 hv1 h1 => ⟨G1, M1, _, E, hv1, h1, fun l G2 M2 H2 hv2 h2 => ⟨G2, M2, _, E, hv2, h2, fun u G3 M3 H3 hv3 h3 => by
    match x, h3 with
    | .ref a, ⟨xs, q1, q2, q3⟩ => exact ⟨_, xs, rfl, hv3.tup q1, fun z => hR _ G3 M3 H3 hv3 (q2 z), fun z p hp => hR _ _ _ _ (hv3.newG hp) (q3 z p (hv3.fr hp))⟩, hE⟩, hE⟩, hE⟩
/-- (a, b, ..) = a list of that length -/
def kgUnl (K : PySem.W.Frag) (n : Nat) (g : KGs) : KG := ⟨fun v σ G M R => match v with
    | .ref a => ∃ xs, LstAt K G M a xs ∧ onLen n g xs σ G M R
    | _ => False, fun _ _ _ _ _ => False⟩
theorem jg_unl {K : PySem.W.Frag} {ts : List Expr} {g : KGs} {gs : TGs} {n k : Nat} (hc : X.calm = true) (h : JGs X ts g gs) (hK : X.K = K := by rfl) (hn : (assignEach ts X.env).length = n := by rfl) (hst : (assignEach ts X.env).findIdx? (·.1) = none := by rfl) :
    JG X (.Tuple ts k pos) (kgUnl K n g) (gUnl K n gs) := by
  subst hK
  exact ⟨pg_unl hc h.pgs hn hst, fun v σ G M R H Q hv q hR => by
    match v, q with
    | .ref a, ⟨xs, q1, q2⟩ =>
      obtain ⟨e, q3⟩ := onLen_of q2
      exact ⟨a, xs, rfl, hv.lst q1, e, h.sim xs σ G M R H Q hv q3 hR⟩,
   fun T vs σ G M R H Q hv hT q hR => q.elim⟩
/-- the sum of two tuples -/
def kCat (K : PySem.W.Frag) : KR2 := fun x y G M R => match x, y with
  | .ref a, .ref b => ∃ xs ys, SqT K G a xs ∧ SqT K G b ys ∧ xs.length + ys.length ≤ sizeLine ∧ (xs = [] → R (.ref b) G M) ∧ (xs ≠ [] → ys = [] → R (.ref a) G M) ∧ (xs ≠ [] → ys ≠ [] → ∀ p, Fr G M p → R (.ref p) (upd G p (.tup (xs ++ ys))) M)
  | _, _ => False
theorem kop_cat : KOp X (binaryOp .Add) (kCat X.K) := kop_of op_catA fun x y G M R H Q hv h hR => by
  match x, y, h with
  | .ref a, .ref b, ⟨xs, ys, h1, h2, h3, h4, h5, h6⟩ => exact ⟨a, b, xs, ys, rfl, rfl, hv.tup h1, hv.tup h2, h3, fun z => hR _ G M H hv (h4 z), fun z w => hR _ G M H hv (h5 z w), fun z w p hp => hR _ _ _ _ (hv.newG hp) (h6 z w p (hv.fr hp))⟩
end
end BT
set_option Elab.async false
set_option linter.all false
set_option maxRecDepth 100000
set_option maxHeartbeats 4000000
namespace BT
open PySem PySem.Spec L2
open PyProof.Rows hiding St
/-! ### isinstance(err, (C, D, ..)); except C without a name -/
def orTab (a b : List (Str × Bool)) : List (Str × Bool) := a.zipWith (fun p q => (p.1, p.2 || q.2)) b
theorem orTab_mem : ∀ {a b : List (Str × Bool)}, a.map (·.1) = b.map (·.1) → ∀ p, p ∈ orTab a b → ∃ x y, (p.1, x) ∈ a ∧ (p.1, y) ∈ b ∧ p.2 = (x || y)
  | [], _, _, p, h => by simp [orTab] at h
  | _ :: _, [], _, p, h => by simp [orTab] at h
  | u :: a, v :: b, e, p, h => by
    have e1 : u.1 = v.1 := by simpa using (List.cons.inj e).1
    rcases List.mem_cons.mp (show p ∈ (u.1, u.2 || v.2) :: orTab a b from h) with rfl | h
    · exact ⟨u.2, v.2, List.mem_cons_self, by rw [e1]; exact List.mem_cons_self, rfl⟩
    · obtain ⟨x, y, h1, h2, h3⟩ := orTab_mem (List.cons.inj e).2 p h
      exact ⟨x, y, List.mem_cons_of_mem _ h1, List.mem_cons_of_mem _ h2, h3⟩
structure IsT (K : PySem.W.Frag) (cs : List V) (us : List Value) (tab : List (Str × Bool)) : Prop where
  p : Paired ClsV cs us
  n : PySem.W.kitAny K (.type "NoneType") us = some false
  t : ∀ p ∈ tab, ExcC K (cl K p.1) ∧ PySem.W.kitAny K (.ref (cl K p.1)) us = some p.2
theorem IsT.cons {K : PySem.W.Frag} {c : V} {u : Value} {cs : List V} {us : List Value} {tab tab1 : List (Str × Bool)} (hc : ClsV c u) (hn : PySem.W.kitOne K (.type "NoneType") u = some false)
    (ht : ∀ p ∈ tab1, ExcC K (cl K p.1) ∧ PySem.W.kitOne K (.ref (cl K p.1)) u = some p.2) (h : IsT K cs us tab) (e : tab1.map (·.1) = tab.map (·.1) := by rfl) : IsT K (c :: cs) (u :: us) (orTab tab1 tab) :=
  ⟨.cons hc h.p, kitAny_cons hn (fun _ => h.n) (fun z => nomatch z), fun p hp => by
    obtain ⟨x, y, h1, h2, h3⟩ := orTab_mem e p hp
    obtain ⟨q1, q2⟩ := ht _ h1
    refine ⟨q1, kitAny_cons q2 (fun z => ?_) (fun z => ?_)⟩
    · rw [h3, show x = false from z]
      exact (h.t _ h2).2
    · rw [h3, show x = true from z]; rfl⟩
theorem IsT.one {K : PySem.W.Frag} {c : V} {u : Value} {tab1 : List (Str × Bool)} (hc : ClsV c u) (hn : PySem.W.kitOne K (.type "NoneType") u = some false)
    (ht : ∀ p ∈ tab1, ExcC K (cl K p.1) ∧ PySem.W.kitOne K (.ref (cl K p.1)) u = some p.2) : IsT K [c] [u] tab1 :=
  ⟨.cons hc .nil, kitAny_cons hn (fun _ => rfl) (fun z => nomatch z), fun p hp => by
    obtain ⟨q1, q2⟩ := ht p hp
    exact ⟨q1, kitAny_cons q2 (fun z => by rw [z]; rfl) (fun z => z)⟩⟩
section
variable {X : Cx} {W : WX} {pos : Pos}
def kIsXT (K : PySem.W.Frag) (cs : List V) (tab : List (Str × Bool)) : KC := fun vs G M R => match vs with
  | [.non, .ref t] => G t = some (.tup cs) ∧ R (.bl false) G M
  | [.ref a, .ref t] => G t = some (.tup cs) ∧ ∃ p ∈ tab, At G M a (ErA K p.1 none a) ∧ R (.bl p.2) G M
  | _ => False
theorem kc_isXT {tab : List (Str × Bool)} {cs : List V} {us : List Value} (T : IsT X.K cs us tab) : KCall X (.builtin "isinstance") (kIsXT X.K cs tab) := by
  intro pins s σ H xs ws Q I r h
  obtain ⟨G, M, R, hv, h, hR⟩ := h
  match xs, h with
  | [.non, .ref t], h2 =>
    obtain ⟨ht, h3⟩ := h2
    exact (call_isiT (X := X)) pins s σ H [.non, .ref t] _ Q I r ⟨_, t, cs, .type "NoneType", us, false, rfl, hv.ex _ _ ht, T.p, .base .non, T.n, hR _ _ _ _ hv h3⟩
  | [.ref a, .ref t], h2 =>
    obtain ⟨ht, p, hp, ha, h3⟩ := h2
    obtain ⟨C, e⟩ := T.t p hp
    obtain ⟨u1, u2, rfl, r1, r2⟩ := vals2 r
    cases (show u2 = Value.ref t from r2)
    cases (show u1 = Value.ref a from r1)
    have hH : H a = some (ErA X.K p.1 none a) := hv.at ha
    obtain ⟨⟨oe, vs, hget, hz, hd⟩, _, _⟩ := I.hok a _ hH
    have J : PySem.W.InstAt s.heap a oe (cl X.K p.1) none := by
      obtain ⟨oc, od, oda, osl⟩ := oe
      obtain ⟨h1, h2⟩ := hz
      dsimp only at h1 h2 hd
      subst h1 h2 hd
      exact ⟨hget, rfl, rfl, trivial⟩
    obtain ⟨_, its, rv, o, h1, h2, n, h3'⟩ := (show ObjOk X.prog X.w H s.heap t (.tup cs) from I.hok t _ (hv.ex _ _ ht))
    have e3 := ClsV.all T.p rv
    subst e3
    obtain ⟨oc, od, dt, sl⟩ := o
    simp only at h2 h3'
    subst h2 h3'
    exact PySem.W.kia_tup (PySem.W.handS_kitx_exc C.hg C.hk C.hs C.hd C.ha C.hn C.ht C.hm) I.kIn J h1 e (fun z => nomatch z) fun tk => ⟨.bl p.2, H, I.kept (t' := tk) fun _ _ z => z, rfl, hR _ _ _ _ hv h3⟩
/-- try: t, except C: u -/
def kTryO (K : PySem.W.Frag) (tab : List (Str × Bool)) (t u : KS) : KS := fun D σ G M => t { D with xc := fun c d σ' G' M' => ∃ p ∈ tab, c = .ref (cl K p.1) ∧
  (if p.2 = true then u { D with xc := fun _ _ _ _ _ => False } σ' G' M' else D.xc c d σ' G' M') } σ G M
theorem js_tryO {K : PySem.W.Frag} {x : Str} {tab : List (Str × Bool)} {body suite : List Stmt} {b0 : Stmt} {t u : KS} {np pos' : Pos} (g : XG X.K X.mg x) (ht : ∀ p ∈ tab, PySem.W.exmOne X.K (.ref (cl X.K p.1)) (.ref (cl X.K x)) = some p.2) (tk : Takes X W)
    (hb : ∀ (W : WX) (pn : List (Addr × Obj)) (xe : Value → Shared → Prop), Takes (X.tr pn xe) W → PassesOwn (model X.prog X.w) X.A X.env xe → JSs (X.tr pn xe) W body t)
    (hsu : ∀ (a : Addr) (oe : Obj) (pn : List (Addr × Obj)), JSs (X.suite a ((a, oe) :: pn)) W0 (b0 :: suite) u)
    (hK : X.K = K := by rfl) (hs : X.stack = X.env :: X.outer := by rfl) (hf : X.env.frame = some X.env.locals := by rfl) (hg : Gl X x := by rfl) (hxd : (x == ("__debug__" : Str)) = false := by decide) :
    JS X W (.Try body [.ExceptHandler (some (.Name x np)) none (b0 :: suite) pos'] [] [] pos) (kTryO K tab t u) := by
  subst hK
  refine ps_mono (ps_try_only (c := .ref (cl X.K x)) (tb := fun W => upS W t) (ts := fun _ _ _ => upS W0 u) hs hf ⟨hg, hxd, .inl g.g⟩ tk hb (fun a oe cls d pn _ _ => hsu a oe pn)) fun D σ H ⟨G, M, d, hv, h, en⟩ => ?_
  refine ⟨G, M, _, hv, h, ⟨en.nx, en.rt, en.bk, en.ct, fun c e σ' G' M' H' hv' q => ?_⟩⟩
  obtain ⟨p, hp, rfl, q⟩ := q
  refine ⟨p.2, ht p hp, fun hb a na => ?_, fun hb => ?_⟩
  · rw [if_pos hb] at q
    exact ⟨G', M', _, hv', q, ⟨en.nx, en.rt, en.bk, en.ct, fun _ _ _ _ _ _ _ z => z.elim⟩⟩
  · rw [if_neg (by rw [hb]; exact Bool.false_ne_true)] at q
    exact en.xc _ _ _ _ _ _ hv' q
end
end BT
namespace PySem.SeqAt
open AutoSeq1 (wpAny_loadPart')
open MeetsSeq
theorem bt_str_eq_declines (b : Str) (u : Tok) (l : Addr) (c : Value) (es : _) (ep : _) (dd : Option Addr) (sl : Array (Option Value)) :
    Meets (Builtin.«str.__eq__» ⟨[.str b u, .ref l], []⟩) (fun _ R s => s.heap.get? l = some ⟨c, dd, .dict es ep, sl⟩ ∧ R (.ok (.ret .notImplemented)) s) :=
  .of_wp fun prog w A R s h => by obtain ⟨hp, g, d, tk, os⟩ := s; obtain ⟨hl, h⟩ := h; wp_walk using wpAny_loadPart' hl, wpAny_load hl; exact ⟨_, rfl, h⟩
theorem bt_dict_eq_declines (l : Addr) (es : _) (ep : _) (dd : Option Addr) (sl : Array (Option Value)) (b : Str) (u : Tok) :
    Meets (Builtin.«dict.__eq__» ⟨[.ref l, .str b u], []⟩) (fun _ R s => s.heap.get? l = some ⟨.type "dict", dd, .dict es ep, sl⟩ ∧ R (.ok (.ret .notImplemented)) s) :=
  .of_wp fun prog w A R s h => by obtain ⟨hp, g, d, tk, os⟩ := s; obtain ⟨hl, h⟩ := h; have f1 := F.sub_str_dict; wp_walk using wpAny_loadPart' hl, wpAny_load hl; exact ⟨_, rfl, h⟩
theorem bt_dict_str {A : Around} {s : Shared} {l : Addr} {o : Obj} {es : _} {ep : _} (b : Str) (u : Tok) (ho : s.heap.get? l = some o) (hx : o.ExactDict) (hd : o.data = .dict es ep) (hu : A.units < cLine) : RcAt A s (.ref l) (.str b u) false := fun prog w E Q h => by
  obtain ⟨cls, dd, data, sl⟩ := o
  obtain ⟨hc, h2, h3⟩ := hx
  simp only at hc hd
  subst hc hd
  exact rc_eq_decline_or (k := false) ⟨_, ho, rfl⟩ (typeIs_str s b u) (by decide) F.sub_str_dict F.slot_dict_eq F.slot_str_eq_refl
    (fun _ hq => call_meets F.slot_dict_eq ⟨_, ho, rfl⟩ F.entry_dict_eq (F.args_dict_eq_2 _ _) (bt_dict_eq_declines l es ep dd sl b u) ⟨ho, hq⟩)
    (fun _ hq => call_meets F.slot_str_eq_refl (typeIs_str s b u) F.entry_str_eq (F.args_str_eq_2 _ _) (bt_str_eq_declines b u l (.type "dict") es ep dd sl) ⟨ho, hq⟩)
    (fun _ hq => wpAny_of_eq (rfl : isSame (.ref l) (.str b u) = pure false) hq) (.inr hu) h
end PySem.SeqAt
namespace BT
open PySem PySem.Spec L2
open PyProof.Rows hiding St
/-- == of what may be a dict, and a text -/
def kEqD (K : PySem.W.Frag) : KR2 := fun x y G M R => kEqv false K x y G M R ∨ ∃ (a : Addr) (s : Str) (kvs : List (Key × V)), x = .ref a ∧ y = .str s ∧ At G M a (.dK kvs) ∧ R (.bl false) G M
theorem kop_eqD {X : Cx} (hu : X.A.units + 64 < cLine) : KOp X (compareOp .Eq) (kEqD X.K) := fun pins s σ H x y v u Q G M R I rx ry hv h hR => by
  rcases h with h | ⟨a, t, kvs, rfl, rfl, ha, h⟩
  · exact kop_eq hu pins s σ H x y v u Q G M R I rx ry hv h hR
  · cases (show v = Value.ref a from rx)
    obtain ⟨tk, e⟩ := (show ∃ t', u = Value.str t t' from ry)
    subst e
    obtain ⟨_, _, vs, _, o, es, ep, h1, h2, h3, _⟩ := (show ObjOk X.prog X.w H s.heap a (.dK kvs) from I.hok a _ (hv.at ha))
    exact SeqAt.bt_dict_str t tk h1 h2 h3 (by omega) _ _ _ _ ⟨.bl false, H, I, rfl, hR _ G M H hv h⟩
end BT
set_option Elab.async false
set_option linter.all false
set_option maxRecDepth 100000
set_option maxHeartbeats 4000000
namespace BT
open PySem PySem.Spec L2
open PyProof.Rows hiding St
/-! ### written data: what a display of constants lays -/
inductive XD where
  | non
  | bl (b : Bool)
  | int (i : Int)
  | str (s : Str)
  | list (l : List XD)
  | tup (l : List XD)
  | dict
mutual
inductive Rp (K : PySem.W.Frag) (G : Hp) (Mx : Mem) : V → XD → Prop where
  | non : Rp K G Mx .non .non
  | bl (b : Bool) : Rp K G Mx (.bl b) (.bl b)
  | int (i : Int) : Rp K G Mx (.int i) (.int i)
  | str (s : Str) : Rp K G Mx (.str s) (.str s)
  | list {a : Addr} {vs : List V} {ds : List XD} : ((a, HO.lst vs) ∈ Mx ∨ G a = some (.lst vs)) → RpA K G Mx vs ds → Rp K G Mx (.ref a) (.list ds)
  | tup {a : Addr} {vs : List V} {ds : List XD} : SqT K G a vs → RpA K G Mx vs ds → Rp K G Mx (.ref a) (.tup ds)
  | dict {a : Addr} : ((a, HO.dK []) ∈ Mx ∨ G a = some (.dK [])) → Rp K G Mx (.ref a) .dict
inductive RpA (K : PySem.W.Frag) (G : Hp) (Mx : Mem) : List V → List XD → Prop where
  | nil : RpA K G Mx [] []
  | cons {v : V} {d : XD} {vs : List V} {ds : List XD} : Rp K G Mx v d → RpA K G Mx vs ds → RpA K G Mx (v :: vs) (d :: ds)
end
section
variable {K : PySem.W.Frag} {G G' : Hp} {Mx My M : Mem}
mutual
theorem Rp.mono (f : ∀ a o, ((a, o) ∈ Mx ∨ G a = some o) → ((a, o) ∈ My ∨ G' a = some o)) (e : Ex G G') : ∀ {v : V} {d : XD}, Rp K G Mx v d → Rp K G' My v d
  | _, _, .non => .non
  | _, _, .bl b => .bl b
  | _, _, .int b => .int b
  | _, _, .str b => .str b
  | _, _, .list h hs => .list (f _ _ h) (RpA.mono f e hs)
  | _, _, .tup h hs => .tup (ex_t e h) (RpA.mono f e hs)
  | _, _, .dict h => .dict (f _ _ h)
theorem RpA.mono (f : ∀ a o, ((a, o) ∈ Mx ∨ G a = some o) → ((a, o) ∈ My ∨ G' a = some o)) (e : Ex G G') : ∀ {vs : List V} {ds : List XD}, RpA K G Mx vs ds → RpA K G' My vs ds
  | _, _, .nil => .nil
  | _, _, .cons h hs => .cons (Rp.mono f e h) (RpA.mono f e hs)
end
theorem Rp.up {v : V} {d : XD} (e : Ex G G') (s : ∀ x, x ∈ Mx → x ∈ My) (h : Rp K G Mx v d) : Rp K G' My v d := h.mono (fun a o q => q.elim (fun z => .inl (s _ z)) (fun z => .inr (e _ _ z))) e
theorem RpA.up {v : List V} {d : List XD} (e : Ex G G') (s : ∀ x, x ∈ Mx → x ∈ My) (h : RpA K G Mx v d) : RpA K G' My v d := h.mono (fun a o q => q.elim (fun z => .inl (s _ z)) (fun z => .inr (e _ _ z))) e
theorem Rp.ex {v : V} {d : XD} (e : Ex G G') (h : Rp K G Mx v d) : Rp K G' Mx v d := h.up e fun _ z => z
theorem RpA.ex {v : List V} {d : List XD} (e : Ex G G') (h : RpA K G Mx v d) : RpA K G' Mx v d := h.up e fun _ z => z
theorem RpA.len : ∀ {vs : List V} {ds : List XD}, RpA K G Mx vs ds → vs.length = ds.length
  | _, _, .nil => rfl
  | _, _, .cons _ hs => by rw [List.length_cons, List.length_cons, hs.len]
theorem RpA.app : ∀ {vs ws : List V} {ds es : List XD}, RpA K G Mx vs ds → RpA K G Mx ws es → RpA K G Mx (vs ++ ws) (ds ++ es)
  | _, _, _, _, .nil, h => h
  | _, _, _, _, .cons a b, h => .cons a (b.app h)
theorem RpA.get : ∀ {vs : List V} {ds : List XD} {i : Nat}, RpA K G Mx vs ds → i < vs.length → ∃ v d, vs[i]? = some v ∧ ds[i]? = some d ∧ Rp K G Mx v d
  | _, _, _, .nil, h => by simp at h
  | _, _, 0, .cons a _, _ => ⟨_, _, rfl, rfl, a⟩
  | _, _, i + 1, .cons _ b, h => by
    obtain ⟨v, d, h1, h2, h3⟩ := RpA.get (i := i) b (by simpa using h)
    exact ⟨v, d, by simpa using h1, by simpa using h2, h3⟩
/-- cells of its own -/
def NewC (G : Hp) (Mx : Mem) : Prop := (∀ x, x ∈ Mx → G x.1 = none) ∧ (Mx.map (·.1)).Nodup
theorem NewC.nil : NewC G [] := ⟨fun _ z => (nomatch z), List.nodup_nil⟩
def frzA (G : Hp) (Mx : Mem) : Hp := Mx.foldr (fun x g => upd g x.1 x.2) G
theorem frzA_wk : ∀ (Mx : Mem) (G : Hp) (M : Mem), Wk G (Mx ++ M) (frzA G Mx) M
  | [], G, M => Wk.refl
  | x :: Mx, G, M => by
    refine Wk.trans (Wk.perm (M' := Mx ++ x :: M) ?_) ((frzA_wk Mx G (x :: M)).trans Wk.frz0)
    exact List.perm_middle
theorem frzA_ne : ∀ {Mx : Mem} {G : Hp} {a : Addr}, (∀ x, x ∈ Mx → x.1 ≠ a) → frzA G Mx a = G a
  | [], _, _, _ => rfl
  | x :: Mx, G, a, h => by
    show upd (frzA G Mx) x.1 x.2 a = _
    rw [upd_ne (Ne.symm (h x List.mem_cons_self))]
    exact frzA_ne fun y hy => h y (List.mem_cons_of_mem _ hy)
theorem frzA_ex (h : NewC G Mx) : Ex G (frzA G Mx) := fun a o e => by
  rw [frzA_ne]
  · exact e
  · intro x hx z
    rw [← z, h.1 x hx] at e
    cases e
theorem frzA_at : ∀ {Mx : Mem} {G : Hp}, (Mx.map (·.1)).Nodup → ∀ x, x ∈ Mx → frzA G Mx x.1 = some x.2
  | [], _, _, _, h => nomatch h
  | y :: Mx, G, hn, x, h => by
    rw [List.map_cons, List.nodup_cons] at hn
    show upd (frzA G Mx) y.1 y.2 x.1 = _
    rcases List.mem_cons.mp h with rfl | h
    · exact upd_same
    · rw [upd_ne (fun z => hn.1 (by rw [← z]; exact List.mem_map.mpr ⟨x, h, rfl⟩))]
      exact frzA_at hn.2 x h
theorem Rp.frz {v : V} {d : XD} (n : NewC G Mx) (h : Rp K G Mx v d) : Rp K (frzA G Mx) [] v d := h.mono (fun a o q => q.elim (fun z => .inr (frzA_at n.2 (a, o) z)) (fun z => .inr (frzA_ex n _ _ z))) (frzA_ex n)
theorem RpA.frz {v : List V} {d : List XD} (n : NewC G Mx) (h : RpA K G Mx v d) : RpA K (frzA G Mx) [] v d := h.mono (fun a o q => q.elim (fun z => .inr (frzA_at n.2 (a, o) z)) (fun z => .inr (frzA_ex n _ _ z))) (frzA_ex n)
theorem frzA_fr {p : Addr} (h : Fr G (Mx ++ M) p) : Fr (frzA G Mx) M p := ⟨by rw [frzA_ne (fun x hx => h.2 x (List.mem_append.mpr (.inl hx)))]; exact h.1, fun x hx => h.2 x (List.mem_append.mpr (.inr hx))⟩
/-- a cell more, a tuple more -/
theorem NewC.cell {p : Addr} {o : HO} (h : NewC G Mx) (f : Fr G (Mx ++ M) p) : NewC G ((p, o) :: Mx) := by
  refine ⟨fun x hx => ?_, ?_⟩
  · rcases List.mem_cons.mp hx with rfl | hx
    · exact f.1
    · exact h.1 x hx
  · rw [List.map_cons, List.nodup_cons]
    refine ⟨fun z => ?_, h.2⟩
    obtain ⟨y, hy, e⟩ := List.mem_map.mp z
    exact f.2 y (List.mem_append.mpr (.inl hy)) e
theorem NewC.tup {p : Addr} {o : HO} (h : NewC G Mx) (f : Fr G (Mx ++ M) p) : NewC (upd G p o) Mx :=
  ⟨fun x hx => by rw [upd_ne (f.2 x (List.mem_append.mpr (.inl hx)))]; exact h.1 x hx, h.2⟩
/-- an expression that lays written data -/
def LitOk (K : PySem.W.Frag) (te : KE) (σ : St) (G : Hp) (d : XD) : Prop := ∀ (G0 : Hp) (My M : Mem) (R : KR) (E : KX), Ex G G0 → NewC G0 My → (∀ v G' Mx, Ex G0 G' → NewC G' (Mx ++ My) → Rp K G' Mx v d → R v G' (Mx ++ (My ++ M))) → te σ G0 (My ++ M) R E
def LitsOk (K : PySem.W.Frag) (ta : KA) (σ : St) (G : Hp) (ds : List XD) : Prop := ∀ (G0 : Hp) (My M : Mem) (R : List V → Hp → Mem → Prop) (E : KX), Ex G G0 → NewC G0 My → (∀ vs G' Mx, Ex G0 G' → NewC G' (Mx ++ My) → RpA K G' Mx vs ds → R vs G' (Mx ++ (My ++ M))) → ta σ G0 (My ++ M) R E
end
section
variable {K : PySem.W.Frag} {σ : St} {G : Hp} {te ta tb : KE} {tas : KA} {ds es : List XD} {d : XD}
theorem lit_pure {v : V} (h : ∀ G0 M R E, Ex G G0 → R v G0 M → te σ G0 M R E) (r : Rp K G [] v d) : LitOk K te σ G d := fun G0 My M R E e n q => h G0 _ R E e (q v G0 [] Ex.refl n (r.ex e))
theorem lit_int {i : Int} : LitOk K (kC (.int i)) σ G (.int i) := lit_pure (fun _ _ _ _ _ q => q) (.int i)
theorem lit_bl {i : Bool} : LitOk K (kC (.bl i)) σ G (.bl i) := lit_pure (fun _ _ _ _ _ q => q) (.bl i)
theorem lit_str {i : Str} : LitOk K (kC (.str i)) σ G (.str i) := lit_pure (fun _ _ _ _ _ q => q) (.str i)
theorem lit_non : LitOk K (kC .non) σ G .non := lit_pure (fun _ _ _ _ _ q => q) .non
theorem lit_neg {i : Int} : LitOk K (kUn kNeg (kC (.int i))) σ G (.int (-i)) := lit_pure (fun _ _ _ _ _ q => q) (.int _)
theorem lit_var {i : Nat} {v : V} (h : σ[i]? = some (some v)) (r : Rp K G [] v d) : LitOk K (kVar i) σ G d := lit_pure (v := v) (fun _ _ _ _ _ q => by unfold kVar; rw [h]; exact q) r
theorem lit_dict : LitOk K kDNew σ G .dict := fun G0 My M R E e n q p fp => q _ G0 [(p, .dK [])] Ex.refl (n.cell fp) (.dict (.inl List.mem_cons_self))
theorem lits_nil : LitsOk K kNil σ G [] := fun G0 My M R E e n q => q [] G0 [] Ex.refl n .nil
theorem lits_cons (h : LitOk K te σ G d) (hs : LitsOk K tas σ G ds) : LitsOk K (kCons te tas) σ G (d :: ds) := fun G0 My M R E e n q =>
  h G0 My M _ E e n fun v G1 Mx e1 n1 r1 => by
    rw [← List.append_assoc]
    refine hs G1 (Mx ++ My) M _ E (e.trans e1) n1 fun vs G2 Mz e2 n2 r2 => ?_
    have := q (v :: vs) G2 (Mz ++ Mx) (e1.trans e2) (by rw [List.append_assoc]; exact n2) (.cons (r1.up e2 fun x hx => List.mem_append.mpr (.inr hx)) (r2.up Ex.refl fun x hx => List.mem_append.mpr (.inl hx)))
    simpa [List.append_assoc] using this
theorem lit_tup (h : LitsOk K tas σ G ds) (hl : ds.length ≤ 1000) : LitOk K (kTup tas) σ G (.tup ds) := fun G0 My M R E e n q =>
  h G0 My M _ E e n fun vs G1 Mx e1 n1 r1 => ⟨Nat.le_trans (by rw [r1.len]; exact hl) (by decide), fun p fp => by
    rw [← List.append_assoc] at fp
    exact q _ _ Mx (e1.trans (Ex.new fp)) (n1.tup fp) (.tup sqt_new (r1.ex (Ex.new fp)))⟩
theorem lit_lst (h : LitsOk K tas σ G ds) (hl : ds.length ≤ 1000) : LitOk K (kLst tas) σ G (.list ds) := fun G0 My M R E e n q =>
  h G0 My M _ E e n fun vs G1 Mx e1 n1 r1 => ⟨Nat.le_trans (by rw [r1.len]; exact hl) (by decide), fun p fp => by
    rw [← List.append_assoc] at fp
    exact q _ _ ((p, .lst vs) :: Mx) e1 (n1.cell fp) (.list (.inl List.mem_cons_self) (r1.up Ex.refl fun x hx => List.mem_cons_of_mem _ hx))⟩
theorem lit_add (h1 : LitOk K ta σ G (.list ds)) (h2 : LitOk K tb σ G (.list es)) (hl : (ds ++ es).length ≤ 1000) : LitOk K (kBin kAdd ta tb) σ G (.list (ds ++ es)) := fun G0 My M R E e n q =>
  h1 G0 My M _ E e n fun v G1 Mx e1 n1 r1 => by
    rw [← List.append_assoc]
    refine h2 G1 (Mx ++ My) M _ E (e.trans e1) n1 fun u G2 Mz e2 n2 r2 => ?_
    cases r1 with
    | @list a xs _ a1 s1 =>
      cases r2 with
      | @list b ys _ a2 s2 =>
        have l1 := s1.len
        have l2 := s2.len
        refine ⟨xs, ys, ?_, ?_, Nat.le_trans (m := 1000) (by rw [List.length_append] at hl; omega) (by decide), fun p fp => ?_⟩
        · rcases a1 with z | z
          · exact .inl (by simp [z])
          · exact .inr (e2 _ _ z)
        · rcases a2 with z | z
          · exact .inl (by simp [z])
          · exact .inr z
        · have fp' : Fr G2 ((Mz ++ (Mx ++ My)) ++ M) p := by simpa [List.append_assoc] using fp
          have := q (.ref p) G2 ((p, .lst (xs ++ ys)) :: (Mz ++ Mx)) (e1.trans e2) (by
            have := n2.cell (o := .lst (xs ++ ys)) fp'
            simpa [List.append_assoc] using this) (.list (.inl List.mem_cons_self) ((s1.up e2 fun x hx => by simp [hx]).app (s2.up Ex.refl fun x hx => by simp [hx])))
          simpa [List.append_assoc] using this
theorem lit_pow {i j : Int} (h : CPow i j) : LitOk K (kBin (kI CPow fun i j => .int (i ^ j.toNat)) (kC (.int i)) (kC (.int j))) σ G (.int (i ^ j.toNat)) := lit_pure (v := .int (i ^ j.toNat)) (fun _ _ _ _ _ q => ⟨h, q⟩) (.int _)
/-- one of written things is picked by a draw -/
theorem lit_pick {M : Mem} {R : KR} {E : KX} {i n : Nat} {p : Addr} {c s L : Int} (h : LitOk K te σ G (.list ds)) (hv : σ[i]? = some (some (.ref p))) (hn : M[n]? = some (p, pool c s)) (hs : PoolOk s) (hL : L = ds.length) (h0 : 0 < ds.length) (h1 : ds.length ≤ 1000)
    (q : ∀ v d G' Mx c' s', Ex G G' → NewC G' Mx → d ∈ ds → Rp K G' Mx v d → PoolOk s' → R v G' (Mx ++ M.set n (p, pool c' s'))) : kBin (kIx K) te (kCall (S_law_take K) (kCons (kVar i) (kCons (kC (.int L)) kNil))) σ G M R E := by
  refine h G [] M _ E Ex.refl NewC.nil fun v G1 Mx e1 n1 r1 => ?_
  rw [List.append_nil] at n1
  cases r1 with
  | @list a vs _ ha hs1 =>
    have hl := hs1.len
    rw [List.nil_append]
    simp only [kCall, kCons, kVar, hv]
    have hn2 : (Mx ++ M)[Mx.length + n]? = some (p, pool c s) := by rw [List.getElem?_append_right (by omega), Nat.add_sub_cancel_left]; exact hn
    refine ⟨p, L, Mx.length + n, c, s, rfl, rfl, hn2, hs, by omega, by omega, fun r c' s' r0 r1 hs' => ?_⟩
    obtain ⟨j, rfl⟩ := Int.eq_ofNat_of_zero_le r0
    obtain ⟨y, d, hy, hd, ry⟩ := hs1.get (i := j) (by omega)
    have hne : (a, HO.lst vs) ∈ Mx → (a, HO.lst vs) ∈ (Mx ++ M).set (Mx.length + n) (p, pool c' s') := fun z => by
      rw [List.set_append_right _ _ (by omega)]; exact List.mem_append.mpr (.inl z)
    refine ⟨vs, y, ?_, atI_nat hy, ?_⟩
    · rcases ha with z | z
      · exact .inl (.inl (hne z))
      · exact .inl (.inr (sql_of z))
    · have := q y d G1 Mx c' s' e1 n1 (List.mem_of_getElem? hd) ry hs'
      rw [List.set_append_right _ _ (by omega), Nat.add_sub_cancel_left]; exact this
end
/-! what is known of written things -/
def XD.ty : XD → PT
  | .non => .non | .bl _ => .bool | .int _ => .int | .str _ => .str | .list _ => .list | .tup _ => .tuple | .dict => .dict
theorem rp_ty {K : PySem.W.Frag} {G : Hp} {v : V} {d : XD} (h : Rp K G [] v d) (M : Mem) : TyK K G M v d.ty := by
  cases h with
  | non => exact ty_non
  | bl b => exact ty_bl
  | int i => exact ty_int
  | str s => exact ty_str
  | list h _ =>
    rcases h with z | z
    · cases z
    · exact ty_lst (.inr (sql_of z))
  | tup h _ => exact ty_tup h
  | dict h =>
    rcases h with z | z
    · cases z
    · exact ty_dict (.inr z)
mutual
def XD.toD : XD → Option PyData
  | .non => some .none
  | .bl b => some (.bool b)
  | .int i => some (.int i)
  | .str s => some (.str s)
  | .list l => (XD.toDs l).map .list
  | .tup l => (XD.toDs l).map .tuple
  | .dict => none
def XD.toDs : List XD → Option (List PyData)
  | [] => some []
  | x :: l => match x.toD, XD.toDs l with
    | some d, some ds => some (d :: ds)
    | _, _ => none
end
mutual
theorem rp_dp {K : PySem.W.Frag} {G : Hp} : ∀ {v : V} {d : XD} {e : PyData}, Rp K G [] v d → d.toD = some e → Dp K G v e
  | _, _, _, .non, h => by cases h; exact .non
  | _, _, _, .bl b, h => by cases h; exact .bl b
  | _, _, _, .int b, h => by cases h; exact .int b
  | _, _, _, .str b, h => by cases h; exact .str b
  | _, _, e, .list (ds := ds) ha hs, h => by
    have h : (XD.toDs ds).map PyData.list = some e := h
    obtain ⟨es, h1, rfl⟩ := Option.map_eq_some_iff.mp h
    rcases ha with z | z
    · cases z
    · exact .lst (sql_of z) (rpa_dp hs h1)
  | _, _, e, .tup (ds := ds) ha hs, h => by
    have h : (XD.toDs ds).map PyData.tuple = some e := h
    obtain ⟨es, h1, rfl⟩ := Option.map_eq_some_iff.mp h
    exact .tup ha (rpa_dp hs h1)
  | _, _, _, .dict _, h => by cases h
theorem rpa_dp {K : PySem.W.Frag} {G : Hp} : ∀ {vs : List V} {ds : List XD} {es : List PyData}, RpA K G [] vs ds → XD.toDs ds = some es → DpAll K G vs es
  | _, _, _, .nil, h => by cases h; exact .nil
  | _, _, es, .cons (d := d) (ds := ds) a b, h => by
    have h : (match d.toD, XD.toDs ds with | some d, some ds => some (d :: ds) | _, _ => none) = some es := h
    split at h
    · rename_i d' ds' e1 e2
      cases h
      exact .cons (rp_dp a e1) (rpa_dp b e2)
    · cases h
end
end BT
namespace BT
open PySem PySem.Spec L2
theorem LitOk.use {K : PySem.W.Frag} {te : KE} {σ : St} {G : Hp} {d : XD} {M : Mem} {R : KR} {E : KX} (h : LitOk K te σ G d) (q : ∀ v G' Mx, Ex G G' → NewC G' Mx → Rp K G' Mx v d → R v G' (Mx ++ M)) : te σ G M R E :=
  h G [] M R E Ex.refl NewC.nil fun v G' Mx e n r => by rw [List.append_nil] at n; exact q v G' Mx e n r
theorem Wk.dropP {G : Hp} (Mx : Mem) {M : Mem} : Wk G (Mx ++ M) G M := fun H hv => ⟨hv.ex, fun x hx => hv.mu x (List.mem_append.mpr (.inr hx)), hv.nd.sublist ((List.sublist_append_right Mx M).map _), fun x hx => hv.dj x (List.mem_append.mpr (.inr hx))⟩
end BT
set_option Elab.async false
set_option linter.all false
set_option maxRecDepth 100000
set_option maxHeartbeats 4000000
namespace BT
open PySem PySem.Spec L2
open PyProof.Rows hiding St
/-! ### dicts that are walked: locked while it goes on -/
def unl (G : Hp) (d : Addr) : Hp := fun a => if a = d then none else G a
theorem unl_upd {G : Hp} {d : Addr} {o : HO} (h : G d = none) : unl (upd G d o) d = G := by
  funext a
  unfold unl
  by_cases e : a = d
  · rw [if_pos e, e, h]
  · rw [if_neg e, upd_ne e]
theorem hv_lock {G : Hp} {M1 M2 : Mem} {H : Hp} {d : Addr} {u o : HO} (h : Hv G (M1 ++ (d, u) :: M2) H) : Hv (upd G d o) (M1 ++ M2) (upd H d o) := by
  have hg : G d = none := h.dj (d, u) (by simp)
  have h2 := Wk.drop (G := G) M1 (x := (d, u)) (M2 := M2) H h
  have nd : ∀ x, x ∈ M1 ++ M2 → x.1 ≠ d := fun x hx z => by
    have nd := h.nd
    rw [List.map_append, List.map_cons, List.nodup_append] at nd
    obtain ⟨n1, n2, n3⟩ := nd
    rcases List.mem_append.mp hx with q | q
    · exact n3 x.1 (List.mem_map.mpr ⟨x, q, rfl⟩) d (by simp) z
    · rw [List.nodup_cons] at n2
      exact n2.1 (by rw [← z]; exact List.mem_map.mpr ⟨x, q, rfl⟩)
  refine ⟨fun b v e => ?_, fun x hx => ?_, h2.nd, fun x hx => ?_⟩
  · by_cases hb : b = d
    · subst hb; rw [upd_same] at e ⊢; exact e
    · rw [upd_ne hb] at e ⊢; exact h.ex b v e
  · rw [upd_ne (nd x hx)]; exact h2.mu x hx
  · rw [upd_ne (nd x hx)]; exact h2.dj x hx
theorem hv_unlock {G : Hp} {M : Mem} {H : Hp} {d : Addr} {u o : HO} (h : Hv G M H) (hd : G d = some o) : Hv (unl G d) ((d, u) :: M) (upd H d u) := by
  have nd : ∀ x, x ∈ M → x.1 ≠ d := fun x hx z => by
    have := h.dj x hx
    rw [z, hd] at this; cases this
  refine ⟨fun b v e => ?_, fun x hx => ?_, ?_, fun x hx => ?_⟩
  · unfold unl at e
    by_cases hb : b = d
    · rw [if_pos hb] at e; cases e
    · rw [if_neg hb] at e; rw [upd_ne hb]; exact h.ex b v e
  · rcases List.mem_cons.mp hx with rfl | hx
    · exact upd_same
    · rw [upd_ne (nd x hx)]; exact h.mu x hx
  · rw [List.map_cons, List.nodup_cons]
    refine ⟨fun z => ?_, h.nd⟩
    obtain ⟨x, hx, e⟩ := List.mem_map.mp z
    exact nd x hx e
  · unfold unl
    rcases List.mem_cons.mp hx with rfl | hx
    · rw [if_pos rfl]
    · rw [if_neg (nd x hx)]; exact h.dj x hx
/-- a statement with a dict locked -/
def kLock (t : KS) : KS := fun D σ G M => ∃ (M1 M2 : Mem) (d : Addr) (kvs : List (Key × V)), M = M1 ++ (d, .dK kvs) :: M2 ∧ ∀ od : Obj, G d = none →
  t { nx := fun σ' G' M' => G' d = some (.frz od (.dK kvs)) ∧ D.nx σ' (unl G' d) ((d, .dK kvs) :: M'), rt := fun v G' M' => G' d = some (.frz od (.dK kvs)) ∧ D.rt v (unl G' d) ((d, .dK kvs) :: M'), bk := fun _ _ _ => False, ct := fun _ _ _ => False, xc := fun _ _ _ _ _ => False } σ (upd G d (.frz od (.dK kvs))) (M1 ++ M2)
section
variable {X : Cx} {W : WX} {pos : Pos} {o i e f tg : Expr}
theorem js_lock {s : Stmt} {t : KS} (h : JS X W s t) : JS X W s (kLock t) :=
  ps_mono (ps_lock h) fun D σ H ⟨G, M, d, hv, ⟨M1, M2, dd, kvs, e, q⟩, en⟩ => by
    subst e
    exact ⟨dd, .dK kvs, hv.mu (dd, .dK kvs) (by simp), trivial, fun od => ⟨upd G dd (.frz od (.dK kvs)), M1 ++ M2, _, hv_lock hv, q od (hv.dj (dd, .dK kvs) (by simp)), ⟨fun σ' G' M' H' hv' ⟨e1, e2⟩ => ⟨hv'.ex _ _ e1, en.nx σ' _ _ _ (hv_unlock hv' e1) e2⟩, fun v G' M' H' hv' ⟨e1, e2⟩ => ⟨hv'.ex _ _ e1, en.rt v _ _ _ (hv_unlock hv' e1) e2⟩, fun _ _ _ _ _ z => z.elim, fun _ _ _ _ _ z => z.elim, fun _ _ _ _ _ _ _ z => z.elim⟩⟩⟩
/-- an expression with a dict locked -/
def kLockE (t : KE) : KE := fun σ G M R E => ∃ (M1 M2 : Mem) (d : Addr) (kvs : List (Key × V)), M = M1 ++ (d, .dK kvs) :: M2 ∧ ∀ od : Obj, G d = none →
  t σ (upd G d (.frz od (.dK kvs))) (M1 ++ M2) (fun v G' M' => G' d = some (.frz od (.dK kvs)) ∧ R v (unl G' d) ((d, .dK kvs) :: M')) (fun _ _ _ _ => False)
theorem je_lock {t : KE} (h : JE X W e t) : JE X W e (kLockE t) :=
  pe_mono (pe_lock h) fun σ H Q ⟨G, M, R, E, hv, ⟨M1, M2, dd, kvs, e, q⟩, hR, hE⟩ => by
    subst e
    exact ⟨dd, .dK kvs, hv.mu (dd, .dK kvs) (by simp), trivial, fun od => ⟨upd G dd (.frz od (.dK kvs)), M1 ++ M2, _, _, hv_lock hv, q od (hv.dj (dd, .dK kvs) (by simp)), fun v G' M' H' hv' ⟨e1, e2⟩ => ⟨hv'.ex _ _ e1, hR v _ _ _ (hv_unlock hv' e1) e2⟩, fun _ _ _ _ _ _ z => z.elim⟩⟩
/-! what is walked -/
def srcK (d : Addr) (o : Obj) (kvs : List (Key × V)) : Src := ⟨kvs.length, fun i => .inl (match kvs[i]? with | some p => kV p.1 | none => .non), fun G M => G d = some (.frz o (.dK kvs))⟩
def srcVs (d : Addr) (o : Obj) (kvs : List (Key × V)) : Src := ⟨kvs.length, fun i => .inl (match kvs[i]? with | some p => p.2 | none => .non), fun G M => G d = some (.frz o (.dK kvs))⟩
def srcI (d : Addr) (o : Obj) (kvs : List (Key × V)) : Src := ⟨kvs.length, fun i => .inr (match kvs[i]? with | some p => [kV p.1, p.2] | none => []), fun G M => G d = some (.frz o (.dK kvs))⟩
theorem goes_K {d : Addr} {o : Obj} {kvs : List (Key × V)} : Goes (srcK d o kvs) (Itk d o kvs) where
  go := fun i G M H hv ok hi => ⟨hv.ex _ _ ok, hi⟩
  stop := fun i G M H hv ok hi => ⟨hv.ex _ _ ok, hi⟩
  yld := fun i G M H x H' hv ok hi y => by
    obtain ⟨e1, k, v, e2, e3⟩ := y
    show x = (match kvs[i]? with | some p => kV p.1 | none => .non) ∧ H' = H
    rw [e2]; exact ⟨e3, e1⟩
theorem goes_Vs {d : Addr} {o : Obj} {kvs : List (Key × V)} : Goes (srcVs d o kvs) (Itd d o kvs) where
  go := fun i G M H hv ok hi => ⟨hv.ex _ _ ok, hi⟩
  stop := fun i G M H hv ok hi => ⟨hv.ex _ _ ok, hi⟩
  yld := fun i G M H x H' hv ok hi y => by
    obtain ⟨e1, k, e2⟩ := y
    show x = (match kvs[i]? with | some p => p.2 | none => .non) ∧ H' = H
    rw [e2]; exact ⟨rfl, e1⟩
theorem goes_I {d : Addr} {o : Obj} {kvs : List (Key × V)} : Goes (srcI d o kvs) (Iti d o kvs) where
  go := fun i G M H hv ok hi => ⟨hv.ex _ _ ok, hi⟩
  stop := fun i G M H hv ok hi => ⟨hv.ex _ _ ok, hi⟩
  yld := fun i G M H x H' hv ok hi y => by
    obtain ⟨T, k, v, e1, e2, e3, e4⟩ := y
    show ∃ T, x = .ref T ∧ H T = none ∧ H' = upd H T (.tup (match kvs[i]? with | some p => [kV p.1, p.2] | none => []))
    rw [e1]; exact ⟨T, e2, e3, e4⟩
def kiKeys (t : KE) : KI := fun σ G M R E => t σ G M (fun x G M => match x with
  | .ref d => ∃ o kvs, G d = some (.frz o (.dK kvs)) ∧ R (srcK d o kvs) G M
  | _ => False) E
def kiVals (t : KE) : KI := fun σ G M R E => t σ G M (fun x G M => match x with
  | .ref d => ∃ o kvs, G d = some (.frz o (.dK kvs)) ∧ R (srcVs d o kvs) G M
  | _ => False) E
def kiItems (t : KE) : KI := fun σ G M R E => t σ G M (fun x G M => match x with
  | .ref d => ∃ o kvs, G d = some (.frz o (.dK kvs)) ∧ R (srcI d o kvs) G M
  | _ => False) E
theorem ji_keys {t : KE} (h : JE X W e t) : JI X W tg e (kiKeys t) :=
  pi_mono (pi_keys h) fun σ H Q ⟨G, M, R, E, hv, h, hR, hE⟩ => ⟨G, M, _, E, hv, h, fun x G1 M1 H1 hv1 q => by
    match x, q with
    | .ref d, ⟨o, kvs, q1, q2⟩ => exact ⟨d, o, rfl, .inl ⟨kvs, hv1.ex _ _ q1, hR _ G1 M1 H1 hv1 q2 _ goes_K⟩⟩, hE⟩
theorem ji_vals {t : KE} {apos cpos : Pos} (h : JE X W e t) (hbase : attributeBase e "values" X.env (eval e X.env) = eval e X.env := by rfl) (hline : (apos.endLine == cpos.line) = true := by rfl) : JI X W tg (.Call (.Attribute e "values" apos) [] [] cpos) (kiVals t) :=
  pi_mono (pi_values h hbase hline) fun σ H Q ⟨G, M, R, E, hv, h, hR, hE⟩ => ⟨G, M, _, E, hv, h, fun x G1 M1 H1 hv1 q => by
    match x, q with
    | .ref d, ⟨o, kvs, q1, q2⟩ => exact ⟨d, o, kvs, rfl, hv1.ex _ _ q1, hR _ G1 M1 H1 hv1 q2 _ goes_Vs⟩, hE⟩
theorem ji_items {t : KE} {apos cpos tpos : Pos} {elts : List Expr} {kk : Nat} (h : JE X W e t) (hbase : attributeBase e "items" X.env (eval e X.env) = eval e X.env := by rfl) (hline : (apos.endLine == cpos.line) = true := by rfl) : JI X W (.Tuple elts kk tpos) (.Call (.Attribute e "items" apos) [] [] cpos) (kiItems t) :=
  pi_mono (pi_items h hbase hline) fun σ H Q ⟨G, M, R, E, hv, h, hR, hE⟩ => ⟨G, M, _, E, hv, h, fun x G1 M1 H1 hv1 q => by
    match x, q with
    | .ref d, ⟨o, kvs, q1, q2⟩ => exact ⟨d, o, kvs, rfl, hv1.ex _ _ q1, hR _ G1 M1 H1 hv1 q2 _ goes_I⟩, hE⟩
theorem ex_lock {G : Hp} {d : Addr} {o : HO} (h : G d = none) : Ex G (upd G d o) := fun a u e => by
  rw [upd_ne (fun z => by rw [z, h] at e; cases e)]; exact e
/-- d[k], also while d is walked -/
def kDGetF : KR2 := fun x y G M R => match x with
  | .ref a => ∃ (kvs : List (Key × V)) (k : Key) (v : V), (At G M a (.dK kvs) ∨ ∃ od, G a = some (.frz od (.dK kvs))) ∧ y = kV k ∧ valV kvs k = some v ∧ R v G M
  | _ => False
theorem je_dgetF {ta tb : KE} (hu : X.A.units + 64 < cLine) (ha : JE X W o ta) (hb : JE X W i tb) (hs : NoSl i := by exact fun _ _ => rfl) : JE X W (.Subscript o i pos) (kBin kDGetF ta tb) :=
  pe_mono (pe_dget (by omega) ha hb hs) fun σ H Q ⟨G, M, R, E, hv, h, hR, hE⟩ => ⟨G, M, _, E, hv, h, fun x G1 M1 H1 hv1 q1 => ⟨G1, M1, _, E, hv1, q1, fun y G2 M2 H2 hv2 q2 => by
    match x, q2 with
    | .ref a, ⟨kvs, k, v, q3, q4, q5, q6⟩ =>
      subst q4
      refine ⟨a, v, rfl, ?_, hR _ G2 M2 H2 hv2 q6⟩
      rw [← q5]
      rcases q3 with q3 | ⟨od, q3⟩
      · exact DGet.k (hv2.at q3)
      · exact .inl ⟨kvs, k, .inr ⟨od, hv2.ex _ _ q3⟩, rfl, rfl⟩, hE⟩, hE⟩
/-- list(d.items()) -/
def kItems (t : KE) : KE := fun σ G M R E => t σ G M (fun x G M => match x with
  | .ref d => ∃ kvs, At G M d (.dK kvs) ∧ ∀ (G' : Hp) (p : Addr) (ts : List Addr), Ex G G' → Fr G' M p → ts.length = kvs.length → (∀ (i : Nat) (q : Key × V), kvs[i]? = some q → ∃ T, ts[i]? = some T ∧ G' T = some (.tup [kV q.1, q.2])) → R (.ref p) G' ((p, .lst (ts.map V.ref)) :: M)
  | _ => False) E
theorem paired_get2 {α β : Type} {F : α → β → Prop} : ∀ {xs : List α} {ys : List β}, Paired F xs ys → ∀ {i : Nat} {y : β}, ys[i]? = some y → ∃ x, xs[i]? = some x ∧ F x y
  | _, _, .nil, _, _, h => by simp at h
  | _, _, .cons r t, 0, y, h => by
    have e := Option.some.inj h
    subst e
    exact ⟨_, rfl, r⟩
  | _, _, .cons r t, i + 1, y, h => by
    obtain ⟨x, h1, h2⟩ := paired_get2 t (i := i) (y := y) (by simpa using h)
    exact ⟨x, by simpa using h1, h2⟩
theorem je_items {t : KE} {p apos cpos pos : Pos} (hm : X.mg "list" = none) (he : JE X W e t) (hc : X.calm = true := by rfl) (hg : Gl X "list" := by rfl) (hv : bootBuiltins "list" = some (.type "list") := by decide +kernel) (hbase : attributeBase e "items" X.env (eval e X.env) = eval e X.env := by rfl) (hline : (apos.endLine == cpos.line) = true := by rfl)
    (hs : starEach [.Call (.Attribute e "items" apos) [] [] cpos] X.env = (false, eval (.Call (.Attribute e "items" apos) [] [] cpos) X.env) :: starEach [] X.env := by rfl) :
    JE X W (.Call (.Name "list" p) [.Call (.Attribute e "items" apos) [] [] cpos] [] pos) (kItems t) :=
  pe_mono (LiI.pe_listItems hc he hg hm hv hbase hline hs) fun σ H Q ⟨G, M, R, E, hv, h, hR, hE⟩ => ⟨G, M, _, E, hv, h, fun x G1 M1 H1 hv1 q => by
    match x, q with
    | .ref d, ⟨kvs, q1, q2⟩ =>
      refine ⟨d, kvs, rfl, hv1.at q1, fun H' p ts ex hp hts hpt hpl pr => ?_⟩
      obtain ⟨G', hG'⟩ : ∃ G' : Hp, G' = fun a => if a ∈ ts then H' a else G1 a := ⟨_, rfl⟩
      have eG : Ex G1 G' := fun a u e => by
        rw [hG']
        show (if a ∈ ts then H' a else G1 a) = some u
        rw [if_neg (fun z => by have := hts a z; rw [hv1.ex a u e] at this; cases this)]; exact e
      have gp : G1 p = none := by
        cases e : G1 p with
        | none => rfl
        | some u => rw [hv1.ex p u e] at hp; cases hp
      have mp : ∀ x, x ∈ M1 → x.1 ≠ p := fun x hx z => by have := hv1.mu x hx; rw [z, hp] at this; cases this
      have mt : ∀ x, x ∈ M1 → x.1 ∉ ts := fun x hx z => by have := hv1.mu x hx; rw [hts _ z] at this; cases this
      have fp : Fr G' M1 p := ⟨by rw [hG']; show (if p ∈ ts then _ else _) = none; rw [if_neg hpt]; exact gp, mp⟩
      have hv2 : Hv G' ((p, .lst (ts.map V.ref)) :: M1) H' := by
        refine ⟨fun a u e => ?_, fun x hx => ?_, ?_, fun x hx => ?_⟩
        · rw [hG'] at e
          have e : (if a ∈ ts then H' a else G1 a) = some u := e
          split at e
          · exact e
          · exact ex a u (hv1.ex a u e)
        · rcases List.mem_cons.mp hx with rfl | hx
          · exact hpl
          · exact ex _ _ (hv1.mu x hx)
        · rw [List.map_cons, List.nodup_cons]
          refine ⟨fun z => ?_, hv1.nd⟩
          obtain ⟨x, hx, e⟩ := List.mem_map.mp z
          exact mp x hx e
        · rw [hG']
          rcases List.mem_cons.mp hx with rfl | hx
          · show (if p ∈ ts then _ else _) = none
            rw [if_neg hpt]; exact gp
          · show (if x.1 ∈ ts then _ else _) = none
            rw [if_neg (mt x hx)]; exact hv1.dj x hx
      refine hR _ G' _ H' hv2 (q2 G' p ts eG fp (Paired.length pr) fun i kv hkv => ?_)
      obtain ⟨T, h1, h2⟩ := paired_get2 pr hkv
      refine ⟨T, h1, ?_⟩
      rw [hG']
      show (if T ∈ ts then H' T else _) = _
      rw [if_pos (List.mem_of_getElem? h1)]; exact h2, hE⟩
end
end BT
set_option Elab.async false
set_option linter.all false
set_option maxRecDepth 100000
set_option maxHeartbeats 4000000
namespace BT
open PySem PySem.Spec L2
open PyProof.Rows hiding St
/-! ### a statement at which some heap is known to be as told -/
def kH (t : KS) : KS := fun D σ G M => (∃ H, Hv G M H) → ∃ G' M', Wk G M G' M' ∧ t D σ G' M'
theorem js_h {X : Cx} {W : WX} {s : Stmt} {t : KS} (h : JS X W s t) : JS X W s (kH t) := ps_mono h fun D σ H ⟨G, M, d, hv, q, en⟩ => by
  obtain ⟨G', M', wk, q⟩ := q ⟨H, hv⟩
  exact ⟨G', M', d, wk H hv, q, en⟩
/-- a cell may be frozen -/
theorem Hv.fz {G : Hp} {M : Mem} {p : Addr} {o : HO} (h : ∃ H, Hv G ((p, o) :: M) H) : Ex G (upd G p o) := by
  obtain ⟨H, hv⟩ := h
  exact Ex.new' (hv.dj (p, o) List.mem_cons_self)
theorem Hv.no {G : Hp} {M : Mem} {x : Addr × HO} (h : ∃ H, Hv G M H) (hx : x ∈ M) : G x.1 = none := by
  obtain ⟨H, hv⟩ := h
  exact hv.dj x hx
theorem Hv.ne {G : Hp} {M : Mem} {x y : Addr × HO} {i j : Nat} (h : ∃ H, Hv G M H) (hx : M[i]? = some x) (hy : M[j]? = some y) (n : i ≠ j) : x.1 ≠ y.1 := fun e => by
  obtain ⟨H, hv⟩ := h
  exact n (nodup_at M j y.1 y.2 x i hv.nd hy hx e)
end BT
namespace BT
open PySem PySem.Spec L2
theorem Hv.newc {G : Hp} {Mx M : Mem} (h : ∃ H, Hv G (Mx ++ M) H) : NewC G Mx := by
  obtain ⟨H, hv⟩ := h
  exact ⟨fun x hx => hv.dj x (List.mem_append.mpr (.inl hx)), hv.nd.sublist ((List.sublist_append_left Mx M).map _)⟩
end BT
set_option Elab.async false
set_option linter.all false
set_option maxRecDepth 100000
set_option maxHeartbeats 4000000
namespace BT
open PySem PySem.Spec L2
open PyProof.Rows hiding St
/-! ### defs that are called where no guard stands; repr -/
structure GFn (P : Program) (w : World) (K : PySem.W.Frag) (mg : Str → Option Value) (base : Heap) (k : Nat) (f : Addr) (fd : FuncData) (ps : List Str) (sp : Sp) : Prop where
  len : ∀ vs H Q E, sp vs H Q E → vs.length = ps.length
  go : ∀ {A : Around} {outer : List Env} {s : Shared} {H : Hp} {args : Args} {us : List Value} {vs : List V} {Q : VK} {E : XK}, A.guards = some [] → Room k A → Env0 P w K mg base A outer s H → BindsTo s fd args (ps.zip us) → Vals vs us → sp vs H Q E →
    codeAny (model P w) A (.call (.ref f) args) (CR (L2.CX P w) outer P w H s Q E) s
section
variable {P : Program} {w : World} {K : PySem.W.Frag} {mg : Str → Option Value} {base : Heap} {k : Nat} {f : Addr} {fd : FuncData} {ps : List Str} {sp : Sp}
theorem GFn.mono {j : Nat} (F : GFn P w K mg base j f fd ps sp) (h : j ≤ k) : GFn P w K mg base k f fd ps sp := ⟨F.len, fun g r => F.go g (r.mono h)⟩
theorem FnOk.guarded (F : FnOk P w K mg base (L2.CX P w) k f fd ps sp) : GFn P w K mg base k f fd ps sp := ⟨F.len, fun _ r e b v q => F.run _ _ _ _ _ _ _ _ _ r e b v q⟩
theorem gfn_mk {x qual : Str} {st : Stmt} {N : List Str} (F : Fun K x qual st f fd) (sc : FnScope N ps (defScope st)) (len : ∀ vs H Q E, sp vs H Q E → vs.length = ps.length)
    (hbd : ∀ (cdv : Value) (A : Around) (outer : List Env) (s : Shared) (H : Hp) (vs : List V) (Q : VK) (E : XK), A.guards = some [] → Room k (A.deeper (envOfC qual (defScope st) s.heap.objs.size f cdv)) → sp vs H Q E →
      ∃ t, PSs (cxOf (L2.CX P w) P w K mg base N qual (defScope st) f cdv A outer s H E) (defBody st) t ∧ t { nx := fun _ H' => Q .non H', rt := Q } (start N vs) H) : GFn P w K mg base (k + 1) f fd ps sp := by
  obtain ⟨o1, o2, o3, o4, o5, o6, cdv, o8, o9, rfl, lk, hcd⟩ := F.ex
  refine ⟨len, fun {A outer s H args us vs Q E} gd rm en bd rv hsp => ?_⟩
  have hln := len _ _ _ _ hsp
  have inK : K.In s.heap := en.mod.kin.keeps fun a u z => (en.bs a u z).1
  have nolim : s.heap.NoLimit := en.mod.nolimit.keeps fun a u z => (en.bs a u z).1
  have kinds : ∀ z ∈ ps.zip us, (defScope st).names.lookup z.1 = some .local ∨ ((defScope st).names.lookup z.1 = some .cell ∧ ((cellsFrom (s.heap.objs.size + 1) (defScope st).names []).lookup z.1).isSome = true) := fun z hz => by
    obtain ⟨n, u⟩ := z
    rcases sc.par n (List.of_mem_zip hz).1 with h | h
    · exact .inl h
    · exact .inr ⟨h, PySem.W.cellsFrom_some _ _ _ (.inl h)⟩
  refine codeAny_call_function rm.depth (inK _ _ lk) rfl sc.co sc.gen rfl (PySem.W.codeRec_of inK hcd) (bd _ _ _ _ ?_)
  refine wpAny_newFunctionEnv_cells sc.kind kinds fun env hen s1 x => ?_
  subst hen
  refine ⟨nolim.keeps x.toInCall.keep, codeAny_func ?_⟩
  obtain ⟨t, ht, hq⟩ := hbd cdv A outer s H vs Q E gd (rm.deeper _) hsp
  have I := inv_start (CX := L2.CX P w) (E := E) sc rm.hd en hln rv x
  have fin : ∀ {σ' : St} {H' : Hp} {v : V} {u : Value} {s' : Shared}, Inv (cxOf (L2.CX P w) P w K mg base N qual (defScope st) f cdv A outer s H E) [] σ' H' s' → RelV v u → Q v H' → CE outer P w H s Q u s' := fun J r2 q => ⟨_, _, J.os, J.bare, J.base, J.hok, r2, q⟩
  refine wpAny_mono (ht.run [] s1 (start N vs) H _ I hq) (fun fl s' hs => ?_) fun e s' hs => hs
  match fl, hs with
  | .ret u, ⟨v, σ', H', J, r2, q⟩ => exact fin J r2 q
  | .next, ⟨σ', H', J, q⟩ => exact fin (v := V.non) (u := Value.none) J rfl q
  | .brk, ⟨_, _, _, z⟩ => exact z.elim
  | .cont, ⟨_, _, _, z⟩ => exact z.elim
/-- a def with its promise, of this kind -/
theorem gfn_ok {x qual : Str} {st : Stmt} {N : List Str} {S : KSp} (F : Fun K x qual st f fd) (sc : FnScope N ps (defScope st)) (len : ∀ vs G M R X, S vs G M R X → vs.length = ps.length)
    (hbody : ∀ (cdv : Value) (A : Around) (outer : List Env) (s : Shared) (H : Hp) (E : XK), A.guards = some [] → Room k (A.deeper (envOfC qual (defScope st) s.heap.objs.size f cdv)) →
      ∃ t, JSs (cxOf (L2.CX P w) P w K mg base N qual (defScope st) f cdv A outer s H E) (fun c d _ H => E c d H) (defBody st) t ∧
        ∀ vs G M R Z, S vs G M R Z → t { nx := fun _ G M => wkR R .non G M, rt := wkR R, xc := fun c d _ G M => wkX Z c d G M } (start N vs) G M) : GFn P w K mg base (k + 1) f fd ps (lift S) := by
  refine gfn_mk F sc (fun vs H Q E ⟨G, M, R, Z, _, h, _⟩ => len vs G M R Z h) fun cdv A outer s H vs Q E hg hr ⟨G, M, R, Z, hv, h, hR, hZ⟩ => ?_
  obtain ⟨t, j, q⟩ := hbody cdv A outer s H E hg hr
  exact ⟨_, j, G, M, _, hv, q vs G M R Z h, ⟨fun σ G M H hv h => (h H hv).elim fun G' h => h.elim fun M' h => hR _ G' M' H h.1 h.2, fun v G M H hv h => (h H hv).elim fun G' h => h.elim fun M' h => hR _ G' M' H h.1 h.2, fun _ _ _ _ _ z => z.elim, fun _ _ _ _ _ z => z.elim, fun c a σ G M H hv ⟨G', M', w, q⟩ => hZ c a G' M' H (w H hv) q⟩⟩
structure DefG (P : Program) (w : World) (K : PySem.W.Frag) (mg : Str → Option Value) (base : Heap) (lev : Nat) (x : Str) (ps : List Str) (S : KSp) : Prop where
  ex : ∃ f fd, GFn P w K mg base lev f fd ps (lift S) ∧ mg x = some (.ref f) ∧ PySem.W.keepIn K (.ref f) = true ∧ Binds K fd ps []
end
section
variable {X : Cx} {W : WX} {pos p : Pos} {e : Expr} {es : List Expr} {x : Str} {k lev : Nat} {ps : List Str} {S : KSp} {t : KA}
theorem je_callG (D : DefG X.prog X.w X.K X.mg X.base lev x ps S) (hg0 : X.A.guards = some []) (hr : Room k X.A) (tk : Takes X W) (ha : JA X W (e :: es) t) (hl : lev ≤ k := by decide) (hg : Gl X x := by rfl)
    (hdb : (x == ("__debug__" : Str)) = false := by decide) (he : starEach (e :: es) X.env = (false, eval e X.env) :: starEach es X.env := by rfl) (hpl : (backTo pos (starEach es X.env)).any (·.1) = false := by rfl) :
    JE X W (.Call (.Name x p) (e :: es) [] pos) (kCall S t) := by
  obtain ⟨f, fd, F, hm, hk, hb⟩ := D.ex
  have F := F.mono hl
  refine ⟨fun pins s σ H Q I ⟨G, M, R, E, hv, h, hR, hE⟩ => ?_⟩
  refine wpAny_Call_Name_kw (ld_glob I hg hm ?_ hdb)
  refine PySem.W.callWith_K (h₀ := X.base) I.ok.mod.kin hk (thn (ha.run pos pins s σ H (fun vs H1 => lift S vs H1 Q (WE W σ)) I ?_) fun us s1 ⟨vs, H1, I1, r, q⟩ => ⟨I1.kIn, ?_⟩) he hpl
  · exact ⟨G, M, _, E, hv, h, fun vs G1 M1 H1 hv1 q => ⟨G1, M1, R, E, hv1, q, hR, hE⟩, hE⟩
  have hl : us.length = ps.length := by rw [← r.length]; exact F.len _ _ _ _ q
  have b := hb s1 us I1.kIn (by rw [List.append_nil]; exact hl)
  rw [List.append_nil] at b
  refine wpAny_call (codeAny_mono (F.go (args := ⟨us, []⟩) hg0 hr I1.env0 b r q) fun r s' hq => ?_)
  match r, hq with
  | .error e, hq => exact passAt tk σ pins H1 s1 e s' I1 hq
  | .ok (.ret u), hq => exact I1.after hq
  | .ok .next, hq => exact False.elim hq
  | .ok .brk, hq => exact False.elim hq
  | .ok .cont, hq => exact False.elim hq
/-- repr of data -/
def kRepr (K : PySem.W.Frag) : KC := fun vs G M R => match vs with
  | [x] => ∃ (d : PyData), DatAt K G M x d ∧ d.showable = true ∧ d.hasDict = false ∧ d.depth ≤ 30 ∧ d.shown.length ≤ sizeLine ∧ R (.str d.shown) G M
  | _ => False
theorem kc_repr (hg : X.A.guards = some []) (hu : X.A.units + 64 < cLine) : KCall X (.builtin "repr") (kRepr X.K) := by
  intro pins s σ H vs us Q I r h
  obtain ⟨G, M, R, hv, h, hR⟩ := h
  match vs, h with
  | [x], ⟨d, h1, h2, h3, h4, h5, h6⟩ =>
    have hd := hv.dat h1
    cases r with
    | @cons _ u _ _ rx rr =>
      cases rr
      have fin : ∀ (h' : Heap) (t : Tok) (tk : Tok), (∀ b o, s.heap.get? b = some o → h'.get? b = some o) → EP X pins σ Q (.str d.shown t) { s with heap := h', toks := tk } := fun h' t tk hk => ⟨.str d.shown, H, I.kept hk, ⟨t, rfl⟩, hR _ _ _ _ hv h6⟩
      cases hd with
      | non =>
        obtain rfl : u = Value.none := rx
        exact PySem.P.repr_of_none (fin _ _ _ fun _ _ z => z)
      | bl b =>
        obtain rfl : u = Value.bool b := rx
        exact PySem.P.repr_of_bool (fin _ _ _ fun _ _ z => z)
      | int i =>
        obtain ⟨t, rfl⟩ := (show ∃ t, u = Value.int i t from rx)
        exact PySem.P.repr_of_int (of_decide_eq_true (by simpa [PyData.showable] using h2)) (fin _ _ _ fun _ _ z => z)
      | str z =>
        obtain ⟨t, rfl⟩ := (show ∃ t, u = Value.str z t from rx)
        exact PySem.P.repr_of_str (fin _ _ _ fun _ _ z => z) h5
      | @lst a xs ds h7 h8 =>
        obtain rfl : u = Value.ref a := rx
        obtain ⟨as, rd⟩ := Dp.reads I (.list ds) (.ref a) (.ref a) (.lst h7 h8) rfl
        exact repr_of_reads' rd h2 (fun z => by rw [h3] at z; cases z) hg (by omega) (fun _ _ z => z) (fun h' u tk hk => fin _ _ _ hk) h5
      | @tup a xs ds h7 h8 =>
        obtain rfl : u = Value.ref a := rx
        obtain ⟨as, rd⟩ := Dp.reads I (.tuple ds) (.ref a) (.ref a) (.tup h7 h8) rfl
        exact repr_of_reads' rd h2 (fun z => by rw [h3] at z; cases z) hg (by omega) (fun _ _ z => z) (fun h' u tk hk => fin _ _ _ hk) h5
end
end BT
namespace BT
open PySem PySem.Spec L2
open PyProof.Rows hiding St
/-- the law's own call, where nothing but the script is known of the heap -/
theorem call_known {P : Program} {w : World} {K : PySem.W.Frag} {mg mb : Str → Option Value} {k : Nat} {fa a : Addr} {fd : FuncData} {x : Str} {sp : Sp} {s : Shared} {us : List Value} {ns : List Int} (inK : K.In s.heap) (gl : s.heap.Ns mainGlobals mg) (bi : s.heap.Ns builtinsNs mb) (boot : ∀ x : Str, x ≠ "__name__" → mb x = bootBuiltins x)
    (nolim : s.heap.NoLimit) (gens : s.gens = #[]) (hobj : s.heap.get? a = some { cls := .type "list", data := .seq us.toArray }) (rm : Room k callerA) (F : ∀ base : Heap, K.In base → base.Ns mainGlobals mg → GFn P w K mg base k fa fd [x] sp) (bd : ∀ (s : Shared) (u : Value), BindsTo s fd ⟨[u], []⟩ [(x, u)])
    (H : Hp) (only : L2.Only H) (hs : sp [.ref a] H (fun v _ => v = .bl true) fun _ _ _ => False) (hok : HOk P w H s.heap) (one : ∀ b, H b ≠ none → b = a) (own : H a ≠ none → K.lookup a = none) :
    codeAny (model P w) callerA (.call (.ref fa) ⟨[.ref a], []⟩) (fun r s' => r = .ok (.ret (.bool true)) ∧ OldK s.heap s'.heap ∧ s'.os = s.os ∧ AllBare s'.gens) s := by
  have seen : ∀ {b : Addr} {o : Obj}, s.heap.get? b = some o → H b = none → (hidT s.heap H).get? b = some o := fun e z => hidT_get e z
  have nodict : ∀ {b : Addr} {o : Obj} {es : Array DictEntry} {ep : Nat}, s.heap.get? b = some o → o.data = .dict es ep → H b = none := fun {b o es ep} e dd => by
    apply Classical.byContradiction
    intro z
    have ba := one b z
    subst ba
    rw [hobj] at e
    cases e
    exact absurd (show Data.seq us.toArray _ = Data.dict es ep from dd) (by intro y; cases y)
  have ns2 : ∀ {b : Addr} {m : Str → Option Value}, s.heap.Ns b m → (hidT s.heap H).Ns b m := fun ⟨o, es, ep, e, dd, r⟩ => ⟨o, es, ep, seen e (nodict e dd), dd, r⟩
  have inB : K.In (hidT s.heap H) := fun b o e => seen (inK b o e) (by
    apply Classical.byContradiction
    intro z
    have ba := one b z
    subst ba
    rw [own z] at e
    cases e)
  obtain ⟨mc, l1, l2⟩ := nolim
  have md : Mod K mg (hidT s.heap H) := ⟨inB, ns2 gl, ⟨mb, ns2 bi, boot⟩, ⟨mc, ns2 l1, l2⟩⟩
  have en : Env0 P w K mg (hidT s.heap H) callerA [] s H := ⟨rfl, md, fun b o e => of_hidT e, Nat.le_of_eq (hidT_size _ _), trivial, (fun b z => nomatch z), hok, .of_eq gens⟩
  refine codeAny_mono ((F _ inB (ns2 gl)).go (args := ⟨[.ref a], []⟩) (us := [.ref a]) (vs := [.ref a]) rfl rm en (bd s (.ref a)) (.cons rfl .nil) hs) fun r s' h => ?_
  match r, h with
  | .error e, h => exact (cx_none h).elim
  | .ok .next, h => exact False.elim h
  | .ok .brk, h => exact False.elim h
  | .ok .cont, h => exact False.elim h
  | .ok (.ret u), ⟨v, H', h1, h2, un, h3, h4, h5⟩ =>
    have e5 : v = .bl true := h5
    subst e5
    obtain rfl : u = Value.bool true := h4
    refine ⟨rfl, OldK.of_keep fun b o e => ?_, h1, h2⟩
    by_cases z : H b = none
    · exact un.keep b o e z (fun y => nomatch y) (by simp)
    · rcases only b with y | ⟨ob, xs, y⟩
      · exact (z y).elim
      · obtain ⟨e1, _⟩ := hok b _ y
        obtain ⟨e2, _⟩ := h3 b _ (un.frzs b ob _ y)
        rw [e] at e1
        cases e1
        exact e2
theorem law_callG {P : Program} {w : World} {K : PySem.W.Frag} {mg mb : Str → Option Value} {k : Nat} {fa a : Addr} {fd : FuncData} {x : Str} {sp : Sp} {s : Shared} {us : List Value} {ns : List Int} (inK : K.In s.heap) (gl : s.heap.Ns mainGlobals mg) (bi : s.heap.Ns builtinsNs mb) (boot : ∀ x : Str, x ≠ "__name__" → mb x = bootBuiltins x)
    (nolim : s.heap.NoLimit) (gens : s.gens = #[]) (hobj : s.heap.get? a = some { cls := .type "list", data := .seq us.toArray }) (hi : IntsAre us ns) (hl : ns.length ≤ sizeLine) (rm : Room k callerA) (F : ∀ base : Heap, K.In base → base.Ns mainGlobals mg → GFn P w K mg base k fa fd [x] sp)
    (bd : ∀ (s : Shared) (u : Value), BindsTo s fd ⟨[u], []⟩ [(x, u)]) (hs : ∀ H : Hp, L2.Only H → SqL K H a (ns.map V.int) → sp [.ref a] H (fun v _ => v = .bl true) fun _ _ _ => False) :
    codeAny (model P w) callerA (.call (.ref fa) ⟨[.ref a], []⟩) (fun r s' => r = .ok (.ret (.bool true)) ∧ OldK s.heap s'.heap ∧ s'.os = s.os ∧ AllBare s'.gens) s := by
  have rv := L2.vals_ints hi
  by_cases own : K.lookup a = none
  · obtain ⟨H, hH⟩ : ∃ H : Hp, H = fun b => if b = a then some (.frz { cls := .type "list", data := .seq us.toArray } (.lst (ns.map V.int))) else none := ⟨_, rfl⟩
    have at_ : ∀ b, (b = a ∧ H b = some (.frz { cls := .type "list", data := .seq us.toArray } (.lst (ns.map V.int)))) ∨ (b ≠ a ∧ H b = none) := fun b => by
      rw [hH]
      by_cases z : b = a
      · exact .inl ⟨z, if_pos z⟩
      · exact .inr ⟨z, if_neg z⟩
    have atA : H a = some (.frz { cls := .type "list", data := .seq us.toArray } (.lst (ns.map V.int))) := by
      rcases at_ a with h | h
      · exact h.2
      · exact (h.1 rfl).elim
    have only : L2.Only H := fun b => (at_ b).elim (fun h => .inr ⟨_, _, h.2⟩) fun h => .inl h.2
    refine call_known (ns := ns) inK gl bi boot nolim gens hobj rm F bd H only (hs H only (.inl (.inr ⟨_, atA⟩))) (fun b u z => ?_) (fun b z => ?_) fun _ => own
    · rcases at_ b with h | h
      · rw [h.2] at z
        cases z
        rw [h.1]
        exact ⟨hobj, by rw [List.length_map]; exact hl, us, _, rv, hobj⟩
      · rw [h.2] at z
        cases z
    · rcases at_ b with h | h
      · exact h.1
      · exact (z h.2).elim
  · obtain ⟨o, ho⟩ : ∃ o, K.lookup a = some o := by
      cases e : K.lookup a with
      | none => exact (own e).elim
      | some o => exact ⟨o, rfl⟩
    have e := inK a o ho
    rw [hobj] at e
    cases e
    refine call_known (ns := ns) inK gl bi boot nolim gens hobj rm F bd (fun _ => none) (fun _ => .inl rfl) (hs _ (fun _ => .inl rfl) (.inr ⟨_, us.toArray, _, ho, rfl, rfl, rfl, ?_, by simpa using rv⟩)) (fun b u z => nomatch (show (none : Option HO) = some u from z)) (fun b z => (z rfl).elim) fun z => (z rfl).elim
    rw [List.size_toArray, hi.length]
    exact hl
theorem walk_ofG {l : PySem.W.OpenLaw} {n k : Nat} {q : Program} {loose : List Str} {XP : (Str → Option Value) → Heap → Prop} {YP : World → Heap → Prop} {d : DefRec} {K : Params → PySem.W.Frag} {sp : World → Sp} {x : Str} (hn : l.most = some n) (hn2 : n ≤ sizeLine) (hdf : d.params.defaults = []) (rm : Room k callerA)
    (hY : ∀ (w : World) (h : Heap), YP w h → (K w.params).In h) (F : ∀ (w : World) (mg : Str → Option Value) (fa : Addr) (h : Heap), (K w.params).In h → h.Ns mainGlobals mg → mg d.name = some (.ref fa) → ∃ fd : FuncData, (∀ (s : Shared) (u : Value), BindsTo s fd ⟨[u], []⟩ [(x, u)]) ∧ ∀ base : Heap, (K w.params).In base → base.Ns mainGlobals mg → GFn l.prog w (K w.params) mg base k fa fd [x] (sp w))
    (hsp : ∀ (w : World) (H : Hp) (a : Addr) (ns : List Int), ns.length ≤ n → L2.Only H → SqL (K w.params) H a (ns.map V.int) → sp w [.ref a] H (fun v _ => v = .bl true) fun _ _ _ => False) : PySem.W.WalkO q loose XP YP l.row.toRowW d [] (fun f vs => PySem.call f vs) := by
  refine Att.attach_call hn hdf fun w s₀ s₁ mg mb fa o pm cd doc a vs ns G Y ho hd hcd hmg hobj hints hlen hg => ?_
  obtain ⟨fd, hb, hF⟩ := F w mg fa _ (hY w _ Y) G.T.g hmg
  exact law_callG (hY w _ Y) G.T.g G.T.b G.T.builtins G.T.nolimit hg hobj hints (Nat.le_trans hlen hn2) rm hF hb fun H hO hS => hsp w H a ns hlen hO hS
end BT
namespace BT
open PySem PySem.Spec L2
/-! ### data that may be shown -/
structure Sho (p w : Nat) (d : PyData) : Prop where
  s : d.showable = true
  n : d.hasDict = false
  l : d.leavesShort 25 = true
  p : d.depth ≤ p
  w : d.weight ≤ w
theorem Sho.up {p p' w w' : Nat} {d : PyData} (h : Sho p w d) (hp : p ≤ p') (hw : w ≤ w') : Sho p' w' d := ⟨h.s, h.n, h.l, Nat.le_trans h.p hp, Nat.le_trans h.w hw⟩
theorem sho_int {i : Int} (h0 : 0 ≤ i) (h : i < 10 ^ 20) : Sho 0 70 (.int i) := by
  have hl : i.natAbs < 2 ^ 67 := by
    have : (10 : Int) ^ 20 < 2 ^ 67 := by decide
    have e : ((i.natAbs : Nat) : Int) = i := by omega
    have : ((i.natAbs : Nat) : Int) < ((2 ^ 67 : Nat) : Int) := by rw [e]; exact Int.lt_trans h this
    exact Int.ofNat_lt.mp this
  have h67 : i.natAbs ≠ 0 → i.natAbs.log2 < 67 := fun z => (Nat.log2_lt z).mpr hl
  have hlog : i.natAbs.log2 < 67 := by
    by_cases z : i.natAbs = 0
    · rw [z]; decide
    · exact h67 z
  refine ⟨?_, rfl, ?_, Nat.le_refl _, ?_⟩
  · show decide (i.natAbs.log2 < 1920) = true
    exact decide_eq_true (by omega)
  · show decide ((PyData.shown (.int i)).length ≤ 25) = true
    have := PyProof.Rows.toString_length_le h0 (k := 20) (by decide) h
    exact decide_eq_true (Nat.le_trans this (by decide))
  · show (if i == 0 then 0 else i.natAbs.log2 + 1) ≤ 70
    split <;> omega
theorem sho_non : Sho 0 0 .none := ⟨rfl, rfl, rfl, Nat.le_refl _, Nat.le_refl _⟩
theorem sho_bl {b : Bool} : Sho 0 0 (.bool b) := ⟨rfl, rfl, rfl, Nat.le_refl _, Nat.le_refl _⟩
theorem sho_all {p w : Nat} : ∀ {ds : List PyData}, (∀ d, d ∈ ds → Sho p w d) → PyData.showableAll ds = true ∧ PyData.hasDictAll ds = false ∧ PyData.leavesShortAll 25 ds = true ∧ PyData.depthAll ds ≤ p ∧ PyData.weightAll ds ≤ ds.length * (w + 1)
  | [], _ => ⟨rfl, rfl, rfl, Nat.zero_le _, Nat.zero_le _⟩
  | d :: ds, h => by
    obtain ⟨a1, a2, a3, a4, a5⟩ := sho_all fun x hx => h x (List.mem_cons_of_mem _ hx)
    have b := h d List.mem_cons_self
    refine ⟨?_, ?_, ?_, ?_, ?_⟩
    · show (d.showable && PyData.showableAll ds) = true
      rw [b.s, a1]; rfl
    · show (d.hasDict || PyData.hasDictAll ds) = false
      rw [b.n, a2]; rfl
    · show (d.leavesShort 25 && PyData.leavesShortAll 25 ds) = true
      rw [b.l, a3]; rfl
    · show max d.depth (PyData.depthAll ds) ≤ p
      have := b.p; omega
    · show d.weight + 1 + PyData.weightAll ds ≤ (ds.length + 1) * (w + 1)
      have := b.w
      rw [Nat.succ_mul]; omega
theorem sho_list {p w : Nat} {ds : List PyData} (h : ∀ d, d ∈ ds → Sho p w d) : Sho (p + 1) (ds.length * (w + 1)) (.list ds) := by
  obtain ⟨a1, a2, a3, a4, a5⟩ := sho_all h
  exact ⟨a1, a2, a3, Nat.succ_le_succ a4, a5⟩
theorem sho_tup {p w : Nat} {ds : List PyData} (h : ∀ d, d ∈ ds → Sho p w d) : Sho (p + 1) (ds.length * (w + 1)) (.tuple ds) := by
  obtain ⟨a1, a2, a3, a4, a5⟩ := sho_all h
  exact ⟨a1, a2, a3, Nat.succ_le_succ a4, a5⟩
theorem repr_sho {K : PySem.W.Frag} {G : Hp} {M : Mem} {R : KR} {x : V} {d : PyData} {p w : Nat} (h : DatAt K G M x d) (s : Sho p w d) (hp : p ≤ 30) (hw : w ≤ 600000) (q : R (.str d.shown) G M) : kRepr K [x] G M R :=
  ⟨d, h, s.s, s.n, Nat.le_trans s.p hp, Nat.le_trans (PyData.shown_le 25 (by decide) d s.l) (Nat.le_trans (m := (25 + 2) * 600000 + 25) (Nat.add_le_add_right (Nat.mul_le_mul_left _ (Nat.le_trans s.w hw)) _) (by decide)), q⟩
end BT
set_option Elab.async false
set_option linter.all false
set_option maxRecDepth 100000
set_option maxHeartbeats 4000000
/-! sorted(set(xs)), xs a list of ints -/
namespace BT
open PySem PySem.Spec L2
open PyProof.Rows hiding St
section
variable {P : Program} {w : World} {A : Around} {E : Value → Shared → Prop} {s : Shared}
/-- a set that was made just now -/
def setO (b : Bool) : Obj := { cls := .type "set", dict := none, data := .set #[] 0 (.fresh 0 0 b) }
def withO (s : Shared) (o : Obj) : Shared := { s with heap := s.heap.push o }
set_option maxHeartbeats 3200000 in
theorem set_of_ints {l : Addr} {xs : Array Value} (ns : List Int) {Q : Value → Shared → Prop} (quiet : A.handled = none) (isL : s.heap.IsList l xs) (isI : IntsAre xs.toList ns) (few : ns.length + 1 < scanBound)
    (fin : ∀ (h' : Heap) (tk c : Nat), SetR w h' s.heap.objs.size (fun j => decide (j ∈ ns)) c → c ≤ ns.length → (∀ b o, s.heap.get? b = some o → h'.get? b = some o) → Q (.ref s.heap.objs.size) { s with heap := h', toks := tk }) :
    wpAny (model P w) A (call (.type "set") [.ref l]) Q E s := by
  have sameN : xs.size = ns.length := by
    have z := IntsAre.length isI
    rwa [Array.length_toList] at z
  obtain ⟨b, hb⟩ : ∃ b, b = !w.params.followText "set-order" := ⟨_, rfl⟩
  obtain ⟨i0, i1, i2⟩ := PySem.F.called_set.mro
  have i3 := PySem.F.called_set.made
  have i4 := PySem.F.called_set.sub
  refine wpAny_call (codeAny_of_tree (show wpAny _ _ (callAny (.type "set") _) _ _ _ from wpAny_pure ⟨Code.quiet_builtin _ (by decide +kernel), codeAny_builtin PySem.F.entry_type_call ?_⟩))
  rw [Around.under_plain (weight_type_call_type "set" [.ref l] []) rfl]
  have i5 := PySem.F.called_set.notType
  have i6 := PySem.F.called_set.canCreate
  have i7 := PySem.F.typeCall_set_1 (.ref l)
  iterate 20 (try (any_goals (first | assumption | wp_step)))
  refine codeAny_mono (code_set_led1 (.ref l) (E := E) (Q₁ := fun v s1 => v = .ref s.heap.objs.size ∧ s1 = withO s (setO b)) ⟨rfl, by rw [hb]; rfl⟩) fun r1 s1 hr1 => ?_
  match r1, hr1 with
  | .error _, z => exact z
  | .ok (.ret v1), z =>
    obtain ⟨rfl, rfl⟩ := z
    obtain ⟨hp0, hhp0⟩ : ∃ h, h = s.heap.push (setO b) := ⟨_, rfl⟩
    have at0 : hp0.get? s.heap.objs.size = some (setO b) := by rw [hhp0]; exact Heap.get?_push_size _ rfl
    have old0 : ∀ x o, s.heap.get? x = some o → hp0.get? x = some o := fun x o e => by rw [hhp0]; exact Heap.get?_push_of_some _ e
    have sz0 : hp0.objs.size = s.heap.objs.size + 1 := by rw [hhp0]; exact Heap.size_push ..
    have ew : withO s (setO b) = { s with heap := hp0 } := by rw [hhp0]; rfl
    rw [ew]
    have ty0 : Shared.TypeIs { s with heap := hp0 } (.ref s.heap.objs.size) "set" := ⟨_, at0, rfl⟩
    have j1 := PySem.F.called_set.init.lookup
    have j2 := PySem.F.called_set.init.bind (.ref s.heap.objs.size)
    iterate 20 (try (any_goals (first | assumption | wp_step)))
    refine codeAny_mono (codeAny_call_builtin (R := wants (fun v2 s2 => v2 = .none ∧ ∃ (h2 : Heap) (k2 c2 : Nat), s2 = { s with heap := h2, toks := k2 } ∧ SetR w h2 s.heap.objs.size (fun j => decide (j ∈ ns)) c2 ∧ c2 ≤ ns.length ∧ ∀ x o, s.heap.get? x = some o → h2.get? x = some o) E) PySem.F.called_set.init.plain PySem.F.entry_set_init (check_set_init_1 ty0 ?_)) fun r2 s2 hr2 => ?_
    · obtain ⟨ol, hol, cl0, n0, da0⟩ := isL
      obtain ⟨k1, k2, k3, k4⟩ := ol
      dsimp only at cl0 da0
      subst cl0 da0
      have lst0 : hp0.get? l = some { cls := .type "list", dict := k2, data := .seq xs n0, slots := k4 } := old0 _ _ hol
      have m1 := PySem.F.sub_list_set
      have m2 := PySem.F.sub_list_frozenset
      have m3 : ((Value.type "list") == (Value.type "dict")) = false := by decide
      have lst1 : hp0.IsList l xs := ⟨_, lst0, rfl, n0, rfl⟩
      unfold Builtin.«set.__init__» noKeywords Builtin.Frozenset.updateFrom
      generalize itE : pyIter = IT
      wp_walk
      subst itE
      refine wpAny_pyIter_list lst1 (wpAny_bind (wpAny_runValue ?_))
      have ltL : l < s.heap.objs.size := Heap.lt_size hol
      have nh : A.in1.in1.in1.handled = none := by simp [quiet]
      have neL : l ≠ hp0.objs.size := by rw [sz0]; exact Nat.ne_of_lt (Nat.lt_succ_of_lt ltL)
      have notIn : s.heap.objs.size ∉ [hp0.objs.size, l] := by
        rw [sz0]
        simp only [List.mem_cons, List.not_mem_nil, or_false, not_or]
        exact And.intro (Nat.ne_of_lt (Nat.lt_succ_self _)) (Nat.ne_of_gt ltL)
      have isV : ∀ (i : Nat) (v : Value), xs[i]? = some v → ∃ k t, ns[i]? = some k ∧ v = .int k t := fun i v hv => by
        have lt : i < ns.length := by rw [← sameN]; exact (Array.getElem?_eq_some_iff.mp hv).1
        obtain ⟨t, e⟩ := PyProof.Rows.IntsAre.int_at isI i v (by rw [Array.getElem?_toList]; exact hv)
        refine ⟨ns[i], t, List.getElem?_eq_getElem lt, ?_⟩
        rw [e, List.getD_eq_getElem?_getD, List.getElem?_eq_getElem lt]; rfl
      refine set_update_ints (Walks.list nh _ l neL xs).toS s.heap.objs.size notIn ns sameN few isV (xs.size - 0) 0 _ (by omega) (Nat.zero_le _) ⟨⟨_, Heap.get?_push_size _ rfl, rfl, rfl⟩, lst1.push _⟩ ⟨0, Nat.le_refl 0, setR_new_at ?_⟩ fun s3 c3 mv hc3 hS3 => ?_
      · rw [← hb]; exact Heap.get?_push_of_some _ at0
      · obtain ⟨h3, g3, d3, t3, o3⟩ := s3
        obtain rfl : g3 = s.gens := mv.gens
        obtain rfl : d3 = s.drawn := mv.drawn
        obtain rfl : o3 = s.os := mv.os
        rw [sameN] at hc3
        refine wpAny_pure (show wpAny _ _ (ret Value.none) _ _ _ from wpAny_pure ⟨rfl, h3, t3, c3, rfl, hS3, hc3, fun x o e => ?_⟩)
        have ltX : x < s.heap.objs.size := Heap.lt_size e
        refine mv.heap x o ?_ (Heap.get?_push_of_some _ (old0 _ _ e))
        rw [sz0]
        simp only [List.mem_cons, List.not_mem_nil, or_false, not_or]
        exact And.intro (Nat.ne_of_lt ltX) (Nat.ne_of_lt (Nat.lt_succ_of_lt ltX))
    · match r2, hr2 with
      | .error _, z => exact z
      | .ok (.ret v2), z =>
        obtain ⟨rfl, h2, k2, c2, rfl, z1, z2, z3⟩ := z
        iterate 20 (try (any_goals (first | assumption | wp_step)))
        exact fin _ _ _ z1 z2 z3
      | .ok .next, z => exact z.elim
      | .ok .brk, z => exact z.elim
      | .ok .cont, z => exact z.elim
  | .ok .next, z => exact z.elim
  | .ok .brk, z => exact z.elim
  | .ok .cont, z => exact z.elim
end
section
variable {X : Cx} {W : WX}
def kSortedSet (K : PySem.W.Frag) (t : KE) : KE := fun σ G M R E => t σ G M (fun x G M => match x with
  | .ref a => ∃ ns : List Int, LstAt K G M a (ns.map V.int) ∧ ns.length ≤ 60 ∧ ∀ (p : Addr) (ms : List Int), Fr G M p → ms.Pairwise (· < ·) → (∀ k, k ∈ ms ↔ k ∈ ns) → ms.length ≤ ns.length → R (.ref p) G ((p, .lst (ms.map V.int)) :: M)
  | _ => False) E
theorem je_sortedSet {a : Expr} {ta : KE} {p p2 q pos : Pos} (hm : X.mg "sorted" = none) (hm2 : X.mg "set" = none) (ha : JE X W a ta) (hc : X.calm = true := by rfl) (hg : Gl X "sorted" := by rfl) (hg2 : Gl X "set" := by rfl)
    (na : starEach [a] X.env = (false, eval a X.env) :: starEach [] X.env := by rfl) : JE X W (.Call (.Name "sorted" p) [.Call (.Name "set" p2) [a] [] q] [] pos) (kSortedSet X.K ta) := by
  refine ⟨fun pins s σ H Q I ⟨G, M, R, E, hv, h, hR, hE⟩ => ?_⟩
  refine Call_ (ld_blt I hg hm (show bootBuiltins "sorted" = some (.builtin "sorted") by decide +kernel) ?_)
  refine PyProof.Rows.callWith_builtin1 (PyProof.Rows.args_cons ?_ rfl) rfl rfl
  refine Call_ (ld_blt I hg2 hm2 PyProof.Rows.boot_set ?_)
  refine PyProof.Rows.callWith_type1 (PyProof.Rows.args_cons (thn (ha.run pins s σ H (fun x H1 => ∃ (l : Addr) (ns : List Int), x = V.ref l ∧ SqL X.K H1 l (ns.map V.int) ∧ ns.length ≤ 60 ∧ ∀ (p : Addr) (ms : List Int), H1 p = none → ms.Pairwise (· < ·) → (∀ k, k ∈ ms ↔ k ∈ ns) → ms.length ≤ ns.length → Q (.ref p) (upd H1 p (.lst (ms.map V.int)))) I ?_) fun v s1 ⟨x, H1, I1, r1, q1⟩ => PyProof.Rows.args_nil ?_) na) na rfl
  · refine ⟨G, M, _, E, hv, h, fun x G1 M1 H1 hv1 q => ?_, hE⟩
    match x, q with
    | .ref a, ⟨ns, q1, q2, q3⟩ => exact ⟨a, ns, rfl, hv1.lst q1, q2, fun p ms e0 e1 e2 e3 => hR _ G1 _ _ (hv1.newM e0) (q3 p ms (hv1.fr e0) e1 e2 e3)⟩
  obtain ⟨l, ns, rfl, hq, h1, q1⟩ := q1
  cases r1
  obtain ⟨its, r, pl, hz⟩ := I1.list hq
  refine set_of_ints ns (I1.ok.hd hc) pl.isList (by simpa using r.ints) (by unfold scanBound; omega) fun h' tk c hS hcl hk => ?_
  refine PyProof.Rows.args_nil ?_
  have I2 : Inv X pins σ H1 { s1 with heap := h', toks := tk } := I1.kept hk
  refine sorted_set hS (I1.ok.hd hc) (by omega) fun s' p out ep ms k1 g1 o1 hp hat hin hpw hmem hlen => ?_
  have hfr : H1 p = none := I2.hok.fresh hp
  have hlen2 : (ms.map V.int).length ≤ sizeLine := by rw [List.length_map]; exact sz (by omega)
  have hob : ObjOk X.prog X.w (upd H1 p (.lst (ms.map V.int))) s'.heap p (.lst (ms.map V.int)) := ⟨hlen2, out.toList, ep, vals_of_ints hin, by simpa [seqObj] using hat⟩
  have J := I2.call' (s' := s') (ch := []) o1 (Un.laid k1 hp hfr) (I2.hok.laid k1 hp hob) (by rw [g1]; exact I2.bare) (fun b z => absurd z (by simp))
  exact ⟨.ref p, _, J, rfl, q1 p ms hfr hpw (fun k => by rw [hmem k, decide_eq_true_iff]) (by rw [hlen]; exact hcl)⟩
end
end BT
set_option Elab.async false
set_option linter.all false
set_option maxRecDepth 100000
set_option maxHeartbeats 4000000
/-! texts: str(int), sep.join(list), text.split(sep), f-strings, x or y for texts -/
namespace BT
open PySem PySem.Spec L2
open PyProof.Rows hiding St
section
variable {X : Cx} {W : WX} {e o a b : Expr} {pos apos : Pos} {rest : List Expr}
def kStr : KC := fun vs G M R => match vs with
  | [.int i] => i.natAbs.log2 < 1920 ∧ R (.str (toString i)) G M
  | _ => False
theorem kc_str : KCall X (.type "str") kStr := kcall_of call_str_int fun vs G M R H Q hv h hR => by
  match vs, h with
  | [.int i], ⟨h1, h2⟩ => exact ⟨i, rfl, h1, hR _ G M H hv h2⟩
def kSM1 (r : KM) (to te : KE) : KE := fun σ G M R E => to σ G M (fun x G M => (∃ a, x = .str a) ∧ te σ G M (fun y G M => r x [y] G M R) E) E
def kJoin (K : PySem.W.Frag) : KM := fun x vs G M R => match x, vs with
  | .str a, [.ref p] => ∃ ys : List Str, SeqAt' K G M p (ys.map V.str) ∧ (ys.map (·.length)).sum + ys.length * a.length ≤ 16777216 ∧ R (.str (Txt.join a ys)) G M
  | _, _ => False
theorem je_join {to te : KE} (ho : JE X W o to) (he : JE X W e te) (hs : starEach [e] X.env = [(false, eval e X.env)] := by rfl) (hbase : attributeBase o "join" X.env (eval o X.env) = eval o X.env := by rfl) (hline : (apos.endLine == pos.line) = true := by rfl) :
    JE X W (.Call (.Attribute o "join" apos) [e] [] pos) (kSM1 (kJoin X.K) to te) :=
  pe_mono (pe_join ho he hs hbase hline) fun σ H Q ⟨G, M, R, E, hv, h, hR, hE⟩ => ⟨G, M, _, E, hv, h, fun x G1 M1 H1 hv1 ⟨hx, h1⟩ => ⟨hx, G1, M1, _, E, hv1, h1, fun y G2 M2 H2 hv2 h2 => by
    obtain ⟨a, rfl⟩ := hx
    cases y <;> first
      | exact h2.elim
      | (obtain ⟨ys, h3, h4, h5⟩ := h2
         exact ⟨a, _, ys, rfl, rfl, h3.elim (fun q => .inl (hv2.lst q)) (fun q => .inr (hv2.tup q)), h4, hR _ G2 M2 H2 hv2 h5⟩), hE⟩, hE⟩
def kSplit : KM := fun x vs G M R => match x, vs with
  | .str a, [.str b] => (b.length == 0) = false ∧ a.length + 2 ≤ sizeLine ∧ ∀ p, Fr G M p → R (.ref p) G ((p, .lst ((Txt.split a b).map V.str)) :: M)
  | _, _ => False
theorem je_split {to te : KE} (ho : JE X W o to) (he : JE X W e te) (hs : starEach [e] X.env = [(false, eval e X.env)] := by rfl) (hbase : attributeBase o "split" X.env (eval o X.env) = eval o X.env := by rfl) (hline : (apos.endLine == pos.line) = true := by rfl) :
    JE X W (.Call (.Attribute o "split" apos) [e] [] pos) (kSM1 kSplit to te) :=
  pe_mono (pe_m1 F.slot_str_split F.type_str_split mt_split ho he hs hbase hline) fun σ H Q ⟨G, M, R, E, hv, h, hR, hE⟩ => ⟨G, M, _, E, hv, h, fun x G1 M1 H1 hv1 ⟨hx, h1⟩ => ⟨hx, G1, M1, _, E, hv1, h1, fun y G2 M2 H2 hv2 h2 => by
    obtain ⟨a, rfl⟩ := hx
    cases y <;> first
      | exact h2.elim
      | (obtain ⟨h3, h4, h5⟩ := h2
         exact ⟨a, _, rfl, rfl, h3, h4, fun p hp => hR _ G2 _ _ (hv2.newM hp) (h5 p (hv2.fr hp))⟩), hE⟩, hE⟩
def kFmt (te : KE) : KE := fun σ G M R E => te σ G M (fun x G M => match x with
  | .str y => y.length ≤ sizeLine ∧ R (.str y) G M
  | .int i => i.natAbs.log2 < 1920 ∧ R (.str (toString i)) G M
  | _ => False) E
theorem je_fmt {te : KE} (he : JE X W e te) : JE X W (.FormattedValue e (-1) none pos) (kFmt te) :=
  pe_mono (pe_fmt he) fun σ H Q ⟨G, M, R, E, hv, h, hR, hE⟩ => ⟨G, M, _, E, hv, h, fun x G1 M1 H1 hv1 h1 => by
    cases x <;> first
      | exact h1.elim
      | exact .inl ⟨_, rfl, h1.1, hR _ G1 M1 H1 hv1 h1.2⟩
      | exact .inr ⟨_, rfl, h1.1, hR _ G1 M1 H1 hv1 h1.2⟩, hE⟩
/-- the parts of an f-string -/
def kJs : List KE → Str → St → Hp → Mem → (Str → Hp → Mem → Prop) → KX → Prop
  | [], acc, _, G, M, R, _ => R acc G M
  | t :: ts, acc, σ, G, M, R, E => t σ G M (fun x G M => match x with
    | .str y => (acc ++ y).length ≤ sizeLine ∧ kJs ts (acc ++ y) σ G M R E
    | _ => False) E
def kJoined (ts : List KE) : KE := fun σ G M R E => kJs ts Str.empty σ G M (fun s G M => R (.str s) G M) E
inductive JJ (X : Cx) (W : WX) : List Expr → List KE → Prop where
  | nil : JJ X W [] []
  | cons {e : Expr} {t : KE} {es : List Expr} {ts : List KE} (h : JE X W e t) (r : JJ X W es ts) : JJ X W (e :: es) (t :: ts)
theorem jj_pj {es : List Expr} {ts : List KE} (h : JJ X W es ts) : PJ X es (ts.map (upG W)) := by
  induction h with
  | nil => exact .nil
  | cons h _ ih => exact .cons h ih
theorem js_sim {σ : St} {Q : VK} {R : KR} {E : KX} (hR : ∀ v G M H, Hv G M H → R v G M → Q v H) (hE : ∀ c a G M H, Hv G M H → E c a G M → W c a σ H) : ∀ (ts : List KE) (acc : Str) (G : Hp) (M : Mem) (H : Hp), Hv G M H → kJs ts acc σ G M (fun s G M => R (.str s) G M) E → tJs (ts.map (upG W)) acc σ H (fun out H1 => Q (.str out) H1)
  | [], acc, G, M, H, hv, h => hR _ G M H hv h
  | t :: ts, acc, G, M, H, hv, h => ⟨G, M, _, E, hv, h, fun x G1 M1 H1 hv1 h1 => by
      cases x <;> first
        | exact h1.elim
        | exact ⟨_, rfl, h1.1, js_sim hR hE ts _ G1 M1 H1 hv1 h1.2⟩, hE⟩
theorem je_joined {v1 v2 : Expr} {ts : List KE} (h : JJ X W (v1 :: v2 :: rest) ts) : JE X W (.JoinedStr (v1 :: v2 :: rest) pos) (kJoined ts) :=
  pe_mono (pe_joined (jj_pj h)) fun σ H Q ⟨G, M, R, E, hv, h, hR, hE⟩ => js_sim hR hE ts Str.empty G M H hv h
/-- a text, or else another value -/
def kOrT (t u : KE) : KE := fun σ G M R E => t σ G M (fun x G M => match x with
  | .str y => y.length ≤ sizeLine ∧ if ((y.length : Int) != 0) = true then R x G M else u σ G M R E
  | _ => False) E
theorem je_orT {t u : KE} (ha : JE X W a t) (hb : JE X W (.BoolOp .Or (b :: rest) pos) u) : JE X W (.BoolOp .Or (a :: b :: rest) pos) (kOrT t u) :=
  pe_mono (pe_orT ha hb) fun σ H Q ⟨G, M, R, E, hv, h, hR, hE⟩ => ⟨G, M, _, E, hv, h, fun x G1 M1 H1 hv1 h1 => by
    cases x <;> first
      | exact h1.elim
      | (obtain ⟨h2, h3⟩ := h1
         refine ⟨_, ⟨h2, rfl⟩, ?_⟩
         split
         · rename_i e; rw [if_pos e] at h3; exact hR _ G1 M1 H1 hv1 h3
         · rename_i e; rw [if_neg e] at h3; exact ⟨G1, M1, R, E, hv1, h3, hR, hE⟩), hE⟩
end
end BT
set_option Elab.async false
set_option linter.all false
set_option maxRecDepth 100000
set_option maxHeartbeats 4000000
/-! texts that are walked, measured, cut, read as numbers; a thing in a list of data -/
namespace BT
open PySem PySem.Spec L2
open PyProof.Rows hiding St
section
variable {X : Cx} {W : WX} {e tg : Expr} {pos p2 : Pos}
def kLenS : KC := fun vs G M R => match vs with
  | [.str z] => z.length ≤ sizeLine ∧ R (.int z.length) G M
  | _ => False
theorem kc_lenS : KCall X (.builtin "len") kLenS := kcall_of call_len fun vs G M R H Q hv h hR => by
  match vs, h with
  | [.str z], ⟨h1, h2⟩ => exact ⟨_, _, rfl, ⟨h1, rfl⟩, hR _ G M H hv h2⟩
/-- int(text) -/
def kIntS : KC := fun vs G M R => match vs with
  | [.str a] => ∃ n, PySem.intText? a = some n ∧ a.length ≤ 640 ∧ R (.int n) G M
  | _ => False
theorem kc_intS : KCall X (.type "int") kIntS := kcall_of call_int_str fun vs G M R H Q hv h hR => by
  match vs, h with
  | [.str a], ⟨n, h1, h2, h3⟩ => exact ⟨a, n, rfl, h1, h2, hR _ G M H hv h3⟩
/-- a text, sign by sign -/
def srcS (x : Str) : Src := ⟨x.cps.size, fun i => .inl (.str ⟨#[x.cps.toList.getD i 0]⟩), fun _ _ => True⟩
theorem goes_S {x : Str} : Goes (srcS x) (Its x) where
  go := fun i G M H hv ok hi => hi
  stop := fun i G M H hv ok hi => hi
  yld := fun i G M H y H' hv ok hi q => by
    obtain ⟨e1, c, e2, e3⟩ := q
    refine ⟨?_, e1⟩
    rw [e3]
    have e4 : x.cps.toList.getD i 0 = c := by rw [List.getD_eq_getElem?_getD, Array.getElem?_toList, e2]; rfl
    rw [e4]
def kiStr (t : KE) : KI := fun σ G M R E => t σ G M (fun x G M => match x with
  | .str z => R (srcS z) G M
  | _ => False) E
theorem ji_str {t : KE} (h : JE X W e t) : JI X W tg e (kiStr t) := pi_mono (pi_str h) fun σ H Q ⟨G, M, R, E, hv, h, hR, hE⟩ => ⟨G, M, _, E, hv, h, fun x G1 M1 H1 hv1 q => by
    cases x <;> first
      | exact q.elim
      | exact ⟨_, rfl, hR _ G1 M1 H1 hv1 q _ goes_S⟩, hE⟩
/-- one sign in a text -/
def kInS (neg : Bool) : KR2 := fun x y G M R => match x, y with
  | .str s, .str z => ∃ c : Nat, s = ⟨#[c]⟩ ∧ R (.bl (if neg then !decide (c ∈ z.cps.toList) else decide (c ∈ z.cps.toList))) G M
  | _, _ => False
theorem kop_inS : KOp X (compareOp .In) (kInS false) := kop_of op_in_sign fun x y G M R H Q hv h hR => by
  cases x <;> cases y <;> first
    | exact h.elim
    | (obtain ⟨c, h1, h2⟩ := h
       subst h1
       exact ⟨c, _, rfl, rfl, hR _ G M H hv h2⟩)
theorem kop_notinS : KOp X (compareOp .NotIn) (kInS true) := kop_of op_notIn_sign fun x y G M R H Q hv h hR => by
  cases x <;> cases y <;> first
    | exact h.elim
    | (obtain ⟨c, h1, h2⟩ := h
       subst h1
       exact ⟨c, _, rfl, rfl, hR _ G M H hv h2⟩)
/-- a cut of a text -/
def kSlS (t : KE) (tl th : KO) : KE := fun σ G M R E => t σ G M (fun x G M => tl σ G M (fun l G M => th σ G M (fun u G M => match x with
  | .str z => z.length ≤ sizeLine ∧ R (.str (cutS z l u)) G M
  | _ => False) E) E) E
theorem je_sliceS {t : KE} {lo hi : Option Expr} {tl th : KO} (he : JE X W e t) (hl : JO X W lo tl) (hu : JO X W hi th) : JE X W (.Subscript e (.Slice lo hi none p2) pos) (kSlS t tl th) :=
  pe_mono (pe_slice sl_str he hl hu) fun σ H Q ⟨G, M, R, E, hv, h, hR, hE⟩ => ⟨G, M, _, E, hv, h, fun x G1 M1 H1 hv1 h1 => ⟨G1, M1, _, E, hv1, h1, fun l G2 M2 H2 hv2 h2 => ⟨G2, M2, _, E, hv2, h2, fun u G3 M3 H3 hv3 h3 => by
    cases x <;> first
      | (obtain ⟨q1, q2⟩ := h3
         exact ⟨_, rfl, q1, hR _ G3 M3 H3 hv3 q2⟩)
      | exact h3.elim, hE⟩, hE⟩, hE⟩
/-- a thing in a list of data -/
def kInD (neg : Bool) (K : PySem.W.Frag) : KR2 := fun x y G M R => ∃ (d : PyData) (ds : List PyData), DatAt K G M x d ∧ DatAt K G M y (.list ds) ∧ SeqAt.shaped d = true ∧ SeqAt.shaped (.list ds) = true ∧ R (.bl (if neg then !(ds.any fun z => PyData.eqv z d) else ds.any fun z => PyData.eqv z d)) G M
theorem kop_inD (hu : X.A.units + 65 < cLine) : KOp X (compareOp .In) (kInD false X.K) := kop_of (op_inD hu) fun x y G M R H Q hv ⟨d, ds, h1, h2, h3, h4, h5⟩ hR => ⟨d, ds, hv.dat h1, hv.dat h2, h3, h4, hR _ G M H hv h5⟩
theorem kop_notinD (hu : X.A.units + 65 < cLine) : KOp X (compareOp .NotIn) (kInD true X.K) := kop_of (op_notInD hu) fun x y G M R H Q hv ⟨d, ds, h1, h2, h3, h4, h5⟩ hR => ⟨d, ds, hv.dat h1, hv.dat h2, h3, h4, hR _ G M H hv h5⟩
theorem units65 {k : Nat} {A : Around} (r : Room k A) : A.units + 65 < cLine := by have := r.un; omega
end
theorem asg_S {z : Str} {i c : Nat} {g : KG} {σ : St} {G : Hp} {M : Mem} {R : St → Hp → Mem → Prop} (h : z.cps.toList[i]? = some c) (q : g.val (.str ⟨#[c]⟩) σ G M R) : asg g ((srcS z).get i) σ G M R := by
  show g.val (.str ⟨#[z.cps.toList.getD i 0]⟩) σ G M R
  rw [List.getD_eq_getElem?_getD, h]; exact q
end BT
set_option Elab.async false
set_option linter.all false
set_option maxRecDepth 100000
set_option maxHeartbeats 4000000
/-! KL32: errors with a place: class C(B): def __init__(self, at): B.__init__(self, 'text'); self.at = at -/
namespace BT
open PySem PySem.Spec L2
open PyProof.Rows hiding St
/-- what is known of the class -/
structure XI (K : PySem.W.Frag) (x : Str) : Prop where
  T : OexC K (cl K x)
  no : PySem.W.findIn K (.ref (cl K x)) "at" = some none
  f : XfC K (cl K x)
/-- what is known of the class above it -/
structure XB (K : PySem.W.Frag) (mg : Str → Option Value) (x : Str) : Prop where
  g : mg x = some (.ref (cl K x))
  rd : PySem.W.readsIn K (cl K x) (.type "type") = true
  ga : PySem.W.specialIn K (.ref (cl K x)) "__getattribute__" = some (some (.builtin "type.__getattribute__"))
  fi : PySem.W.findCls K (.ref (cl K x)) (.type "type") "__init__" = some (.val (.builtin "ValueError.__init__"))
/-- the promise of its __init__ -/
def S_xat (x : Str) (K : PySem.W.Frag) : KSp := sp2 fun u v G M R _ => ∃ (a : Addr) (F : Mem), u = .ref a ∧ M = (a, exo a (cl K x) none) :: F ∧ ∀ dx, Fr G M dx → R .non G ((dx, exd dx [("at", v)]) :: (a, exo a (cl K x) (some dx)) :: F)
/-- its __init__, to be called -/
structure IDef (P : Program) (w : World) (K : PySem.W.Frag) (mg : Str → Option Value) (base : Heap) (lev : Nat) (x : Str) : Prop where
  ex : ∃ f fd ps, FnOk P w K mg base (L2.CX P w) lev f fd ps (lift (S_xat x K)) ∧ PySem.W.findIn K (.ref (cl K x)) "__init__" = some (some (.ref f)) ∧ PySem.W.typeIn K (.ref f) = some (.type "function") ∧ Binds K fd ps []
/-- B.__init__(self, ..) -/
def kVeI (C : Addr) (t : KA) : KE := fun σ G M R E => t σ G M (fun vs G M => ∃ (a : Addr) (ws : List V), vs = .ref a :: ws ∧ ws.length ≤ 1000 ∧ At G M a (exo a C none) ∧ R .non G M) E
/-- self.at = e, the first one -/
def kSetAt (C : Addr) (u t : KE) : KS := fun D σ G M => t σ G M (fun v G M => u σ G M (fun x G M => ∃ (a : Addr) (n : Nat), x = .ref a ∧ M[n]? = some (a, exo a C none) ∧ ∀ dx, Fr G M dx → D.nx σ G ((dx, exd dx [("at", v)]) :: M.set n (a, exo a C (some dx)))) (D.x σ)) (D.x σ)
/-- raise C(e) -/
def kRaiseX (K : PySem.W.Frag) (x : Str) (t : KA) : KS := fun D σ G M => t σ G M (fun vs G M => ∃ v, vs = [v] ∧ ∀ d, Fr G M d → D.xc (.ref (cl K x)) (some d) σ (upd G d (.xd [("at", v)])) M) (D.x σ)
/-- e.at, e an error that is held -/
def kXAt (K : PySem.W.Frag) (xs : List Str) (t : KE) : KE := fun σ G M R E => t σ G M (fun u G M => ∃ x ∈ xs, ∃ (a dd : Addr) (v : V), u = .ref a ∧ At G M a (ErA K x (some dd) a) ∧ At G M dd (.xd [("at", v)]) ∧ R v G M) E
/-- isinstance(v, C), where v is an error that is held (with a place or without), or None -/
def kIsXd (K : PySem.W.Frag) (c : V) (tab : List (Str × Bool)) : KC := fun vs G M R => match vs with
  | [.non, c'] => c' = c ∧ R (.bl false) G M
  | [.ref a, c'] => c' = c ∧ ∃ p ∈ tab, ∃ d : Option Addr, At G M a (ErA K p.1 d a) ∧ (d = none ∨ ∃ dd fs, d = some dd ∧ At G M dd (.xd fs)) ∧ R (.bl p.2) G M
  | _ => False
section
variable {X : Cx} {W : WX} {pos p apos p' : Pos} {x y : Str} {e o : Expr} {es : List Expr}
theorem je_veI {pl : Sem Bool} {t : KA} (T : OexC X.K (cl X.K y)) (B : XB X.K X.mg x) (ha : JA X W (e :: es) t) (hg : Gl X x := by rfl)
    (hdb : (x == ("__debug__" : Str)) = false := by decide) (hst : starEach (e :: es) X.env = (false, eval e X.env) :: starEach es X.env := by rfl) (hpl : (backTo pos (starEach es X.env)).any (·.1) = false := by rfl)
    (ht : eval (.Call (.Attribute (.Name x p) "__init__" apos) (e :: es) [] pos) X.env = (do
      let ov ← eval (.Name x p) X.env
      standAt apos.atName
      let (f, first) ← holding [ov] (getMethod ov "__init__" pl)
      callWith pos f first (backTo pos (starEach (e :: es) X.env)) (backToKw pos (keywordEach [] X.env))) := by rfl) :
    JE X W (.Call (.Attribute (.Name x p) "__init__" apos) (e :: es) [] pos) (kVeI (cl X.K y) t) := by
  refine ⟨fun pins s σ H Q I ⟨G, M, R, E, hv, h, hR, hE⟩ => ?_⟩
  refine PySem.W.methodCall_KW (pl := pl) (ld_glob I hg B.g ?_ hdb) ht
  refine PySem.W.method_cls I.kIn B.ga (PySem.W.cls_value I.kIn B.rd B.fi rfl ?_)
  show wpAny _ _ (callWith pos (Value.builtin "ValueError.__init__") [] (backTo pos (starEach (e :: es) X.env)) []) _ _ _
  refine PyProof.Rows.callWith_method1 (thn (ha.run pos pins _ σ H (fun vs H1 => ∃ (a : Addr) (ws : List V) (G1 : Hp) (M1 : Mem), vs = .ref a :: ws ∧ ws.length ≤ 1000 ∧ H1 a = some (exo a (cl X.K y) none) ∧ Hv G1 M1 H1 ∧ R .non G1 M1) (I.tok _) ?_) fun us s1 ⟨vs, H1, I1, r1, a, ws, G1, M1, ev, hl, ea, hv1, q⟩ => ?_) hst hpl
  · exact ⟨G, M, _, E, hv, h, fun vs G1 M1 H1 hv1 ⟨a, ws, e1, hl, ha, q⟩ => ⟨a, ws, G1, M1, e1, hl, hv1.at ha, hv1, q⟩, hE⟩
  · subst ev
    cases r1 with
    | @cons _ u0 _ ur ra rw' =>
      obtain rfl : u0 = Value.ref a := ra
      have hlen : ur.length ≤ sizeLine := by
        rw [← Paired.length rw', sizeLine_eq]
        omega
      exact oinit_ok T I1 ea hlen fun s' J => ⟨.non, H1, J, rfl, hR _ _ _ _ hv1 q⟩
theorem js_setAt {u t : KE} (T : XI X.K y) (ho : JE X W o u) (he : JE X W e t) (hs : swapsWith e (some (.Attribute o "at" p')) pos.line X.env = pure false := by rfl) : JS X W (.Assign [.Attribute o "at" p'] e pos) (kSetAt (cl X.K y) u t) :=
  ps_mono (ps_ost ho he hs) fun D σ H ⟨G, M, d, hv, h, en⟩ => by
    refine ⟨G, M, _, _, hv, h, fun v G1 M1 H1 hv1 q1 => ⟨G1, M1, _, _, hv1, q1, fun x' G2 M2 H2 hv2 ⟨a, n, ex, hn, q2⟩ => ?_, fun c a G' M' H' hv' q => en.xc c a σ G' M' H' hv' q⟩, fun c a G' M' H' hv' q => en.xc c a σ G' M' H' hv' q⟩
    refine ⟨a, cl X.K y, ex, T.T, T.no, .inl ⟨hv2.get hn, fun dx n1 n2 => ?_⟩⟩
    refine en.nx σ _ _ _ ?_ (q2 dx (hv2.fr n1))
    exact (hv2.newM (o := exd dx [("at", v)]) n1).set (n := n + 1) (by rw [List.getElem?_cons_succ]; exact hn)
theorem js_raiseX {k lev : Nat} {t : KA} {pos2 : Pos} (g : XG X.K X.mg x) (T : XI X.K x) (D : IDef X.prog X.w X.K X.mg X.base lev x) (hr : Room k X.A) (tk : Takes X W) (ha : JA X W [e] t) (hl : lev + 1 ≤ k := by decide) (hc : X.calm = true := by rfl) (hg : Gl X x := by rfl)
    (hdb : (x == ("__debug__" : Str)) = false := by decide) (he : starEach [e] X.env = (false, eval e X.env) :: starEach [] X.env := by rfl) (hpl : (backTo pos2 (starEach [] X.env)).any (·.1) = false := by rfl) :
    JS X W (.Raise (some (.Call (.Name x p) [e] [] pos2)) none pos) (kRaiseX X.K x t) := by
  obtain ⟨f, fd, ps, F, hf, hty, hb⟩ := D.ex
  refine ps_mono (ps_raise hc tk (pmk_oex (CX := L2.CX X.prog X.w) (dvs := []) (ds := []) T.T hf hty F (hr.mono hl) hb .nil (fun _ _ _ _ _ _ _ z => (cx_none z).elim) hg g.g ha hdb he hpl)) fun D σ H ⟨G, M, d, hv, h, en⟩ => ?_
  refine ⟨G, M, _, _, hv, h, fun vs G1 M1 H1 hv1 ⟨v, ev, q⟩ => ?_, fun c a G' M' H' hv' q => en.xc c a σ G' M' H' hv' q⟩
  subst ev
  refine ⟨by simp, fun a na => ?_⟩
  refine ⟨H1, [(a, exo a (cl X.K x) none)], fun v' G' M' => v' = .non ∧ ∃ dx, Fr H1 [(a, exo a (cl X.K x) none)] dx ∧ G' = H1 ∧ M' = [(dx, exd dx [("at", v)]), (a, exo a (cl X.K x) (some dx))], fun _ _ _ _ => False, (Hv.self H1).newM na, ⟨a, [], rfl, rfl, fun dx fd => ⟨rfl, dx, fd, rfl, rfl⟩⟩, fun v' G' M' H2 hv2 ⟨e1, dx, fd, eG, eM⟩ => ?_, fun _ _ _ _ _ _ z => z⟩
  subst e1
  subst eG
  subst eM
  have hda : dx ≠ a := fun z => fd.2 _ List.mem_cons_self z.symm
  refine ⟨rfl, dx, [("at", v)], hv2.mu (a, exo a (cl X.K x) (some dx)) (by simp), hv2.mu (dx, exd dx [("at", v)]) (by simp), fd.1, ?_⟩
  have keep : ∀ b o, G' b = some o → (upd (del H2 a) dx (.xd [("at", v)])) b = some o := fun b o z => by
    rw [upd_ne (ne_of_none z fd.1), del_ne (ne_of_none z na)]
    exact hv2.ex b o z
  refine en.xc (.ref (cl X.K x)) (some dx) σ _ _ _ ⟨fun b o z => ?_, fun y hy => keep _ _ (hv1.mu y hy), hv1.nd, fun y hy => ?_⟩ (q dx (hv1.fr fd.1))
  · by_cases hb : b = dx
    · subst hb; rw [upd_same] at z ⊢; exact z
    · rw [upd_ne hb] at z
      exact keep b o (hv1.ex b o z)
  · rw [upd_ne (ne_of_none (hv1.mu y hy) fd.1)]
    exact hv1.dj y hy
theorem je_xat {xs : List Str} {t : KE} (hx : ∀ x ∈ xs, XI X.K x) (he : JE X W e t) (hb : attributeBase e "at" X.env (eval e X.env) = eval e X.env := by rfl) : JE X W (.Attribute e "at" pos) (kXAt X.K xs t) := by
  refine ⟨fun pins s σ H Q I ⟨G, M, R, E, hv, h, hR, hE⟩ => ?_⟩
  refine attr_of hb (thn (he.run pins s σ H (fun u H1 => ∃ x ∈ xs, ∃ (G1 : Hp) (M1 : Mem) (a dd : Addr) (v : V), u = .ref a ∧ Hv G1 M1 H1 ∧ At G1 M1 a (ErA X.K x (some dd) a) ∧ At G1 M1 dd (.xd [("at", v)]) ∧ R v G1 M1) I ?_) fun u s1 hh => ?_)
  · exact ⟨G, M, _, E, hv, h, fun u G1 M1 H1 hv1 ⟨x, hm, a, dd, v, h1, h2, h3, h4⟩ => ⟨x, hm, G1, M1, a, dd, v, h1, hv1, h2, h3, h4⟩, hE⟩
  obtain ⟨u', H1, I1, rx, x, hm, G1, M1, a, dd, v, ex, hv1, h2, h3, q⟩ := hh
  subst ex
  obtain rfl : u = Value.ref a := rx
  have T := hx x hm
  obtain ⟨⟨oe, vs, hget, hz, hd⟩, _, _⟩ := I1.hok a _ (hv1.at h2)
  have hxd : ObjOk X.prog X.w H1 s1.heap dd (.xd [("at", v)]) := I1.hok dd _ (hv1.at h3)
  obtain ⟨mA, hns, hr⟩ := hxd
  obtain ⟨od, ho, hl⟩ := lookIn_ns hns
  obtain ⟨u, hu, ru⟩ := RelO.some_of (v := v) (o := mA "at") (hr "at")
  have J : PySem.W.InstAt s1.heap a oe (cl X.K x) (some od) := ⟨hget, hz.1, by unfold PySem.W.notCls; rw [hd] <;> rfl, by rw [hz.2]; exact ho⟩
  exact HandSPX.exc_get I1.kIn J T.f.ga T.f.gg T.f.exC (PySem.W.findObj_own T.f.hdC T.no rfl (by rw [hl, hu])) (handed_of ru) ⟨v, H1, I1.tok _, ru, hR _ _ _ _ hv1 q⟩
theorem kc_isXd {tab : List (Str × Bool)} {c : V} {cv : Value} (hcv : ClsV c cv) (hn : PySem.W.kitOne X.K (.type "NoneType") cv = some false)
    (ht : ∀ p ∈ tab, ExcC X.K (cl X.K p.1) ∧ PySem.W.kitOne X.K (.ref (cl X.K p.1)) cv = some p.2) : KCall X (.builtin "isinstance") (kIsXd X.K c tab) := by
  intro pins s σ H xs us Q I r h
  obtain ⟨G, M, R, hv, h, hR⟩ := h
  match xs, h with
  | [.non, c'], h2 =>
    obtain ⟨rfl, h3⟩ := h2
    exact (call_isi (X := X)) pins s σ H [.non, c'] _ Q I r ⟨_, _, .type "NoneType", _, false, rfl, hcv, .base .non, hn, hR _ _ _ _ hv h3⟩
  | [.ref a, c'], h2 =>
    obtain ⟨rfl, p, hp, d, ha, hd2, h3⟩ := h2
    cases r with
    | cons rx rr =>
      cases rr with
      | cons rt rr =>
        cases rr
        have ec := hcv.eq rt
        subst ec
        cases rx
        obtain ⟨C, e⟩ := ht p hp
        obtain ⟨⟨oe, vs, hget, hz, hd⟩, _, _⟩ := I.hok a _ (hv.at ha)
        have hcl : (PySem.W.clsIn X.K (cl X.K p.1)).isSome = true := by
          obtain ⟨cd, hc, _⟩ := PySem.W.any_some C.hd
          rw [hc]; rfl
        have J : ∃ od, PySem.W.InstAt s.heap a oe (cl X.K p.1) od := by
          rcases hd2 with rfl | ⟨dd, fs, rfl, hxd⟩
          · exact ⟨none, hget, hz.1, by unfold PySem.W.notCls; rw [hd] <;> rfl, by rw [hz.2]; trivial⟩
          · have hx : ObjOk X.prog X.w H s.heap dd (.xd fs) := I.hok dd _ (hv.at hxd)
            obtain ⟨mA, hns, hr⟩ := hx
            obtain ⟨od, ho, hl⟩ := lookIn_ns hns
            exact ⟨some od, hget, hz.1, by unfold PySem.W.notCls; rw [hd] <;> rfl, by rw [hz.2]; exact ho⟩
        obtain ⟨od, J⟩ := J
        exact PySem.W.kia_one (PySem.W.kitx_exc hcl C.hg C.hk C.hs C.ha C.hn C.ht C.hm) I.kIn J e (fun z => nomatch z) fun tk => ⟨.bl p.2, H, I.kept (t' := tk) fun _ _ z => z, rfl, hR _ _ _ _ hv h3⟩
end
section
variable {P : Program} {w : World} {K : PySem.W.Frag} {mg : Str → Option Value} {base : Heap} {lev : Nat} {x : Str} {C f : Addr} {fd : FuncData} {ps : List Str}
theorem xb_mk (a : PySem.W.nsIn K mainGlobals x = some (some (.ref C))) (g : mg x = some (.ref C)) (h1 : PySem.W.readsIn K C (.type "type") = true) (h2 : PySem.W.specialIn K (.ref C) "__getattribute__" = some (some (.builtin "type.__getattribute__")))
    (h3 : PySem.W.findCls K (.ref C) (.type "type") "__init__" = some (.val (.builtin "ValueError.__init__"))) : XB K mg x := by
  have e := cl_of a
  exact ⟨by rw [e]; exact g, by rw [e]; exact h1, by rw [e]; exact h2, by rw [e]; exact h3⟩
theorem xi_mk {nm q : Str} {N : Addr} {bs bm : List Value} {sn : List Str} {sub : List Value} {ab : Bool} {col : Option Bool} {dd : Option Addr} {k0 k1 k2 k3 k5 : Option Value} (a : PySem.W.nsIn K mainGlobals x = some (some (.ref C)))
    (l : K.lookup C = some (excClassObj nm q C N bs bm true sn sub ab col dd k0 k1 k2 k3 k5 "ValueError.__new__")) (r : PySem.HandSPX.refsVE bm = true) (sa : PySem.W.findIn K (.ref C) "__setattr__" = some (some (.builtin "object.__setattr__")))
    (b : PySem.W.subIn K (.ref C) (.type "BaseException") = some true) (t : PySem.W.typeIn K (.ref C) = some (.type "type")) (k : PySem.W.keepIn K (.ref C) = true) (no : PySem.W.findIn K (.ref C) "at" = some none)
    (ga : PySem.W.findIn K (.ref C) "__getattribute__" = some (some (.builtin "BaseException.__getattribute__"))) (gg : PySem.W.findIn K (.ref C) "__getattr__" = some none) (hd : PySem.W.hasDictIn K C = true) : XI K x := by
  have e := cl_of a
  exact ⟨by rw [e]; exact ⟨⟨_, _, _, _, _, _, _, _, _, _, _, _, _, _, _, l, r⟩, sa, b, t, k⟩, by rw [e]; exact no, by rw [e]; exact ⟨ga, gg, b, hd⟩⟩
theorem id_mk (a : PySem.W.nsIn K mainGlobals x = some (some (.ref C))) (F : FnOk P w K mg base (L2.CX P w) lev f fd ps (lift (S_xat x K))) (h1 : PySem.W.findIn K (.ref C) "__init__" = some (some (.ref f))) (h2 : PySem.W.typeIn K (.ref f) = some (.type "function")) (b : Binds K fd ps []) : IDef P w K mg base lev x := by
  have e := cl_of a
  exact ⟨f, fd, ps, F, by rw [e]; exact h1, h2, b⟩
end
end BT
set_option Elab.async false
set_option linter.all false
set_option maxRecDepth 100000
set_option maxHeartbeats 4000000
/-! KL33: errors that are made and held, not raised -/
namespace BT
open PySem PySem.Spec L2
open PyProof.Rows hiding St
section
variable {X : Cx} {W : WX} {pos p : Pos} {x : Str} {e : Expr}
/-- what makes an exception, as an expression: the exception is tracked -/
theorem pe_made {t : St → Hp → XK → Prop} (h : PMk X e t) (hf : X.env.frame = some X.env.locals := by rfl) (hx : X.ex = [] := by rfl) (hst : ∃ l, X.stack = X.env :: l := by exact ⟨_, rfl⟩) :
    PE X e (fun σ H Q => t σ H fun cls d H' => ∀ a, H' a = none → Q (.ref a) (upd H' a (ExT cls d a))) := by
  obtain ⟨fl, hs⟩ := hst
  refine ⟨fun pins s σ H Q I q => thn (h pins s σ H _ I q) fun u s' hh => ?_⟩
  obtain ⟨a, oe, vs, sI, H', cls, d, rfl, J, k, hne, ha, hz, hd, h1, na, os, ag, r, q⟩ := hh
  have J3 : Inv X pins σ H' s' := J.landed (B := s'.heap) (fun b o e _ => k b o e) (fun _ _ z => z) (Heap.UpToSlots.of_keeps k) os ag
  have n0 : X.s_0.heap.get? a = none := by
    cases e : X.s_0.heap.get? a with
    | none => rfl
    | some o =>
      obtain ⟨o', z⟩ := J.base.there a o e (by rw [hx]; exact fun z => nomatch z)
      rw [hne] at z
      cases z
  have nc : ∀ w c, X.env.cells.lookup w = some c → c ≠ a := fun w c e z => by
    obtain ⟨v, o, ho, _⟩ := J.cell w c e
    rw [z, hne] at ho
    cases ho
  have npn : ∀ p ∈ X.pn ++ pins, p.1 ≠ a := fun p hp z => by
    obtain ⟨q, _⟩ := J.pin p hp
    rw [z, hne] at q
    cases q
  have nL : a ≠ X.env.locals := fun z => by
    have hm : X.env.locals ∈ frs X.stack := List.mem_filterMap.mpr ⟨X.env, by rw [hs]; exact List.mem_cons_self, hf⟩
    obtain ⟨_, o', e', _⟩ := J.stack.mem hm
    rw [← z, hne] at e'
    cases e'
  exact ⟨.ref a, _, inv_track J3 na n0 nL nc npn (exT_ok ha hz hd), rfl, q a na⟩
/-- C(e), C without an __init__ of its own -/
def kMkE (K : PySem.W.Frag) (x : Str) (t : KA) : KE := fun σ G M R E => t σ G M (fun vs G M => vs.length ≤ 1000 ∧ ∀ a, Fr G M a → R (.ref a) (upd G a (ErA K x none a)) M) E
/-- C(e), C with a place -/
def kMkX (K : PySem.W.Frag) (x : Str) (t : KA) : KE := fun σ G M R E => t σ G M (fun vs G M => ∃ v, vs = [v] ∧ ∀ d a, Fr G M d → Fr (upd G d (.xd [("at", v)])) M a → R (.ref a) (upd (upd G d (.xd [("at", v)])) a (ErA K x (some d) a)) M) E
theorem je_mkE {t : KA} (g : XG X.K X.mg x) (r : XR X.K x) (ha : JA X W [e] t) (hg : Gl X x := by rfl) (hdb : (x == ("__debug__" : Str)) = false := by decide)
    (he : starEach [e] X.env = (false, eval e X.env) :: starEach [] X.env := by rfl) (hpl : (backTo pos (starEach [] X.env)).any (·.1) = false := by rfl) (hf : X.env.frame = some X.env.locals := by rfl) (hx : X.ex = [] := by rfl) (hst : ∃ l, X.stack = X.env :: l := by exact ⟨_, rfl⟩) :
    JE X W (.Call (.Name x p) [e] [] pos) (kMkE X.K x t) :=
  pe_mono (pe_made (pmk_ownA PySem.F.excBase_ValueError r.n g.g g.k (raises_own r.b r.t) hg ha hdb he hpl) hf hx hst) fun σ H Q ⟨G, M, R, E, hv, h, hR, hE⟩ =>
    ⟨G, M, _, E, hv, h, fun vs G1 M1 H1 hv1 ⟨hl, q⟩ => ⟨Nat.le_trans hl (by decide), fun a na => hR _ _ _ _ (hv1.newG na) (q a (hv1.fr na))⟩, hE⟩
theorem je_mkX {k lev : Nat} {t : KA} (g : XG X.K X.mg x) (T : XI X.K x) (D : IDef X.prog X.w X.K X.mg X.base lev x) (hr : Room k X.A) (ha : JA X W [e] t) (hl : lev + 1 ≤ k := by decide) (hg : Gl X x := by rfl) (hdb : (x == ("__debug__" : Str)) = false := by decide)
    (he : starEach [e] X.env = (false, eval e X.env) :: starEach [] X.env := by rfl) (hpl : (backTo pos (starEach [] X.env)).any (·.1) = false := by rfl) (hf : X.env.frame = some X.env.locals := by rfl) (hx : X.ex = [] := by rfl) (hst : ∃ l, X.stack = X.env :: l := by exact ⟨_, rfl⟩) :
    JE X W (.Call (.Name x p) [e] [] pos) (kMkX X.K x t) := by
  obtain ⟨f, fd, ps, F, hff, hty, hb⟩ := D.ex
  refine pe_mono (pe_made (pmk_oex (CX := L2.CX X.prog X.w) (dvs := []) (ds := []) T.T hff hty F (hr.mono hl) hb .nil (fun _ _ _ _ _ _ _ z => (cx_none z).elim) hg g.g ha hdb he hpl) hf hx hst) fun σ H Q ⟨G, M, R, E, hv, h, hR, hE⟩ => ?_
  refine ⟨G, M, _, E, hv, h, fun vs G1 M1 H1 hv1 ⟨v, ev, q⟩ => ?_, hE⟩
  subst ev
  refine ⟨by simp, fun a na => ?_⟩
  refine ⟨H1, [(a, exo a (cl X.K x) none)], fun v' G' M' => v' = .non ∧ ∃ dx, Fr H1 [(a, exo a (cl X.K x) none)] dx ∧ G' = H1 ∧ M' = [(dx, exd dx [("at", v)]), (a, exo a (cl X.K x) (some dx))], fun _ _ _ _ => False, (Hv.self H1).newM na, ⟨a, [], rfl, rfl, fun dx fd => ⟨rfl, dx, fd, rfl, rfl⟩⟩, fun v' G' M' H2 hv2 ⟨e1, dx, fd, eG, eM⟩ => ?_, fun _ _ _ _ _ _ z => z⟩
  subst e1
  subst eG
  subst eM
  refine ⟨rfl, dx, [("at", v)], hv2.mu (a, exo a (cl X.K x) (some dx)) (by simp), hv2.mu (dx, exd dx [("at", v)]) (by simp), fd.1, fun b nb => ?_⟩
  have keep : ∀ b o, G' b = some o → (upd (del H2 a) dx (.xd [("at", v)])) b = some o := fun b o z => by
    rw [upd_ne (ne_of_none z fd.1), del_ne (ne_of_none z na)]
    exact hv2.ex b o z
  have hv3 : Hv (upd G1 dx (.xd [("at", v)])) M1 (upd (del H2 a) dx (.xd [("at", v)])) := ⟨fun b o z => by
    by_cases hb : b = dx
    · subst hb; rw [upd_same] at z ⊢; exact z
    · rw [upd_ne hb] at z
      exact keep b o (hv1.ex b o z), fun y hy => keep _ _ (hv1.mu y hy), hv1.nd, fun y hy => by
    rw [upd_ne (ne_of_none (hv1.mu y hy) fd.1)]
    exact hv1.dj y hy⟩
  exact hR _ _ _ _ (hv3.newG nb) (q dx b (hv1.fr fd.1) (hv3.fr nb))
end
end BT
namespace BT
open PySem PySem.Spec L2
open PyProof.Rows hiding St
/-! ### whole numbers -/
def isIntV : V → Bool
  | .int _ => true
  | _ => false
def withinV (x : V) (lo hi : Int) : Bool := match x with
  | .int i => decide (lo ≤ i) && decide (i ≤ hi)
  | _ => false
def S_is_whole (K : PySem.W.Frag) : KSp := sp1 fun x G M R Z => ∃ T : PT, TyK K G M x T ∧ R (.bl (T == .int)) G M
def S_is_within (K : PySem.W.Frag) : KSp := sp3 fun x y z G M R Z => ∃ (T : PT) (lo hi : Int), y = .int lo ∧ z = .int hi ∧ TyK K G M x T ∧ (T == .int) = isIntV x ∧ R (.bl (withinV x lo hi)) G M
def isStrV : V → Bool
  | .str _ => true
  | _ => false

/-! ### things whose type is known -/
def WOk (K : PySem.W.Frag) (G : Hp) (w : V) : Prop := ∃ S : PT, (∀ M, TyK K G M w S) ∧ (S == .str) = isStrV w
def IOk (K : PySem.W.Frag) (G : Hp) (x : V) : Prop := ∃ T : PT, (∀ M, TyK K G M x T) ∧ (T == .int) = isIntV x

/-! ### kinds and draws -/
structure Kn where
  leaf : Bool
  n : Nat
def Kn.txt (k : Kn) : Str := if k.leaf then "leaf" else "shuffle"
def KnOk (k : Kn) : Prop := k.n ≤ 64 ∧ (k.leaf = true → k.n ≤ 6) ∧ (k.leaf = false → 1 ≤ k.n)
def fac : Nat → Nat
  | 0 => 1
  | n + 1 => (n + 1) * fac n
def manyK (k : Kn) : Nat := if k.leaf then 2 ^ k.n else fac k.n
def prK : List Kn → Nat
  | [] => 1
  | k :: ks => manyK k * prK ks
def knD (k : Kn) : PyData := .tuple [.str k.txt, .int k.n]
def rowAt : Nat → Nat → List Nat
  | 0, _ => []
  | s + 1, n => rowAt s (n / (s + 1)) ++ [n % (s + 1)]
/-- a draw: a leaf's number, or a row -/
inductive Dr | leaf (n : Nat) | row (l : List Nat)
def dOf (k : Kn) (n : Nat) : Dr := if k.leaf then .leaf n else .row (rowAt k.n n)
def drR : List Kn → Nat → List Dr
  | [], _ => []
  | k :: ks, n => dOf k (n % manyK k) :: drR ks (n / manyK k)
def drawsAt (ks : List Kn) (n : Nat) : List Dr := (drR ks.reverse n).reverse
def natsV (l : List Nat) : List V := l.map fun (n : Nat) => V.int (n : Int)
inductive A2 {α β : Type} (r : α → β → Prop) : List α → List β → Prop
  | nil : A2 r [] []
  | cons {a : α} {b : β} {as : List α} {bs : List β} : r a b → A2 r as bs → A2 r (a :: as) (b :: bs)
/-- a draw as it lies: a row's list is one of the cells -/
def DrM (M : Mem) (v : V) (d : Dr) : Prop := match d with
  | .leaf n => v = .int n
  | .row l => ∃ b, v = .ref b ∧ (b, HO.lst (natsV l)) ∈ M
def DrV (K : PySem.W.Frag) (G : Hp) (M : Mem) (v : V) (d : Dr) : Prop := match d with
  | .leaf n => v = .int n
  | .row l => ∃ b, v = .ref b ∧ LstAt K G M b (natsV l)
def KnAt (K : PySem.W.Frag) (G : Hp) (M : Mem) (a : Addr) (ks : List Kn) : Prop := ∃ us, LstAt K G M a us ∧ DpAll K G us (ks.map knD) ∧ (∀ k, k ∈ ks → KnOk k) ∧ ks.length ≤ 1000
def DrAt (K : PySem.W.Frag) (G : Hp) (M : Mem) (a : Addr) (ds : List Dr) : Prop := ∃ us, LstAt K G M a us ∧ A2 (DrV K G M) us ds
def DrOk (k : Kn) (d : Dr) : Prop := match d with
  | .leaf n => k.leaf = true ∧ n < 2 ^ k.n
  | .row l => k.leaf = false ∧ l.length = k.n ∧ ∀ (i v : Nat), l[i]? = some v → v ≤ i
def S_leaves (K : PySem.W.Frag) : KSp := sp1 fun x G M R Z => ∃ n : Nat, x = .int n ∧ n ≤ 1000 ∧ R (.int ((2 ^ n : Nat) : Int)) G M
def S_many_of (K : PySem.W.Frag) : KSp := sp1 fun x G M R Z => ∃ k : Kn, Dp K G x (knD k) ∧ k.n ≤ 64 ∧ R (.int (manyK k)) G M
def S_how_many (K : PySem.W.Frag) : KSp := sp1 fun x G M R Z => ∃ (a : Addr) (ks : List Kn), x = .ref a ∧ KnAt K G M a ks ∧ R (.int (prK ks)) G M
def S_row_at (K : PySem.W.Frag) : KSp := sp2 fun x y G M R Z => ∃ s n : Nat, x = .int s ∧ y = .int n ∧ s ≤ 64 ∧ ∀ p, Fr G M p → R (.ref p) G ((p, .lst (natsV (rowAt s n))) :: M)
def S_draws_at (K : PySem.W.Frag) : KSp := sp2 fun x y G M R Z => ∃ (a : Addr) (ks : List Kn) (T : PT), x = .ref a ∧ KnAt K G M a ks ∧ TyK K G M y T ∧ (T == .int) = isIntV y ∧
  (∀ n : Nat, y = .int n → n < prK ks → ∀ (p : Addr) (us : List V) (Mn : Mem), A2 (DrM Mn) us (drawsAt ks n) → R (.ref p) G ((p, .lst us) :: (Mn ++ M))) ∧
  (withinV y 0 ((prK ks : Int) - 1) = false → Z (.ref (cl K "NoNumber")) none G M)

/-! errors with a place: their __init__ (needs KL32) -/
abbrev S_NoDraws_init (K : PySem.W.Frag) : KSp := S_xat "NoDraws" K
abbrev S_NoProgram_init (K : PySem.W.Frag) : KSp := S_xat "NoProgram" K

/-- the fourteen refusals, as the law tells them -/
def clsL : List Str := ["NoDraws", "NoProgram", "NoOrder", "NoNumber", "NoRoom", "NoAsk", "NoSize", "NoWay", "Over", "Unlike", "TooMany", "NoText", "NoRow", "NoName"]
/-- an error that is held -/
def Held (K : PySem.W.Frag) (G : Hp) (v : V) (x : Str) : Prop := ∃ (a : Addr) (d : Option Addr), v = .ref a ∧ G a = some (ErA K x d a) ∧ (d = none ∨ ∃ dd fs, d = some dd ∧ G dd = some (.xd fs))
def HeldAt (K : PySem.W.Frag) (G : Hp) (v : V) (x : Str) (u : V) : Prop := ∃ (a d : Addr), v = .ref a ∧ G a = some (ErA K x (some d) a) ∧ G d = some (.xd [("at", u)])
structure MadeOk (K : PySem.W.Frag) (G : Hp) (us : List V) (u1 u2 : V) : Prop where
  h : A2 (Held K G) us clsL
  a1 : ∃ v, us[0]? = some v ∧ HeldAt K G v "NoDraws" u1
  a2 : ∃ v, us[1]? = some v ∧ HeldAt K G v "NoProgram" u2
def ThV (v : V) : Prop := v = .non ∨ ∃ i : Int, v = .int i ∧ 0 ≤ i ∧ i < 10 ^ 20
def S_law_made (K : PySem.W.Frag) : KSp := sp3 fun _ y z G M R _ => ∀ (p : Addr) (us : List V) (G' : Hp), Ex G G' → MadeOk K G' us y z → R (.ref p) G' ((p, .lst us) :: M)
def S_law_kinds (K : PySem.W.Frag) : KSp := sp1 fun x G M R _ => ∃ c, c ∈ clsL ∧ Held K G x c ∧ ∀ p, R (.ref p) G ((p, .lst (clsL.map fun y => V.bl (decide (c = y)))) :: M)
def S_law_right (K : PySem.W.Frag) : KSp := sp3 fun x y z G M R _ => ∃ (p : Addr) (us : List V), x = .ref p ∧ LstAt K G M p us ∧ MadeOk K G us y z ∧ ThV y ∧ ThV z ∧ R (.bl true) G M
def S_law_thing (K : PySem.W.Frag) : KSp := sp1 fun x G M R _ => ∃ (p : Addr) (n : Nat) (c s : Int), x = .ref p ∧ M[n]? = some (p, pool c s) ∧ PoolOk s ∧ ∀ (v : V) (c' s' : Int), ThV v → PoolOk s' → R v G (M.set n (p, pool c' s'))
/-! readings of the defs, printed by gen.py -/
def tab_is_NoAsk : List (Str × Bool) := [("NoDraws", false), ("NoProgram", false), ("NoOrder", false), ("NoNumber", false), ("NoRoom", false), ("NoAsk", true), ("NoSize", false), ("NoWay", false), ("Over", false), ("Unlike", false), ("TooMany", false), ("NoText", false), ("NoRow", false), ("NoName", false)]
def tab_is_NoDraws : List (Str × Bool) := [("NoDraws", true), ("NoProgram", false), ("NoOrder", false), ("NoNumber", false), ("NoRoom", false), ("NoAsk", false), ("NoSize", false), ("NoWay", false), ("Over", false), ("Unlike", false), ("TooMany", false), ("NoText", false), ("NoRow", false), ("NoName", false)]
def tab_is_NoName : List (Str × Bool) := [("NoDraws", false), ("NoProgram", false), ("NoOrder", false), ("NoNumber", false), ("NoRoom", false), ("NoAsk", false), ("NoSize", false), ("NoWay", false), ("Over", false), ("Unlike", false), ("TooMany", false), ("NoText", false), ("NoRow", false), ("NoName", true)]
def tab_is_NoNumber : List (Str × Bool) := [("NoDraws", false), ("NoProgram", false), ("NoOrder", false), ("NoNumber", true), ("NoRoom", false), ("NoAsk", false), ("NoSize", false), ("NoWay", false), ("Over", false), ("Unlike", false), ("TooMany", false), ("NoText", false), ("NoRow", false), ("NoName", false)]
def tab_is_NoOrder : List (Str × Bool) := [("NoDraws", false), ("NoProgram", false), ("NoOrder", true), ("NoNumber", false), ("NoRoom", false), ("NoAsk", false), ("NoSize", false), ("NoWay", false), ("Over", false), ("Unlike", false), ("TooMany", false), ("NoText", false), ("NoRow", false), ("NoName", false)]
def tab_is_NoProgram : List (Str × Bool) := [("NoDraws", false), ("NoProgram", true), ("NoOrder", false), ("NoNumber", false), ("NoRoom", false), ("NoAsk", false), ("NoSize", false), ("NoWay", false), ("Over", false), ("Unlike", false), ("TooMany", false), ("NoText", false), ("NoRow", false), ("NoName", false)]
def tab_is_NoRoom : List (Str × Bool) := [("NoDraws", false), ("NoProgram", false), ("NoOrder", false), ("NoNumber", false), ("NoRoom", true), ("NoAsk", false), ("NoSize", false), ("NoWay", false), ("Over", false), ("Unlike", false), ("TooMany", false), ("NoText", false), ("NoRow", false), ("NoName", false)]
def tab_is_NoRow : List (Str × Bool) := [("NoDraws", false), ("NoProgram", false), ("NoOrder", false), ("NoNumber", false), ("NoRoom", false), ("NoAsk", false), ("NoSize", false), ("NoWay", false), ("Over", false), ("Unlike", false), ("TooMany", false), ("NoText", false), ("NoRow", true), ("NoName", false)]
def tab_is_NoSize : List (Str × Bool) := [("NoDraws", false), ("NoProgram", false), ("NoOrder", false), ("NoNumber", false), ("NoRoom", false), ("NoAsk", false), ("NoSize", true), ("NoWay", false), ("Over", false), ("Unlike", false), ("TooMany", false), ("NoText", false), ("NoRow", false), ("NoName", false)]
def tab_is_NoText : List (Str × Bool) := [("NoDraws", false), ("NoProgram", false), ("NoOrder", false), ("NoNumber", false), ("NoRoom", false), ("NoAsk", false), ("NoSize", false), ("NoWay", false), ("Over", false), ("Unlike", false), ("TooMany", false), ("NoText", true), ("NoRow", false), ("NoName", false)]
def tab_is_NoWay : List (Str × Bool) := [("NoDraws", false), ("NoProgram", false), ("NoOrder", false), ("NoNumber", false), ("NoRoom", false), ("NoAsk", false), ("NoSize", false), ("NoWay", true), ("Over", false), ("Unlike", false), ("TooMany", false), ("NoText", false), ("NoRow", false), ("NoName", false)]
def tab_is_Over : List (Str × Bool) := [("NoDraws", false), ("NoProgram", false), ("NoOrder", false), ("NoNumber", false), ("NoRoom", false), ("NoAsk", false), ("NoSize", false), ("NoWay", false), ("Over", true), ("Unlike", false), ("TooMany", false), ("NoText", false), ("NoRow", false), ("NoName", false)]
def tab_is_TooMany : List (Str × Bool) := [("NoDraws", false), ("NoProgram", false), ("NoOrder", false), ("NoNumber", false), ("NoRoom", false), ("NoAsk", false), ("NoSize", false), ("NoWay", false), ("Over", false), ("Unlike", false), ("TooMany", true), ("NoText", false), ("NoRow", false), ("NoName", false)]
def tab_is_TouchError : List (Str × Bool) := [("NoDraws", true), ("NoProgram", true), ("NoOrder", true), ("NoNumber", true), ("NoRoom", true), ("NoAsk", true), ("NoSize", true), ("NoWay", true), ("Over", true), ("Unlike", true), ("TooMany", true), ("NoText", true), ("NoRow", true), ("NoName", true)]
def tab_is_Unlike : List (Str × Bool) := [("NoDraws", false), ("NoProgram", false), ("NoOrder", false), ("NoNumber", false), ("NoRoom", false), ("NoAsk", false), ("NoSize", false), ("NoWay", false), ("Over", false), ("Unlike", true), ("TooMany", false), ("NoText", false), ("NoRow", false), ("NoName", false)]
def tab_is_ValueError : List (Str × Bool) := [("NoDraws", true), ("NoProgram", true), ("NoOrder", true), ("NoNumber", true), ("NoRoom", true), ("NoAsk", true), ("NoSize", true), ("NoWay", true), ("Over", true), ("Unlike", true), ("TooMany", true), ("NoText", true), ("NoRow", true), ("NoName", true)]
def tab_at : List Str := ["NoDraws", "NoProgram"]
/-- NoProgram_init(self, at); slots 0 self, 1 at -/
def rd_NoProgram_init_1 (K : PySem.W.Frag) : KS :=
  kSeq (kSetAt (cl K "NoProgram") (kVar 0) (kVar 1)) (kNext)
def rd_NoProgram_init (K : PySem.W.Frag) : KS :=
  kSeq (kExpr (kVeI (cl K "NoProgram") (kCons (kVar 0) (kCons (kC (.str "no program")) (kNil))))) (rd_NoProgram_init_1 K)
/-- NoDraws_init(self, at); slots 0 self, 1 at -/
def rd_NoDraws_init_1 (K : PySem.W.Frag) : KS :=
  kSeq (kSetAt (cl K "NoDraws") (kVar 0) (kVar 1)) (kNext)
def rd_NoDraws_init (K : PySem.W.Frag) : KS :=
  kSeq (kExpr (kVeI (cl K "NoDraws") (kCons (kVar 0) (kCons (kC (.str "no draws of these kinds")) (kNil))))) (rd_NoDraws_init_1 K)
/-- law_made(_law_text, _law_one, _law_other); slots 0 _law_text, 1 _law_one, 2 _law_other, 3 _law_some -/
def rd_law_made_1 (K : PySem.W.Frag) : KS :=
  kSeq (kRet (kBin (kAdd) (kVar 3) (kLst (kCons (kMkE K "NoWay" (kCons (kVar 0) (kNil))) (kCons (kMkE K "Over" (kCons (kVar 0) (kNil))) (kCons (kMkE K "Unlike" (kCons (kVar 0) (kNil))) (kCons (kMkE K "TooMany" (kCons (kVar 0) (kNil))) (kCons (kMkE K "NoText" (kCons (kVar 0) (kNil))) (kCons (kMkE K "NoRow" (kCons (kVar 0) (kNil))) (kCons (kMkE K "NoName" (kCons (kVar 0) (kNil))) (kNil))))))))))) (kNext)
def rd_law_made (K : PySem.W.Frag) : KS :=
  kSeq (kSet 3 (kLst (kCons (kMkX K "NoDraws" (kCons (kVar 1) (kNil))) (kCons (kMkX K "NoProgram" (kCons (kVar 2) (kNil))) (kCons (kMkE K "NoOrder" (kCons (kVar 0) (kNil))) (kCons (kMkE K "NoNumber" (kCons (kVar 0) (kNil))) (kCons (kMkE K "NoRoom" (kCons (kVar 0) (kNil))) (kCons (kMkE K "NoAsk" (kCons (kVar 0) (kNil))) (kCons (kMkE K "NoSize" (kCons (kVar 0) (kNil))) (kNil)))))))))) (rd_law_made_1 K)
/-- law_pool(_law_script, _law_k); slots 0 _law_script, 1 _law_k, 2 _law_cell, 3 _law_seed -/
def rd_law_pool_4 (K : PySem.W.Frag) : KS :=
  kSeq (kRet (kLst (kCons (kVar 2) (kCons (kVar 3) (kNil))))) (kNext)
def rd_law_pool_3 (K : PySem.W.Frag) : KS :=
  kSeq (kIf (kT (kBin (kI0 fun i j => .bl (decide (i < j))) (kVar 2) (kBin (kI CPow fun i j => .int (i ^ j.toNat)) (kC (.int 10)) (kC (.int 18))))) (kSeq (kSet 2 (kC (.int 0))) (kNext)) (kNext)) (rd_law_pool_4 K)
def rd_law_pool_2 (K : PySem.W.Frag) : KS :=
  kSeq (kSet 3 (kBin (kI (fun _ j => 0 < j) fun i j => .int (i % j)) (kBin (kMul) (kBin (kAdd) (kBin (kAdd) (kBin (kI (fun _ j => 0 < j) fun i j => .int (i % j)) (kVar 2) (kC (.int 1000000007))) (kBin (kMul) (kBin (kMul) (kC (.int 15485863)) (kVar 1)) (kVar 1))) (kC (.int 3))) (kC (.int 39373))) (kC (.int 2147483647)))) (rd_law_pool_3 K)
def rd_law_pool_1 (K : PySem.W.Frag) : KS :=
  kSeq (kIf (kT (kBin (kI0 fun i j => .bl (decide (i < j))) (kVar 1) (kCB (kLen K) (kCons (kVar 0) (kNil))))) (kSeq (kSet 2 (kBin (kIx K) (kVar 0) (kVar 1))) (kNext)) (kNext)) (rd_law_pool_2 K)
def rd_law_pool (K : PySem.W.Frag) : KS :=
  kSeq (kSet 2 (kC (.int 0))) (rd_law_pool_1 K)
/-- law_take(_law_pool_here, _law_many); slots 0 _law_pool_here, 1 _law_many, 2 _law_found -/
def rd_law_take_2 (K : PySem.W.Frag) : KS :=
  kSeq (kRet (kBin (kI (fun _ j => 0 < j) fun i j => .int (i % j)) (kBin (kI CDivW fun i j => .int (i / j)) (kBin (kI (fun _ j => 0 < j) fun i j => .int (i % j)) (kBin (kMul) (kBin (kIx K) (kVar 0) (kC (.int 1))) (kBin (kIx K) (kVar 0) (kC (.int 1)))) (kC (.int 2147483629))) (kC (.int 64))) (kVar 1))) (kNext)
def rd_law_take_1 (K : PySem.W.Frag) : KS :=
  kSeq (kAsg (kBin (kI (fun _ j => 0 < j) fun i j => .int (i % j)) (kBin (kAdd) (kBin (kMul) (kBin (kIx K) (kVar 0) (kC (.int 1))) (kC (.int 48271))) (kC (.int 11))) (kC (.int 2147483647))) (kgIx (kVar 0) (kC (.int 1)))) (rd_law_take_2 K)
def rd_law_take (K : PySem.W.Frag) : KS :=
  kSeq (kIf (kT (kBin (kI0 fun i j => .bl (decide (j < i))) (kBin (kIx K) (kVar 0) (kC (.int 0))) (kC (.int 0)))) (kSeq (kSet 2 (kBin (kI (fun _ j => 0 < j) fun i j => .int (i % j)) (kBin (kIx K) (kVar 0) (kC (.int 0))) (kVar 1))) (kSeq (kAsg (kBin (kI CDivW fun i j => .int (i / j)) (kBin (kIx K) (kVar 0) (kC (.int 0))) (kVar 1)) (kgIx (kVar 0) (kC (.int 0)))) (kSeq (kRet (kVar 2)) (kNext)))) (kNext)) (rd_law_take_1 K)
/-- law_thing(_law_pool_here); slots 0 _law_pool_here -/
def rd_law_thing_1 (K : PySem.W.Frag) : KS :=
  kSeq (kRet (kCall (S_law_take K) (kCons (kVar 0) (kCons (kBin (kI CPow fun i j => .int (i ^ j.toNat)) (kC (.int 10)) (kC (.int 9))) (kNil))))) (kNext)
def rd_law_thing (K : PySem.W.Frag) : KS :=
  kSeq (kIf (kT (kBin (kEqv false K) (kCall (S_law_take K) (kCons (kVar 0) (kCons (kC (.int 4)) (kNil)))) (kC (.int 0)))) (kSeq (kRet (kC .non)) (kNext)) (kNext)) (rd_law_thing_1 K)
/-- law_kinds(_law_e); slots 0 _law_e, 1 _law_some -/
def rd_law_kinds_3 (K : PySem.W.Frag) : KS :=
  kSeq (kRet (kBin (kAdd) (kVar 1) (kLst (kCons (kCB (kIsXd K (.ref (cl K "NoRow")) tab_is_NoRow) (kCons (kVar 0) (kCons (kC (.ref (cl K "NoRow"))) (kNil)))) (kCons (kCB (kIsXd K (.ref (cl K "NoName")) tab_is_NoName) (kCons (kVar 0) (kCons (kC (.ref (cl K "NoName"))) (kNil)))) (kNil)))))) (kNext)
def rd_law_kinds_2 (K : PySem.W.Frag) : KS :=
  kSeq (kSet 1 (kBin (kAdd) (kVar 1) (kLst (kCons (kCB (kIsXd K (.ref (cl K "Over")) tab_is_Over) (kCons (kVar 0) (kCons (kC (.ref (cl K "Over"))) (kNil)))) (kCons (kCB (kIsXd K (.ref (cl K "Unlike")) tab_is_Unlike) (kCons (kVar 0) (kCons (kC (.ref (cl K "Unlike"))) (kNil)))) (kCons (kCB (kIsXd K (.ref (cl K "TooMany")) tab_is_TooMany) (kCons (kVar 0) (kCons (kC (.ref (cl K "TooMany"))) (kNil)))) (kCons (kCB (kIsXd K (.ref (cl K "NoText")) tab_is_NoText) (kCons (kVar 0) (kCons (kC (.ref (cl K "NoText"))) (kNil)))) (kNil)))))))) (rd_law_kinds_3 K)
def rd_law_kinds_1 (K : PySem.W.Frag) : KS :=
  kSeq (kSet 1 (kBin (kAdd) (kVar 1) (kLst (kCons (kCB (kIsXd K (.ref (cl K "NoRoom")) tab_is_NoRoom) (kCons (kVar 0) (kCons (kC (.ref (cl K "NoRoom"))) (kNil)))) (kCons (kCB (kIsXd K (.ref (cl K "NoAsk")) tab_is_NoAsk) (kCons (kVar 0) (kCons (kC (.ref (cl K "NoAsk"))) (kNil)))) (kCons (kCB (kIsXd K (.ref (cl K "NoSize")) tab_is_NoSize) (kCons (kVar 0) (kCons (kC (.ref (cl K "NoSize"))) (kNil)))) (kCons (kCB (kIsXd K (.ref (cl K "NoWay")) tab_is_NoWay) (kCons (kVar 0) (kCons (kC (.ref (cl K "NoWay"))) (kNil)))) (kNil)))))))) (rd_law_kinds_2 K)
def rd_law_kinds (K : PySem.W.Frag) : KS :=
  kSeq (kSet 1 (kLst (kCons (kCB (kIsXd K (.ref (cl K "NoDraws")) tab_is_NoDraws) (kCons (kVar 0) (kCons (kC (.ref (cl K "NoDraws"))) (kNil)))) (kCons (kCB (kIsXd K (.ref (cl K "NoProgram")) tab_is_NoProgram) (kCons (kVar 0) (kCons (kC (.ref (cl K "NoProgram"))) (kNil)))) (kCons (kCB (kIsXd K (.ref (cl K "NoOrder")) tab_is_NoOrder) (kCons (kVar 0) (kCons (kC (.ref (cl K "NoOrder"))) (kNil)))) (kCons (kCB (kIsXd K (.ref (cl K "NoNumber")) tab_is_NoNumber) (kCons (kVar 0) (kCons (kC (.ref (cl K "NoNumber"))) (kNil)))) (kNil))))))) (rd_law_kinds_1 K)
/-- law_right(_law_some, _law_one, _law_other); slots 0 _law_some, 1 _law_one, 2 _law_other, 3 _law_k, 4 _law_j -/
def rd_law_right_b0_1 (K : PySem.W.Frag) : KS :=
  kSeq (kIf (kT (kBin (kEqv true K) (kCall (S_law_kinds K) (kCons (kBin (kIx K) (kVar 0) (kVar 3)) (kNil))) (kComp (kiR1 (kCons (kC (.int 14)) (kNil))) (kgName 4) (kYes) (kBin (kEqv false K) (kVar 4) (kVar 3)) [4]))) (kSeq (kRet (kC (.bl false))) (kNext)) (kNext)) (kNext)
def rd_law_right_b0 (K : PySem.W.Frag) : KS :=
  kSeq (kIf (kOr (kNot (kT (kCB (kIsXd K (.ref (cl K "TouchError")) tab_is_TouchError) (kCons (kBin (kIx K) (kVar 0) (kVar 3)) (kCons (kC (.ref (cl K "TouchError"))) (kNil)))))) (kNot (kT (kCB (kIsXd K (.ty "ValueError") tab_is_ValueError) (kCons (kBin (kIx K) (kVar 0) (kVar 3)) (kCons (kC (.ty "ValueError")) (kNil))))))) (kSeq (kRet (kC (.bl false))) (kNext)) (kNext)) (rd_law_right_b0_1 K)
def rd_law_right_1 (K : PySem.W.Frag) : KS :=
  kSeq (kRet (kBin (kEqv false K) (kCB (kRepr K) (kCons (kLst (kCons (kXAt K tab_at (kBin (kIx K) (kVar 0) (kC (.int 0)))) (kCons (kXAt K tab_at (kBin (kIx K) (kVar 0) (kC (.int 1)))) (kNil)))) (kNil))) (kCB (kRepr K) (kCons (kLst (kCons (kVar 1) (kCons (kVar 2) (kNil)))) (kNil))))) (kNext)
def rd_law_right (K : PySem.W.Frag) : KS :=
  kSeq (kFor (kiR1 (kCons (kC (.int 14)) (kNil))) (kgName 3) (rd_law_right_b0 K)) (rd_law_right_1 K)
/-- law(_law_script); slots 0 _law_script, 1 _law_ahead, 2 _law_k, 3 _law_pool_here, 4 _law_text, 5 _law_one, 6 _law_other, 7 _law_some, 8 _law_beside, 9 _law_j -/
def rd_law_b0_6 (K : PySem.W.Frag) : KS :=
  kSeq (kIf (kOr (kNot (kT (kCall (S_law_right K) (kCons (kVar 7) (kCons (kVar 5) (kCons (kVar 6) (kNil))))))) (kOr (kNot (kT (kCall (S_law_right K) (kCons (kVar 8) (kCons (kC (.int 3)) (kCons (kC .non) (kNil))))))) (kNot (kT (kCall (S_law_right K) (kCons (kVar 7) (kCons (kVar 5) (kCons (kVar 6) (kNil))))))))) (kSeq (kRet (kC (.bl false))) (kNext)) (kNext)) (kNext)
def rd_law_b0_5 (K : PySem.W.Frag) : KS :=
  kSeq (kSet 8 (kCall (S_law_made K) (kCons (kC (.str "no")) (kCons (kC (.int 3)) (kCons (kC .non) (kNil)))))) (rd_law_b0_6 K)
def rd_law_b0_4 (K : PySem.W.Frag) : KS :=
  kSeq (kSet 7 (kCall (S_law_made K) (kCons (kVar 4) (kCons (kVar 5) (kCons (kVar 6) (kNil)))))) (rd_law_b0_5 K)
def rd_law_b0_3 (K : PySem.W.Frag) : KS :=
  kSeq (kSet 6 (kCall (S_law_thing K) (kCons (kVar 3) (kNil)))) (rd_law_b0_4 K)
def rd_law_b0_2 (K : PySem.W.Frag) : KS :=
  kSeq (kSet 5 (kCall (S_law_thing K) (kCons (kVar 3) (kNil)))) (rd_law_b0_3 K)
def rd_law_b0_1 (K : PySem.W.Frag) : KS :=
  kSeq (kSet 4 (kSM1 (kJoin K) (kC (.str "")) (kComp (kiR1 (kCons (kCall (S_law_take K) (kCons (kVar 3) (kCons (kC (.int 9)) (kNil)))) (kNil))) (kgName 9) (kYes) (kBin (kIx K) (kC (.str "abcdefghijklmnopqrstuvwxyz")) (kCall (S_law_take K) (kCons (kVar 3) (kCons (kC (.int 26)) (kNil))))) [9]))) (rd_law_b0_2 K)
def rd_law_b0 (K : PySem.W.Frag) : KS :=
  kSeq (kSet 3 (kCall (S_law_pool K) (kCons (kVar 0) (kCons (kVar 2) (kNil))))) (rd_law_b0_1 K)
def rd_law_2 (K : PySem.W.Frag) : KS :=
  kSeq (kRet (kCall (S_law_right K) (kCons (kVar 1) (kCons (kC .non) (kCons (kC (.int 0)) (kNil)))))) (kNext)
def rd_law_1 (K : PySem.W.Frag) : KS :=
  kSeq (kFor (kiR1 (kCons (kBin (kAdd) (kCB (kMin2) (kCons (kCB (kLen K) (kCons (kVar 0) (kNil))) (kCons (kC (.int 20)) (kNil)))) (kC (.int 1))) (kNil))) (kgName 2) (rd_law_b0 K)) (rd_law_2 K)
def rd_law (K : PySem.W.Frag) : KS :=
  kSeq (kSet 1 (kCall (S_law_made K) (kCons (kC (.str "")) (kCons (kC .non) (kCons (kC (.int 0)) (kNil)))))) (rd_law_1 K)
section
variable {K : PySem.W.Frag} {vs : List V} {G : Hp} {M : Mem} {R : KR} {Z : KX}
theorem pf_law_take (h : S_law_take K vs G M R Z) : rd_law_take K (ends R Z) (sta 3 vs) G M := by
  obtain ⟨_, _, rfl, p, m, n, c, s, rfl, rfl, hn, hs, hm0, hm1, q⟩ := sp2_of h
  have hS : SeqAt' K G M p [.int c, .int s] := lst_n hn
  refine ⟨G, M, Wk.refl, _, _, hS, rfl, ite2' (fun e => ?_) (fun e => ?_)⟩
  · refine ⟨G, M, Wk.refl, _, _, hS, rfl, hm0, ?_⟩
    refine ⟨G, M, Wk.refl, _, _, hS, rfl, divW hm0 hm1 c, n, _, 0, hn, rfl, ?_⟩
    refine ⟨G, _, Wk.refl, ?_⟩
    exact ret0 (q _ _ _ (Int.emod_nonneg _ (by omega)) (Int.emod_lt_of_pos _ hm0) hs)
  · obtain ⟨s0, s1⟩ := hs
    have hs' : PoolOk ((s * 48271 + 11) % 2147483647) := ⟨Int.emod_nonneg _ (by decide), Int.emod_lt_of_pos _ (by decide)⟩
    refine ⟨G, M, Wk.refl, _, _, hS, rfl, mul_r (by decide) (by decide), (by show (0 : Int) < _; decide), n, _, 1, hn, rfl, ?_⟩
    have hn' : (M.set n (p, pool c ((s * 48271 + 11) % 2147483647)))[n]? = some (p, pool c ((s * 48271 + 11) % 2147483647)) := set_n hn
    have hS' : SeqAt' K G (M.set n (p, pool c ((s * 48271 + 11) % 2147483647))) p [.int c, .int ((s * 48271 + 11) % 2147483647)] := lst_n hn'
    refine ⟨G, _, Wk.refl, _, _, hS', rfl, _, _, hS', rfl, mul_l (by have := hs'.1; omega) (by have := hs'.2; omega), (by show (0 : Int) < _; decide), divW (by decide) (by decide) _, hm0, ?_⟩
    exact ret0 (q _ _ _ (Int.emod_nonneg _ (by omega)) (Int.emod_lt_of_pos _ hm0) hs')
theorem b01 (b : Bool) : -(2 ^ 64) < (if b then (1 : Int) else 0) ∧ (if b then (1 : Int) else 0) < 2 ^ 64 := by cases b <;> decide
end

section
variable {K : PySem.W.Frag} {vs : List V} {G : Hp} {M : Mem} {R : KR} {Z : KX}
theorem pf_law_pool (h : S_law_pool K vs G M R Z) : rd_law_pool K (ends R Z) (sta 4 vs) G M := by
  obtain ⟨_, _, rfl, a, ns, k, rfl, rfl, hS, k0, k1, hl, q⟩ := sp2_of h
  have rest : ∀ cell : Int, rd_law_pool_2 K (ends R Z) [some (.ref a), some (.int k), some (.int cell), none] G M := fun cell => by
    refine ⟨G, M, Wk.refl, (by show (0 : Int) < _; decide), mul_l (by decide) (by decide), mul_r (by omega) (by omega), mul_r (by decide) (by decide), (by show (0 : Int) < _; decide), ?_⟩
    refine ⟨G, M, Wk.refl, pow10_18, ite2' (fun e => ?_) (fun e => ?_)⟩
    · exact ⟨G, M, Wk.refl, G, M, Wk.refl, sz2, fun p fp => ret0 (q p _ _ fp ⟨Int.emod_nonneg _ (by decide), Int.emod_lt_of_pos _ (by decide)⟩)⟩
    · exact ⟨G, M, Wk.refl, sz2, fun p fp => ret0 (q p _ _ fp ⟨Int.emod_nonneg _ (by decide), Int.emod_lt_of_pos _ (by decide)⟩)⟩
  refine ⟨G, M, Wk.refl, ?_⟩
  refine ⟨G, M, Wk.refl, _, lst_g hS, ite2' (fun e => ?_) (fun e => rest _)⟩
  have e1 : k < ((ns.map V.int).length : Int) := of_decide_eq_true e
  rw [List.length_map] at e1
  exact ⟨G, M, Wk.refl, _, _, lst_g hS, atI_int k0 e1, rest _⟩
end

section
variable {K : PySem.W.Frag} {vs : List V} {G : Hp} {M : Mem} {R : KR} {Z : KX}
theorem set_self {α : Type} {l : List α} {n : Nat} {x : α} (h : l[n]? = some x) : l.set n x = l := by
  apply List.ext_getElem? 
  intro i
  rw [List.getElem?_set]
  by_cases e : n = i
  · subst e
    rw [if_pos rfl, if_pos (List.getElem?_eq_some_iff.mp h).1, h]
  · rw [if_neg e]
theorem at_two {x y : V} {r : Int} (h0 : 0 ≤ r) (h1 : r < 2) : ∃ v, atI [x, y] r = some v ∧ (v = x ∨ v = y) := by
  have e : r = 0 ∨ r = 1 := by omega
  rcases e with rfl | rfl
  · exact ⟨x, rfl, .inl rfl⟩
  · exact ⟨y, rfl, .inr rfl⟩
theorem fr_set {n : Nat} {p : Addr} {o : HO} {x : Addr × HO} {t : Addr} (hn : M[n]? = some (p, o)) (h : Fr G M t) (e : x.1 = p := by rfl) : Fr G (M.set n x) t := by
  refine ⟨h.1, fun y hy => ?_⟩
  rcases List.mem_or_eq_of_mem_set hy with hy | rfl
  · exact h.2 y hy
  · rw [e]; exact h.2 _ (List.mem_of_getElem? hn)
theorem fr_unset {n : Nat} {p : Addr} {o : HO} {x : Addr × HO} {t : Addr} (hn : M[n]? = some (p, o)) (h : Fr G (M.set n x) t) (e : x.1 = p := by rfl) : Fr G M t := by
  have hl : n < M.length := (List.getElem?_eq_some_iff.mp hn).1
  refine ⟨h.1, fun y hy => ?_⟩
  obtain ⟨m, hm⟩ := List.getElem?_of_mem hy
  by_cases z : n = m
  · subst z
    rw [hn] at hm; cases hm
    have := h.2 x (List.mem_of_getElem? (List.getElem?_set_self hl))
    rw [e] at this; exact this
  · exact h.2 y (List.mem_of_getElem? (by rw [List.getElem?_set_ne z]; exact hm))
end

section
variable {K : PySem.W.Frag} {vs : List V} {G : Hp} {M : Mem} {R : KR} {Z : KX}
end

section
variable {K : PySem.W.Frag} {vs : List V} {G : Hp} {M : Mem} {R : KR} {Z : KX}
section
variable {α β : Type} {r : α → β → Prop}
theorem A2.len {as : List α} {bs : List β} (h : A2 r as bs) : as.length = bs.length := by
  induction h with
  | nil => rfl
  | cons _ _ ih => simp [ih]
theorem A2.app {as as' : List α} {bs bs' : List β} (h : A2 r as bs) (h' : A2 r as' bs') : A2 r (as ++ as') (bs ++ bs') := by
  induction h with
  | nil => exact h'
  | cons a _ ih => exact .cons a ih
theorem A2.rev {as : List α} {bs : List β} (h : A2 r as bs) : A2 r as.reverse bs.reverse := by
  induction h with
  | nil => exact .nil
  | cons a _ ih => rw [List.reverse_cons, List.reverse_cons]; exact ih.app (.cons a .nil)
theorem A2.get {as : List α} {bs : List β} (h : A2 r as bs) : ∀ {i : Nat} {b : β}, bs[i]? = some b → ∃ a, as[i]? = some a ∧ r a b := by
  induction h with
  | nil => intro i b e; simp at e
  | cons a _ ih =>
    intro i b e
    cases i with
    | zero => cases e; exact ⟨_, rfl, a⟩
    | succ i => exact ih e
theorem A2.get' {as : List α} {bs : List β} (h : A2 r as bs) : ∀ {i : Nat} {a : α}, as[i]? = some a → ∃ b, bs[i]? = some b ∧ r a b := by
  induction h with
  | nil => intro i b e; simp at e
  | cons a _ ih =>
    intro i b e
    cases i with
    | zero => cases e; exact ⟨_, rfl, a⟩
    | succ i => exact ih e
theorem A2.mono {r' : α → β → Prop} (m : ∀ a b, r a b → r' a b) {as : List α} {bs : List β} (h : A2 r as bs) : A2 r' as bs := by
  induction h with
  | nil => exact .nil
  | cons a _ ih => exact .cons (m _ _ a) ih
end
theorem drM_v {Mn : Mem} (hs : ∀ x, x ∈ Mn → x ∈ M) {v : V} {d : Dr} (h : DrM Mn v d) : DrV K G M v d := by
  cases d with
  | leaf n => exact h
  | row l => obtain ⟨b, rfl, h⟩ := h; exact ⟨b, rfl, .inl (hs _ h)⟩
theorem drM_sub {Mn Mm : Mem} (hs : ∀ x, x ∈ Mn → x ∈ Mm) {v : V} {d : Dr} (h : DrM Mn v d) : DrM Mm v d := by
  cases d with
  | leaf n => exact h
  | row l => obtain ⟨b, rfl, h⟩ := h; exact ⟨b, rfl, hs _ h⟩
theorem dp_kn_inv {v : V} {k : Kn} (h : Dp K G v (knD k)) : ∃ t, v = .ref t ∧ SqT K G t [.str k.txt, .int k.n] := by
  obtain ⟨t, xs, rfl, s, a⟩ := dp_tup_inv h
  refine ⟨t, rfl, ?_⟩
  cases a with
  | cons a b =>
    cases b with
    | cons b c =>
      cases c
      cases a
      cases b
      exact s
theorem dp_kn {t : Addr} {k : Kn} (h : SqT K G t [.str k.txt, .int k.n]) : Dp K G (.ref t) (knD k) := .tup h (.cons (.str _) (.cons (.int _) .nil))
theorem shp_kns {n : Nat} (ks : List Kn) : Shp (n + 2) (.list (ks.map knD)) := .list fun d hd => by
  obtain ⟨p, _, rfl⟩ := List.mem_map.mp hd
  refine .tuple fun d hd => ?_
  rcases List.mem_cons.mp hd with rfl | hd
  · exact .str (by obtain ⟨b, n⟩ := p; cases b <;> (show PyData.strOk _ = true; first | exact (by decide +kernel : PyData.strOk ("leaf" : Str) = true) | exact (by decide +kernel : PyData.strOk ("shuffle" : Str) = true)))
  · rcases List.mem_cons.mp hd with rfl | hd
    · exact .int
    · cases hd
theorem txt_leaf (k : Kn) : decide ((V.str k.txt) = (.str "leaf")) = k.leaf := by
  obtain ⟨b, n⟩ := k
  cases b
  · exact decide_eq_false (by intro h; injection h with h; exact absurd (show ("shuffle" : Str) = "leaf" from h) (by decide))
  · exact decide_eq_true rfl
/-! sizes -/
theorem fac_pos : ∀ n, 0 < fac n
  | 0 => by decide
  | n + 1 => Nat.mul_pos (by omega) (fac_pos n)
theorem fac_mono : ∀ {m n : Nat}, m ≤ n → fac m ≤ fac n := by
  intro m n h
  induction n with
  | zero => have : m = 0 := by omega
            subst this; exact Nat.le_refl _
  | succ n ih =>
    by_cases e : m = n + 1
    · subst e; exact Nat.le_refl _
    · have h1 := ih (by omega)
      show fac m ≤ (n + 1) * fac n
      have : 1 * fac n ≤ (n + 1) * fac n := Nat.mul_le_mul_right _ (by omega)
      omega
theorem fac_64 : fac 64 < 2 ^ 300 := by decide +kernel
theorem manyK_pos (k : Kn) : 0 < manyK k := by
  unfold manyK; split
  · exact Nat.pow_pos (by decide)
  · exact fac_pos _
theorem manyK_lt {k : Kn} (h : KnOk k) : manyK k < 2 ^ 300 := by
  unfold manyK; split
  · exact Nat.pow_lt_pow_right (by decide) (by have := h.1; omega)
  · exact Nat.lt_of_le_of_lt (fac_mono h.1) fac_64
theorem prK_pos : ∀ ks, 0 < prK ks
  | [] => by decide
  | k :: ks => Nat.mul_pos (manyK_pos k) (prK_pos ks)
theorem prK_lt : ∀ ks : List Kn, (∀ k, k ∈ ks → KnOk k) → prK ks < 2 ^ (300 * ks.length + 1)
  | [], _ => by decide
  | k :: ks, h => by
    have h1 := manyK_lt (h k List.mem_cons_self)
    have h2 := prK_lt ks fun q hq => h q (List.mem_cons_of_mem _ hq)
    show manyK k * prK ks < _
    rw [List.length_cons, show 300 * (ks.length + 1) + 1 = 300 + (300 * ks.length + 1) by omega, Nat.pow_add]
    exact Nat.mul_lt_mul'' h1 h2
theorem prK_snoc (ks : List Kn) (k : Kn) : prK (ks ++ [k]) = prK ks * manyK k := by
  induction ks with
  | nil => simp [prK]
  | cons a ks ih => show manyK a * prK (ks ++ [k]) = manyK a * prK ks * manyK k; rw [ih, Nat.mul_assoc]
theorem prK_take_le (ks : List Kn) (i : Nat) (h : ∀ k, k ∈ ks → KnOk k) : ∀ k, k ∈ ks.take i → KnOk k := fun k hk => h k (List.mem_of_mem_take hk)
theorem take_succ' {α : Type} {l : List α} {i : Nat} {x : α} (h : l[i]? = some x) : l.take (i + 1) = l.take i ++ [x] := by
  rw [List.take_succ, h]; rfl
end

section
variable {K : PySem.W.Frag} {vs : List V} {G : Hp} {M : Mem} {R : KR} {Z : KX}
theorem natsV_get {l : List Nat} {i v : Nat} (h : l[i]? = some v) : (natsV l)[i]? = some (.int (v : Int)) := by
  unfold natsV; rw [List.getElem?_map, h]; rfl
theorem natsV_len (l : List Nat) : (natsV l).length = l.length := by unfold natsV; rw [List.length_map]
theorem atI_nats {l : List Nat} {i v : Nat} (h : l[i]? = some v) : atI (natsV l) (i : Int) = some (.int (v : Int)) := atI_nat (natsV_get h)
theorem at_mem {l : List V} {r : Int} (h0 : 0 ≤ r) (h1 : r < l.length) : ∃ v, atI l r = some v ∧ v ∈ l := by
  obtain ⟨j, rfl⟩ := Int.eq_ofNat_of_zero_le h0
  have hj : l[j]? = some l[j] := List.getElem?_eq_getElem (by omega)
  exact ⟨_, atI_nat hj, List.mem_of_getElem? hj⟩
theorem dpall_rep {v : V} {d : PyData} (h : Dp K G v d) : ∀ n, DpAll K G (List.replicate n v) (List.replicate n d)
  | 0 => .nil
  | n + 1 => .cons h (dpall_rep h n)
theorem dpall_app2 : ∀ {vs ws : List V} {ds es : List PyData}, DpAll K G vs ds → DpAll K G ws es → DpAll K G (vs ++ ws) (ds ++ es)
  | _, _, _, _, .nil, h => h
  | _, _, _, _, .cons a b, h => .cons a (dpall_app2 b h)
theorem dpall_flat {us : List V} {ds : List PyData} (h : DpAll K G us ds) : ∀ n, DpAll K G (List.replicate n us).flatten (List.replicate n ds).flatten
  | 0 => .nil
  | n + 1 => dpall_app2 h (dpall_flat h n)
theorem ex_lat {G' : Hp} {M' : Mem} {a : Addr} {us : List V} (x : Ex G G') (hm : ∀ x, x ∈ M → x ∈ M') (h : LstAt K G M a us) : LstAt K G' M' a us := by
  rcases h with h | h
  · exact .inl (hm _ h)
  · exact .inr (ex_l x h)
theorem wi_hi {i lo hi : Int} (h : hi < i) : withinV (.int i) lo hi = false := by
  show (decide (lo ≤ i) && decide (i ≤ hi)) = false
  rw [decide_eq_false (p := i ≤ hi) (by omega), Bool.and_false]
theorem wi_lo {i lo hi : Int} (h : i < lo) : withinV (.int i) lo hi = false := by
  show (decide (lo ≤ i) && decide (i ≤ hi)) = false
  rw [decide_eq_false (p := lo ≤ i) (by omega), Bool.false_and]
theorem wi_in {i lo hi : Int} (h : lo ≤ i) (h2 : i ≤ hi) : withinV (.int i) lo hi = true := by
  show (decide (lo ≤ i) && decide (i ≤ hi)) = true
  rw [decide_eq_true h, decide_eq_true h2]; rfl
theorem Wk.sub' {G : Hp} {M M' : Mem} (h : List.Sublist M' M) : Wk G M G M' := fun H hv => ⟨hv.ex, fun x hx => hv.mu x (h.subset hx), hv.nd.sublist (h.map _), fun x hx => hv.dj x (h.subset hx)⟩
end

section
variable {K : PySem.W.Frag} {vs : List V} {G : Hp} {M : Mem} {R : KR} {Z : KX}
theorem Fr.keys {M M' : Mem} {p : Addr} (h : Fr G M p) (e : M'.map (·.1) = M.map (·.1) := by rfl) : Fr G M' p := ⟨h.1, fun x hx z => by
  have : x.1 ∈ M'.map (·.1) := List.mem_map.mpr ⟨x, hx, rfl⟩
  rw [e] at this
  obtain ⟨y, hy, ey⟩ := List.mem_map.mp this
  exact h.2 y hy (ey.trans z)⟩
/-! ### cells that were just laid, frozen together -/
inductive Frs (G : Hp) (M : Mem) : Mem → Prop
  | nil : Frs G M []
  | cons {p : Addr} {o : HO} {Mx : Mem} : Fr G (Mx ++ M) p → Frs G M Mx → Frs G M ((p, o) :: Mx)
theorem Frs.key {Mx : Mem} (h : Frs G M Mx) : ∀ x, x ∈ Mx → G x.1 = none ∧ ∀ y, y ∈ M → y.1 ≠ x.1 := by
  induction h with
  | nil => intro x hx; cases hx
  | cons f _ ih =>
    intro x hx
    rcases List.mem_cons.mp hx with rfl | hx
    · exact ⟨f.1, fun y hy => f.2 y (List.mem_append.mpr (.inr hy))⟩
    · exact ih x hx
theorem Frs.upd {Mx : Mem} {p : Addr} {o : HO} (h : Frs G M Mx) (f : ∀ x, x ∈ Mx → x.1 ≠ p) : Frs (upd G p o) M Mx := by
  induction h with
  | nil => exact .nil
  | cons f1 _ ih => exact .cons ⟨by rw [upd_ne (f _ List.mem_cons_self)]; exact f1.1, f1.2⟩ (ih fun x hx => f x (List.mem_cons_of_mem _ hx))
theorem frz_pre {M : Mem} : ∀ {Mx : Mem} {G : Hp}, Frs G M Mx → ∃ G', Ex G G' ∧ (∀ x, x ∈ Mx → G' x.1 = some x.2) ∧ Wk G (Mx ++ M) G' M ∧ ∀ q, G q = none → (∀ x, x ∈ Mx → x.1 ≠ q) → G' q = none
  | [], G, _ => ⟨G, Ex.refl, fun _ h => (nomatch h), Wk.refl, fun _ h _ => h⟩
  | (p, o) :: Mx, G, h => by
    cases h with
    | cons f h =>
      have hp : ∀ x, x ∈ Mx → x.1 ≠ p := fun x hx => f.2 x (List.mem_append.mpr (.inl hx))
      obtain ⟨G', e, a, w, n⟩ := frz_pre (h.upd (o := o) hp)
      refine ⟨G', (Ex.new f).trans e, fun x hx => ?_, Wk.frz0.trans w, fun q hq hx => ?_⟩
      · rcases List.mem_cons.mp hx with rfl | hx
        · exact e p o upd_same
        · exact a x hx
      · exact n q (by rw [upd_ne (Ne.symm (hx (p, o) List.mem_cons_self))]; exact hq) fun x h2 => hx x (List.mem_cons_of_mem _ h2)
theorem Frs.more {Mx : Mem} {x : Addr × HO} (h : Frs G M Mx) (f : ∀ y, y ∈ Mx → x.1 ≠ y.1) : Frs G (x :: M) Mx := by
  induction h with
  | nil => exact .nil
  | @cons p o Mx f1 _ ih =>
    refine .cons ⟨f1.1, fun y hy => ?_⟩ (ih fun y hy => f y (List.mem_cons_of_mem _ hy))
    rcases List.mem_append.mp hy with hy | hy
    · exact f1.2 y (List.mem_append.mpr (.inl hy))
    · rcases List.mem_cons.mp hy with rfl | hy
      · exact f _ List.mem_cons_self
      · exact f1.2 y (List.mem_append.mpr (.inr hy))
/-- the same beneath one cell -/
theorem frz_pre1 {Mx : Mem} {s : Addr} {o : HO} (h : Frs G M Mx) (f : Fr G (Mx ++ M) s) : ∃ G', Ex G G' ∧ (∀ x, x ∈ Mx → G' x.1 = some x.2) ∧ Wk G ((s, o) :: (Mx ++ M)) G' ((s, o) :: M) ∧ Fr G' M s := by
  obtain ⟨G', a, b, c, d⟩ := frz_pre (h.more (x := (s, o)) fun y hy => Ne.symm (f.2 y (List.mem_append.mpr (.inl hy))))
  exact ⟨G', a, b, (Wk.perm List.perm_middle).trans c, d s f.1 fun x hx => f.2 x (List.mem_append.mpr (.inl hx)), fun x hx => f.2 x (List.mem_append.mpr (.inr hx))⟩
theorem kseq_wk {t u : KS} {D : Kd} {σ : St} {G G' : Hp} {M M' : Mem} (w : Wk G M G' M') (h : kSeq t u D σ G' M') : kSeq t u D σ G M := by
  obtain ⟨a, b, c, d⟩ := h
  exact ⟨a, b, w.trans c, d⟩
/-! ### things whose type is known -/
theorem ty_ex {G' : Hp} {x : V} {T : PT} (e : Ex G G') (h : ∀ M, TyK K G M x T) : ∀ M, TyK K G' M x T := fun M H hv => h M H (Wk.less e H hv)
theorem WOk.ex {G' : Hp} {w : V} (e : Ex G G') (h : WOk K G w) : WOk K G' w := by
  obtain ⟨S, h1, h2⟩ := h
  exact ⟨S, ty_ex e h1, h2⟩
theorem IOk.ex {G' : Hp} {w : V} (e : Ex G G') (h : IOk K G w) : IOk K G' w := by
  obtain ⟨S, h1, h2⟩ := h
  exact ⟨S, ty_ex e h1, h2⟩
theorem iok_int {i : Int} : IOk K G (.int i) := ⟨.int, fun _ => ty_int, rfl⟩
theorem iok_non : IOk K G .non := ⟨.non, fun _ => ty_non, rfl⟩
theorem iok_bl {b : Bool} : IOk K G (.bl b) := ⟨.bool, fun _ => ty_bl, rfl⟩
theorem iok_str {b : Str} : IOk K G (.str b) := ⟨.str, fun _ => ty_str, rfl⟩
theorem iok_tup {a : Addr} {xs : List V} (h : SqT K G a xs) : IOk K G (.ref a) := ⟨.tuple, fun _ => ty_tup h, rfl⟩
theorem iok_lst {a : Addr} {xs : List V} (h : SqL K G a xs) : IOk K G (.ref a) := ⟨.list, fun _ => ty_lst (.inr h), rfl⟩
theorem iok_dict {a : Addr} {xs : List (Key × V)} (h : G a = some (.dK xs)) : IOk K G (.ref a) := ⟨.dict, fun _ => ty_dict (.inr h), rfl⟩
theorem wok_str {b : Str} : WOk K G (.str b) := ⟨.str, fun _ => ty_str, rfl⟩
def boolsD (l : List Bool) : PyData := .list (l.map .bool)
theorem dp_bools : ∀ l : List Bool, DpAll K G (l.map V.bl) (l.map PyData.bool)
  | [] => .nil
  | b :: l => .cons (.bl b) (dp_bools l)
theorem shp_bools (l : List Bool) : Shp 1 (boolsD l) := .list fun d hd => by
  obtain ⟨b, _, rfl⟩ := List.mem_map.mp hd
  exact .bl
/-! ### slices of numbers -/
theorem cut_take {xs : List V} {k : Nat} : cutV xs none (some (k : Int)) = xs.take k := by
  unfold cutV
  rw [HT.sIx_none, HT.sIx_nat, List.drop_zero, Nat.sub_zero]
  rw [Nat.min_def]; split
  · rfl
  · rw [List.take_length, List.take_of_length_le (by omega)]
theorem cut_drop {xs : List V} {k : Nat} : cutV xs (some (k : Int)) none = xs.drop k := by
  unfold cutV
  rw [HT.sIx_none, HT.sIx_nat, Nat.min_def]; split
  · rw [List.take_of_length_le (by rw [List.length_drop]; exact Nat.le_refl _)]
  · rw [List.drop_length, List.take_nil, List.drop_of_length_le (by omega)]
theorem cut_init {xs : List V} : cutV xs none (some (-1)) = xs.dropLast := by
  unfold cutV
  rw [HT.sIx_none, List.drop_zero, Nat.sub_zero, List.dropLast_eq_take]
  have e : HT.sIx xs.length xs.length (some (-1)) = xs.length - 1 := by
    show (if (-1 : Int) < 0 then (-1 + (xs.length : Int)).toNat else min (-1 : Int).toNat xs.length) = _
    rw [if_pos (by decide)]; omega
  rw [e]
theorem natsV_take {l : List Nat} {k : Nat} : (natsV l).take k = natsV (l.take k) := by unfold natsV; rw [List.map_take]
theorem natsV_drop {l : List Nat} {k : Nat} : (natsV l).drop k = natsV (l.drop k) := by unfold natsV; rw [List.map_drop]
theorem natsV_app {l m : List Nat} : natsV l ++ natsV m = natsV (l ++ m) := by unfold natsV; rw [List.map_append]
/-- numbers as data -/
def natsD (l : List Nat) : List PyData := l.map fun (n : Nat) => PyData.int (n : Int)
theorem dp_nats : ∀ (l : List Nat), DpAll K G (natsV l) (natsD l)
  | [] => .nil
  | n :: l => .cons (.int _) (dp_nats l)
theorem shp_nats {n : Nat} (l : List Nat) : Shp (n + 1) (.list (natsD l)) := .list fun d hd => by
  obtain ⟨i, _, rfl⟩ := List.mem_map.mp hd
  exact .int
theorem dat_nats {a : Addr} {l : List Nat} (h : LstAt K G M a (natsV l)) : DatAt K G M (.ref a) (.list (natsD l)) := dat_list h (dats_g (dp_nats l))
theorem natsD_inj : ∀ {l m : List Nat}, natsD l = natsD m → l = m
  | [], [], _ => rfl
  | [], _ :: _, h => by cases h
  | _ :: _, [], h => by cases h
  | a :: l, b :: m, h => by
    have h1 := List.cons.inj h
    have := PyData.int.inj h1.1
    rw [natsD_inj h1.2]
    congr 1; omega
/-- something drawn from a written list -/
theorem pick {l : List V} {p : Addr} {n : Nat} {c s : Int} (hn : M[n]? = some (p, pool c s)) (hs : PoolOk s) (h0 : 0 < l.length) (h1 : l.length ≤ 1000)
    (q : ∀ y c' s' d, y ∈ l → PoolOk s' → Fr G M d → R y G ((d, .lst l) :: M.set n (p, pool c' s'))) :
    l.length ≤ sizeLine ∧ ∀ d, Fr G M d → S_law_take K [.ref p, .int (l.length : Int)] G ((d, .lst l) :: M) (fun y G M => kIx K (.ref d) y G M R) E0 := by
  refine ⟨sz (by omega), fun d fd => ⟨p, l.length, n + 1, c, s, rfl, rfl, hn, hs, by omega, ?_, fun r c' s' r0 r1 hs' => ?_⟩⟩
  · have : (l.length : Int) ≤ 1000 := by omega
    have : (1000 : Int) < 2 ^ 200 := by decide
    omega
  · obtain ⟨y, hy, hm⟩ := at_mem (l := l) r0 r1
    exact ⟨l, y, lst_n (n := 0) rfl, hy, q y c' s' d hm hs' fd⟩
end

section
variable {K : PySem.W.Frag} {vs : List V} {G : Hp} {M : Mem} {R : KR} {Z : KX}
end

section
theorem eqvA_ints : ∀ xs ys : List Int, PyData.eqvAll (xs.map .int) (ys.map .int) = decide (xs = ys)
  | [], [] => by simp [PyData.eqvAll]
  | [], _ :: _ => by simp [PyData.eqvAll]
  | _ :: _, [] => by simp [PyData.eqvAll]
  | x :: xs, y :: ys => by
    show (PyData.eqv (.int x) (.int y) && PyData.eqvAll (xs.map .int) (ys.map .int)) = _
    rw [eqvA_ints xs ys]
    have : PyData.eqv (.int x) (.int y) = decide (x = y) := by
      show (x == y) = _
      by_cases e : x = y <;> simp [e]
    rw [this]
    by_cases e1 : x = y <;> by_cases e2 : xs = ys <;> simp [e1, e2]
theorem eqvL_ints (xs ys : List Int) : PyData.eqv (.list (xs.map .int)) (.list (ys.map .int)) = decide (xs = ys) := eqvA_ints xs ys
theorem natsD_ints (l : List Nat) : natsD l = (l.map fun (n : Nat) => (n : Int)).map PyData.int := by unfold natsD; rw [List.map_map]; rfl
theorem eqvL_nats (l m : List Nat) : PyData.eqv (.list (natsD l)) (.list (natsD m)) = decide (l = m) := by
  rw [natsD_ints, natsD_ints, eqvL_ints]
  by_cases e : l = m
  · subst e; simp
  · rw [decide_eq_false e, decide_eq_false]
    intro z
    exact e (natsD_inj (by rw [natsD_ints, natsD_ints, z]))
theorem eqvL_nil (ds : List PyData) : PyData.eqv (.list ds) (.list []) = ds.isEmpty := by
  cases ds <;> rfl
end

section
variable {K : PySem.W.Frag} {vs : List V} {G : Hp} {M : Mem} {R : KR} {Z : KX}
theorem pf_NoDraws_init (h : S_NoDraws_init K vs G M R Z) : rd_NoDraws_init K (ends R Z) (sta 2 vs) G M := by
  obtain ⟨_, v, rfl, a, F, rfl, rfl, q⟩ := sp2_of h
  exact ⟨G, _, Wk.refl, a, _, rfl, Nat.le_of_ble_eq_true rfl, .inl List.mem_cons_self, G, _, Wk.refl, a, 0, rfl, rfl, fun dx fd => ret0 (q dx fd)⟩
theorem pf_NoProgram_init (h : S_NoProgram_init K vs G M R Z) : rd_NoProgram_init K (ends R Z) (sta 2 vs) G M := by
  obtain ⟨_, v, rfl, a, F, rfl, rfl, q⟩ := sp2_of h
  exact ⟨G, _, Wk.refl, a, _, rfl, Nat.le_of_ble_eq_true rfl, .inl List.mem_cons_self, G, _, Wk.refl, a, 0, rfl, rfl, fun dx fd => ret0 (q dx fd)⟩
end

section
variable {K : PySem.W.Frag} {vs : List V} {G : Hp} {M : Mem} {R : KR} {Z : KX}
theorem Held.ex {G' : Hp} {v : V} {x : Str} (e : Ex G G') (h : Held K G v x) : Held K G' v x := by
  obtain ⟨a, d, h1, h2, h3⟩ := h
  exact ⟨a, d, h1, e _ _ h2, h3.imp id fun ⟨dd, fs, h4, h5⟩ => ⟨dd, fs, h4, e _ _ h5⟩⟩
theorem HeldAt.ex {G' : Hp} {v u : V} {x : Str} (e : Ex G G') (h : HeldAt K G v x u) : HeldAt K G' v x u := by
  obtain ⟨a, d, h1, h2, h3⟩ := h
  exact ⟨a, d, h1, e _ _ h2, e _ _ h3⟩
theorem HeldAt.held {v u : V} {x : Str} (h : HeldAt K G v x u) : Held K G v x := by
  obtain ⟨a, d, h1, h2, h3⟩ := h
  exact ⟨a, some d, h1, h2, .inr ⟨d, _, rfl, h3⟩⟩
theorem MadeOk.ex {G' : Hp} {us : List V} {u1 u2 : V} (e : Ex G G') (h : MadeOk K G us u1 u2) : MadeOk K G' us u1 u2 := by
  obtain ⟨h, ⟨v, h1, h2⟩, ⟨w, h3, h4⟩⟩ := h
  exact ⟨h.mono fun _ _ z => z.ex e, ⟨v, h1, h2.ex e⟩, ⟨w, h3, h4.ex e⟩⟩
theorem mkx {x : Str} {u : V} {d a : Addr} (fd : Fr G M d) (fa : Fr (upd G d (.xd [("at", u)])) M a) : Ex G (upd (upd G d (.xd [("at", u)])) a (ErA K x (some d) a)) ∧ HeldAt K (upd (upd G d (.xd [("at", u)])) a (ErA K x (some d) a)) (.ref a) x u :=
  ⟨(Ex.new fd).trans (Ex.new fa), a, d, rfl, upd_same, by rw [upd_ne (fun z => by have := fa.1; rw [← z, upd_same] at this; cases this)]; exact upd_same⟩
theorem mke {x : Str} {a : Addr} (fa : Fr G M a) : Ex G (upd G a (ErA K x none a)) ∧ Held K (upd G a (ErA K x none a)) (.ref a) x := ⟨Ex.new fa, a, none, rfl, upd_same, .inl rfl⟩
theorem pf_law_made (h : S_law_made K vs G M R Z) : rd_law_made K (ends R Z) (sta 4 vs) G M := by
  obtain ⟨s, y, z, rfl, q⟩ := sp3_of h
  clear h
  have l1 : [s].length ≤ 1000 := Nat.le_of_ble_eq_true rfl
  refine ⟨G, M, Wk.refl, ?_⟩
  refine ⟨y, rfl, fun d0 a0 fd0 fa0 => ?_⟩
  obtain ⟨e0, h0⟩ := mkx (K := K) (x := "NoDraws") fd0 fa0
  revert e0 h0
  generalize upd (upd G d0 (.xd [("at", y)])) a0 (ErA K "NoDraws" (some d0) a0) = G0
  intro e0 h0
  refine ⟨z, rfl, fun d1 a1 fd1 fa1 => ?_⟩
  obtain ⟨e1, h1⟩ := mkx (K := K) (x := "NoProgram") fd1 fa1
  revert e1 h1
  generalize upd (upd G0 d1 (.xd [("at", z)])) a1 (ErA K "NoProgram" (some d1) a1) = G1
  intro e1 h1
  refine ⟨l1, fun a2 f2 => ?_⟩
  obtain ⟨e2, h2⟩ := mke (K := K) (x := "NoOrder") f2
  revert e2 h2
  generalize upd G1 a2 (ErA K "NoOrder" none a2) = G2
  intro e2 h2
  refine ⟨l1, fun a3 f3 => ?_⟩
  obtain ⟨e3, h3⟩ := mke (K := K) (x := "NoNumber") f3
  revert e3 h3
  generalize upd G2 a3 (ErA K "NoNumber" none a3) = G3
  intro e3 h3
  refine ⟨l1, fun a4 f4 => ?_⟩
  obtain ⟨e4, h4⟩ := mke (K := K) (x := "NoRoom") f4
  revert e4 h4
  generalize upd G3 a4 (ErA K "NoRoom" none a4) = G4
  intro e4 h4
  refine ⟨l1, fun a5 f5 => ?_⟩
  obtain ⟨e5, h5⟩ := mke (K := K) (x := "NoAsk") f5
  revert e5 h5
  generalize upd G4 a5 (ErA K "NoAsk" none a5) = G5
  intro e5 h5
  refine ⟨l1, fun a6 f6 => ?_⟩
  obtain ⟨e6, h6⟩ := mke (K := K) (x := "NoSize") f6
  revert e6 h6
  generalize upd G5 a6 (ErA K "NoSize" none a6) = G6
  intro e6 h6
  refine ⟨sz (Nat.le_of_ble_eq_true rfl), fun q1 fq1 => ⟨G6, _, Wk.refl, ?_⟩⟩
  refine ⟨l1, fun a7 f7 => ?_⟩
  obtain ⟨e7, h7⟩ := mke (K := K) (x := "NoWay") f7
  revert e7 h7
  generalize upd G6 a7 (ErA K "NoWay" none a7) = G7
  intro e7 h7
  refine ⟨l1, fun a8 f8 => ?_⟩
  obtain ⟨e8, h8⟩ := mke (K := K) (x := "Over") f8
  revert e8 h8
  generalize upd G7 a8 (ErA K "Over" none a8) = G8
  intro e8 h8
  refine ⟨l1, fun a9 f9 => ?_⟩
  obtain ⟨e9, h9⟩ := mke (K := K) (x := "Unlike") f9
  revert e9 h9
  generalize upd G8 a9 (ErA K "Unlike" none a9) = G9
  intro e9 h9
  refine ⟨l1, fun a10 f10 => ?_⟩
  obtain ⟨e10, h10⟩ := mke (K := K) (x := "TooMany") f10
  revert e10 h10
  generalize upd G9 a10 (ErA K "TooMany" none a10) = G10
  intro e10 h10
  refine ⟨l1, fun a11 f11 => ?_⟩
  obtain ⟨e11, h11⟩ := mke (K := K) (x := "NoText") f11
  revert e11 h11
  generalize upd G10 a11 (ErA K "NoText" none a11) = G11
  intro e11 h11
  refine ⟨l1, fun a12 f12 => ?_⟩
  obtain ⟨e12, h12⟩ := mke (K := K) (x := "NoRow") f12
  revert e12 h12
  generalize upd G11 a12 (ErA K "NoRow" none a12) = G12
  intro e12 h12
  refine ⟨l1, fun a13 f13 => ?_⟩
  obtain ⟨e13, h13⟩ := mke (K := K) (x := "NoName") f13
  revert e13 h13
  generalize upd G12 a13 (ErA K "NoName" none a13) = G13
  intro e13 h13
  refine ⟨sz (Nat.le_of_ble_eq_true rfl), fun q2 fq2 => ⟨_, _, at_n (n := 1) rfl, at_n (n := 0) rfl, sz (Nat.le_of_ble_eq_true rfl), fun p3 f3 => ?_⟩⟩
  have k0 := h0.ex ((((((((((((e1.trans e2).trans e3).trans e4).trans e5).trans e6).trans e7).trans e8).trans e9).trans e10).trans e11).trans e12).trans e13)
  have k1 := h1.ex (((((((((((e2.trans e3).trans e4).trans e5).trans e6).trans e7).trans e8).trans e9).trans e10).trans e11).trans e12).trans e13)
  have k2 := h2.ex ((((((((((e3.trans e4).trans e5).trans e6).trans e7).trans e8).trans e9).trans e10).trans e11).trans e12).trans e13)
  have k3 := h3.ex (((((((((e4.trans e5).trans e6).trans e7).trans e8).trans e9).trans e10).trans e11).trans e12).trans e13)
  have k4 := h4.ex ((((((((e5.trans e6).trans e7).trans e8).trans e9).trans e10).trans e11).trans e12).trans e13)
  have k5 := h5.ex (((((((e6.trans e7).trans e8).trans e9).trans e10).trans e11).trans e12).trans e13)
  have k6 := h6.ex ((((((e7.trans e8).trans e9).trans e10).trans e11).trans e12).trans e13)
  have k7 := h7.ex (((((e8.trans e9).trans e10).trans e11).trans e12).trans e13)
  have k8 := h8.ex ((((e9.trans e10).trans e11).trans e12).trans e13)
  have k9 := h9.ex (((e10.trans e11).trans e12).trans e13)
  have k10 := h10.ex ((e11.trans e12).trans e13)
  have k11 := h11.ex (e12.trans e13)
  have k12 := h12.ex e13
  have k13 := h13.ex Ex.refl
  refine retW (Wk.drop1.trans Wk.drop1) (q p3 _ G13 (e0.trans ((((((((((((e1.trans e2).trans e3).trans e4).trans e5).trans e6).trans e7).trans e8).trans e9).trans e10).trans e11).trans e12).trans e13)) ⟨?_, ⟨_, rfl, k0⟩, ⟨_, rfl, k1⟩⟩)
  exact .cons k0.held (.cons k1.held (.cons k2 (.cons k3 (.cons k4 (.cons k5 (.cons k6 (.cons k7 (.cons k8 (.cons k9 (.cons k10 (.cons k11 (.cons k12 (.cons k13 (.nil))))))))))))))
theorem tb_NoDraws : ∀ c ∈ clsL, (c, decide (c = "NoDraws")) ∈ tab_is_NoDraws := by decide +kernel
theorem tb_NoProgram : ∀ c ∈ clsL, (c, decide (c = "NoProgram")) ∈ tab_is_NoProgram := by decide +kernel
theorem tb_NoOrder : ∀ c ∈ clsL, (c, decide (c = "NoOrder")) ∈ tab_is_NoOrder := by decide +kernel
theorem tb_NoNumber : ∀ c ∈ clsL, (c, decide (c = "NoNumber")) ∈ tab_is_NoNumber := by decide +kernel
theorem tb_NoRoom : ∀ c ∈ clsL, (c, decide (c = "NoRoom")) ∈ tab_is_NoRoom := by decide +kernel
theorem tb_NoAsk : ∀ c ∈ clsL, (c, decide (c = "NoAsk")) ∈ tab_is_NoAsk := by decide +kernel
theorem tb_NoSize : ∀ c ∈ clsL, (c, decide (c = "NoSize")) ∈ tab_is_NoSize := by decide +kernel
theorem tb_NoWay : ∀ c ∈ clsL, (c, decide (c = "NoWay")) ∈ tab_is_NoWay := by decide +kernel
theorem tb_Over : ∀ c ∈ clsL, (c, decide (c = "Over")) ∈ tab_is_Over := by decide +kernel
theorem tb_Unlike : ∀ c ∈ clsL, (c, decide (c = "Unlike")) ∈ tab_is_Unlike := by decide +kernel
theorem tb_TooMany : ∀ c ∈ clsL, (c, decide (c = "TooMany")) ∈ tab_is_TooMany := by decide +kernel
theorem tb_NoText : ∀ c ∈ clsL, (c, decide (c = "NoText")) ∈ tab_is_NoText := by decide +kernel
theorem tb_NoRow : ∀ c ∈ clsL, (c, decide (c = "NoRow")) ∈ tab_is_NoRow := by decide +kernel
theorem tb_NoName : ∀ c ∈ clsL, (c, decide (c = "NoName")) ∈ tab_is_NoName := by decide +kernel
theorem tb_TouchError : ∀ c ∈ clsL, (c, true) ∈ tab_is_TouchError := by decide +kernel
theorem tb_ValueError : ∀ c ∈ clsL, (c, true) ∈ tab_is_ValueError := by decide +kernel
theorem pf_law_kinds (h : S_law_kinds K vs G M R Z) : rd_law_kinds K (ends R Z) (sta 2 vs) G M := by
  obtain ⟨x, rfl, c, hc, ⟨a, d, rfl, h2, h3⟩, q⟩ := sp1_of h
  clear h
  have h3 : d = none ∨ ∃ dd fs, d = some dd ∧ At G [] dd (.xd fs) := h3.imp id fun ⟨dd, fs, h4, h5⟩ => ⟨dd, fs, h4, .inr h5⟩
  have h4 : ∀ M, d = none ∨ ∃ dd fs, d = some dd ∧ At G M dd (.xd fs) := fun M => h3.imp id fun ⟨dd, fs, h4, h5⟩ => ⟨dd, fs, h4, h5.elim (fun z => nomatch z) .inr⟩
  refine ⟨G, M, Wk.refl, ?_⟩
  refine ⟨rfl, (c, decide (c = "NoDraws")), tb_NoDraws c hc, d, .inr h2, h4 _, ?_⟩
  refine ⟨rfl, (c, decide (c = "NoProgram")), tb_NoProgram c hc, d, .inr h2, h4 _, ?_⟩
  refine ⟨rfl, (c, decide (c = "NoOrder")), tb_NoOrder c hc, d, .inr h2, h4 _, ?_⟩
  refine ⟨rfl, (c, decide (c = "NoNumber")), tb_NoNumber c hc, d, .inr h2, h4 _, ?_⟩
  refine ⟨sz (Nat.le_of_ble_eq_true rfl), fun p1 f1 => ⟨G, _, Wk.refl, ?_⟩⟩
  refine ⟨rfl, (c, decide (c = "NoRoom")), tb_NoRoom c hc, d, .inr h2, h4 _, ?_⟩
  refine ⟨rfl, (c, decide (c = "NoAsk")), tb_NoAsk c hc, d, .inr h2, h4 _, ?_⟩
  refine ⟨rfl, (c, decide (c = "NoSize")), tb_NoSize c hc, d, .inr h2, h4 _, ?_⟩
  refine ⟨rfl, (c, decide (c = "NoWay")), tb_NoWay c hc, d, .inr h2, h4 _, ?_⟩
  refine ⟨sz (Nat.le_of_ble_eq_true rfl), fun p2 f2 => ⟨_, _, at_n (n := 1) rfl, at_n (n := 0) rfl, sz (Nat.le_of_ble_eq_true rfl), fun p3 f3 => ⟨G, _, Wk.drop1.trans Wk.drop1, ?_⟩⟩⟩
  refine ⟨rfl, (c, decide (c = "Over")), tb_Over c hc, d, .inr h2, h4 _, ?_⟩
  refine ⟨rfl, (c, decide (c = "Unlike")), tb_Unlike c hc, d, .inr h2, h4 _, ?_⟩
  refine ⟨rfl, (c, decide (c = "TooMany")), tb_TooMany c hc, d, .inr h2, h4 _, ?_⟩
  refine ⟨rfl, (c, decide (c = "NoText")), tb_NoText c hc, d, .inr h2, h4 _, ?_⟩
  refine ⟨sz (Nat.le_of_ble_eq_true rfl), fun p4 f4 => ⟨_, _, at_n (n := 1) rfl, at_n (n := 0) rfl, sz (Nat.le_of_ble_eq_true rfl), fun p5 f5 => ⟨G, _, Wk.drop1.trans Wk.drop1, ?_⟩⟩⟩
  refine ⟨rfl, (c, decide (c = "NoRow")), tb_NoRow c hc, d, .inr h2, h4 _, ?_⟩
  refine ⟨rfl, (c, decide (c = "NoName")), tb_NoName c hc, d, .inr h2, h4 _, ?_⟩
  exact ⟨sz (Nat.le_of_ble_eq_true rfl), fun p6 f6 => ⟨_, _, at_n (n := 1) rfl, at_n (n := 0) rfl, sz (Nat.le_of_ble_eq_true rfl), fun p7 f7 => retW (Wk.drop1.trans Wk.drop1) (q p7)⟩⟩
theorem pf_law_thing (h : S_law_thing K vs G M R Z) : rd_law_thing K (ends R Z) (sta 1 vs) G M := by
  obtain ⟨_, rfl, p, n, c, s, rfl, hn, hs, q⟩ := sp1_of h
  clear h
  refine ⟨G, M, Wk.refl, p, 4, n, c, s, rfl, rfl, hn, hs, by decide, by decide, fun r c1 s1 r0 r1 hs1 => ?_⟩
  refine ite2' (c := decide (V.int r = .int 0)) (fun e => ⟨G, _, Wk.refl, ret0 (q .non c1 s1 (.inl rfl) hs1)⟩) (fun e => ?_)
  refine ⟨G, _, Wk.refl, ⟨by decide, by decide⟩, p, 10 ^ 9, n, c1, s1, rfl, rfl, set_n hn, hs1, by decide, by decide, fun r2 c2 s2 r20 r21 hs2 => ?_⟩
  rw [List.set_set]
  have h9 : (10 : Int) ^ 9 < 10 ^ 20 := by decide
  exact ret0 (q (.int r2) c2 s2 (.inr ⟨r2, rfl, r20, Int.lt_trans r21 h9⟩) hs2)
end
section
variable {K : PySem.W.Frag} {vs : List V} {G : Hp} {M : Mem} {R : KR} {Z : KX}
theorem asg_R {lo v : Int} {n i : Nat} {g : KG} {σ : St} {R : St → Hp → Mem → Prop} (e : lo + (i : Nat) = v) (q : g.val (.int v) σ G M R) : asg g ((srcR lo n).get i) σ G M R := by subst e; exact q
theorem eq_ref {a b : Addr} {d : PyData} {n : Nat} {neg : Bool} (ha : DatAt K G M (.ref a) d) (hb : DatAt K G M (.ref b) d) (sh : Shp n d) (hn : n ≤ 64) (q : R (.bl (!neg)) G M) : kEqv neg K (.ref a) (.ref b) G M R := by
  refine ⟨d, d, ha, hb, sh.shaped hn, sh.shaped hn, ?_⟩
  rw [sh.refl]
  cases neg <;> exact q
def thD : V → PyData
  | .int i => .int i
  | _ => .none
theorem ThV.dat {v : V} (h : ThV v) : DatAt K G M v (thD v) := by
  rcases h with rfl | ⟨i, rfl, _, _⟩
  · exact dat_non
  · exact dat_int
theorem ThV.sho {v : V} (h : ThV v) : Sho 0 70 (thD v) := by
  rcases h with rfl | ⟨i, rfl, h0, h1⟩
  · exact sho_non.up (Nat.le_refl _) (by decide)
  · exact sho_int h0 h1
theorem two_repr {p : Addr} {y z : V} (hp : LstAt K G M p [y, z]) (hy : ThV y) (hz : ThV z) : DatAt K G M (.ref p) (.list [thD y, thD z]) ∧ (PyData.list [thD y, thD z]).showable = true ∧ (PyData.list [thD y, thD z]).hasDict = false ∧ (PyData.list [thD y, thD z]).depth ≤ 30 ∧ (PyData.list [thD y, thD z]).shown.length ≤ sizeLine := by
  have s : Sho 1 142 (.list [thD y, thD z]) := (sho_list (p := 0) (w := 70) fun d hd => by
    simp only [List.mem_cons, List.not_mem_nil, or_false] at hd
    rcases hd with rfl | rfl
    · exact hy.sho
    · exact hz.sho).up (Nat.le_refl _) (by simp)
  exact ⟨dat_list hp (dats_cons hy.dat (dats_cons hz.dat dats_nil)), s.s, s.n, Nat.le_trans s.p (by decide), Nat.le_trans (PyData.shown_le 25 (by decide) _ s.l) (Nat.le_trans (Nat.add_le_add_right (Nat.mul_le_mul_left _ s.w) _) (by decide))⟩
theorem dats_bls : ∀ bs : List Bool, DatAll K G M (bs.map V.bl) (bs.map PyData.bool)
  | [] => dats_nil
  | b :: bs => dats_cons dat_bl (dats_bls bs)
theorem shp_bls (bs : List Bool) : Shp 2 (.list (bs.map PyData.bool)) := .list fun d hd => by
  obtain ⟨b, _, rfl⟩ := List.mem_map.mp hd
  exact .bl
theorem cls_row : ∀ k, k < 14 → (List.range 14).map (fun j => decide (j = k)) = clsL.map (fun y => decide (clsL.getD k "" = y)) := by decide +kernel
theorem pf_law_right (h : S_law_right K vs G M R Z) : rd_law_right K (ends R Z) (sta 5 vs) G M := by
  obtain ⟨_, y, z, rfl, p, us, rfl, hp, hm, hy, hz, q⟩ := sp3_of h
  clear h
  have hul : us.length = 14 := hm.h.len
  refine ⟨G, M, Wk.refl, ⟨by decide, by decide⟩, fun i σ G' M' => ∃ y3, σ = [some (.ref p), some y, some z, y3, none] ∧ G' = G ∧ M' = M, ⟨none, rfl, rfl, rfl⟩, fun _ _ _ _ _ _ => trivial, ?_, ?_⟩
  · rintro i σ G' M' hi ⟨y3, rfl, hG, hM⟩
    subst hG
    subst hM
    have hi : i < 14 := hi
    refine asg_R (v := (i : Int)) (by omega) ?_
    obtain ⟨c, hc⟩ : ∃ c, clsL[i]? = some c := ⟨_, List.getElem?_eq_getElem (by show i < 14; exact hi)⟩
    obtain ⟨v, hv, hh⟩ := hm.h.get hc
    have hcm := List.mem_of_getElem? hc
    obtain ⟨a, d, rfl, h2, h3⟩ := id hh
    have h4 : ∀ M, d = none ∨ ∃ dd fs, d = some dd ∧ At G' M dd (.xd fs) := fun M => h3.imp id fun ⟨dd, fs, h4, h5⟩ => ⟨dd, fs, h4, .inr h5⟩
    refine ⟨G', M', Wk.refl, us, .ref a, .inl hp, atI_nat hv, rfl, (c, true), tb_TouchError c hcm, d, .inr h2, h4 _, ?_⟩
    refine ⟨us, .ref a, .inl hp, atI_nat hv, rfl, (c, true), tb_ValueError c hcm, d, .inr h2, h4 _, ?_⟩
    refine ⟨G', M', Wk.refl, us, .ref a, .inl hp, atI_nat hv, c, hcm, hh, fun p1 => ?_⟩
    refine ⟨⟨by decide, by decide⟩, by decide, fun k acc G2 M2 => G2 = G' ∧ M2 = (p1, .lst (clsL.map fun y => V.bl (decide (c = y)))) :: M' ∧ acc = ((List.range k).map fun j => decide (j = i)).map V.bl, ⟨rfl, rfl, rfl⟩, fun _ _ _ _ _ _ => trivial, ?_, ?_⟩
    · rintro k acc G2 M2 X hk _ ⟨hG, hM, rfl⟩ fX
      subst hG
      subst hM
      refine asg_R (v := (k : Int)) (by omega) ⟨rfl, G2, _, Wk.refl, rfl, rfl, ?_⟩
      rw [List.range_succ, List.map_append, List.map_append]
      show _ ++ [V.bl (decide (V.int (k : Nat) = V.int (i : Nat)))] = _ ++ [V.bl (decide (k = i))]
      have : decide (V.int (k : Nat) = V.int (i : Nat)) = decide (k = i) := by
        rw [Bool.eq_iff_iff, decide_eq_true_iff, decide_eq_true_iff]
        exact ⟨fun e => by have := V.int.inj e; omega, fun e => by rw [e]⟩
      rw [this]
    · rintro acc G2 M2 p2 ⟨hG, hM, rfl⟩ _ fp2
      subst hG
      subst hM
      have en : (srcR 0 (14 : Int).toNat).n = 14 := rfl
      have e1 : ((List.range 14).map fun j => decide (j = i)).map V.bl = clsL.map fun y => V.bl (decide (c = y)) := by
        rw [cls_row i hi, List.map_map, List.getD_eq_getElem?_getD, hc]; rfl
      refine eq_ref (neg := true) (d := .list ((clsL.map fun y => decide (c = y)).map PyData.bool)) (n := 2) (dat_list (lat_n (n := 1) (xs := (clsL.map fun y => decide (c = y)).map V.bl) (by rw [List.map_map]; rfl)) (dats_bls _)) (dat_list (lat_n (n := 0) (xs := (clsL.map fun y => decide (c = y)).map V.bl) ?_) (dats_bls _)) (shp_bls _) (by decide) ?_
      · show some (p2, HO.lst (((List.range 14).map fun j => decide (j = i)).map V.bl)) = _
        rw [e1, List.map_map]; rfl
      · exact ⟨G2, M', Wk.drop0.trans Wk.drop0, _, rfl, rfl, rfl⟩
  · rintro σ G' M' ⟨y3, rfl, hG, hM⟩
    subst hG
    subst hM
    obtain ⟨v0, hv0, a0, d0, rfl, g1, g2⟩ := hm.a1
    obtain ⟨v1, hv1, a1, d1, rfl, k1, k2⟩ := hm.a2
    refine ⟨G', M', Wk.refl, us, .ref a0, .inl hp, atI_nat (j := 0) hv0, "NoDraws", by decide, a0, d0, y, rfl, .inr g1, .inr g2, ?_⟩
    refine ⟨us, .ref a1, .inl hp, atI_nat (j := 1) hv1, "NoProgram", by decide, a1, d1, z, rfl, .inr k1, .inr k2, ?_⟩
    refine ⟨sz2, fun l1 fl1 => ?_⟩
    obtain ⟨w1, w2, w3, w4, w5⟩ := two_repr (K := K) (G := G') (M := (l1, .lst [y, z]) :: M') lat_0 hy hz
    refine ⟨_, w1, w2, w3, w4, w5, ?_⟩
    refine ⟨sz2, fun l2 fl2 => ?_⟩
    obtain ⟨w1, w2, w3, w4, w5⟩ := two_repr (K := K) (G := G') (M := (l2, .lst [y, z]) :: (l1, .lst [y, z]) :: M') lat_0 hy hz
    refine ⟨_, w1, w2, w3, w4, w5, ?_⟩
    show wkR R (.bl (decide (V.str (PyData.list [thD y, thD z]).shown = .str (PyData.list [thD y, thD z]).shown))) _ _
    rw [decide_eq_true rfl]
    exact retW (Wk.drop0.trans Wk.drop0) q
theorem pf_law (h : S_law K vs G M R Z) : rd_law K (ends R Z) (sta 10 vs) G M := by
  obtain ⟨_, rfl, a, ns, rfl, hS, hl, q⟩ := sp1_of h
  clear h
  have th0 : ThV (.int 0) := .inr ⟨0, rfl, by decide, by decide⟩
  have th3 : ThV (.int 3) := .inr ⟨3, rfl, by decide, by decide⟩
  refine ⟨G, [], Wk.nil', fun pa ua G1 e1 hma => ?_⟩
  have hS1 := ex_l e1 hS
  refine ⟨G1, _, Wk.refl, _, lst_g hS1, ⟨by omega, by omega⟩, fun i σ G' M' => ∃ y2 y3 y4 y5 y6 y7 y8, σ = [some (.ref a), some (.ref pa), y2, y3, y4, y5, y6, y7, y8, none] ∧ Ex G1 G' ∧ M' = [(pa, .lst ua)], ⟨none, none, none, none, none, none, none, rfl, Ex.refl, rfl⟩, fun _ _ _ _ _ _ => trivial, ?_, ?_⟩
  · rintro i σ G' M' hi ⟨y2, y3, y4, y5, y6, y7, y8, rfl, ex, rfl⟩
    have hi : i < (min ((ns.map V.int).length : Int) 20 + 1).toNat := hi
    refine asg_R (v := (i : Int)) (by omega) ?_
    refine ⟨G', _, Wk.refl, a, ns, i, rfl, rfl, ex_l ex hS1, by omega, by omega, hl, fun p c s fp hs => ?_⟩
    refine ⟨G', _, Wk.refl, ⟨_, rfl⟩, p, 9, 0, c, s, rfl, rfl, rfl, hs, by decide, by decide, fun r c s r0 r1 hs => ?_⟩
    refine ⟨⟨by omega, by omega⟩, sz (by show r.toNat ≤ _; omega), fun k acc G2 M2 => ∃ (ys : List Str) (c s : Int), G2 = G' ∧ M2 = [(p, pool c s), (pa, .lst ua)] ∧ acc = ys.map V.str ∧ ys.length = k ∧ (ys.map (·.length)).sum = k ∧ PoolOk s, ⟨[], c, s, rfl, rfl, rfl, rfl, rfl, hs⟩, fun _ _ _ _ _ _ => trivial, ?_, ?_⟩
    · rintro k acc G2 M2 X hk _ ⟨ys, c, s, hG, rfl, rfl, hyl, hys, hs⟩ fX
      subst hG
      refine asg_R (v := (k : Int)) (by omega) ⟨rfl, p, 26, 1, c, s, rfl, rfl, rfl, hs, by decide, by decide, fun r2 c2 s2 r20 r21 hs2 => ?_⟩
      obtain ⟨j, rfl⟩ := Int.eq_ofNat_of_zero_le r20
      have hl26 : ("abcdefghijklmnopqrstuvwxyz" : Str).cps.toList.length = 26 := by decide +kernel
      have hl26' : ("abcdefghijklmnopqrstuvwxyz" : Str).length ≤ sizeLine := by decide +kernel
      refine ⟨("abcdefghijklmnopqrstuvwxyz" : Str).cps.toList[j]'(by omega), hl26', atI_nat (List.getElem?_eq_getElem (by omega)), G2, [(p, pool c2 s2), (pa, .lst ua)], Wk.refl, ys ++ [_], c2, s2, rfl, rfl, by rw [List.map_append]; rfl, by rw [List.length_append, hyl]; rfl, ?_, hs2⟩
      rw [List.map_append, List.sum_append, hys]; rfl
    · rintro acc G2 M2 tq ⟨ys, c, s, hG, rfl, rfl, hyl, hys, hs⟩ _ ftq
      subst hG
      have en : (srcR 0 r.toNat).n = r.toNat := rfl
      rw [en] at hyl hys
      refine ⟨ys, .inl lat_0, by rw [hys, show ("" : Str).length = 0 from rfl, Nat.mul_zero]; omega, ?_⟩
      refine ⟨G2, [(p, pool c s), (pa, .lst ua)], Wk.drop0, p, 0, c, s, rfl, rfl, hs, fun v1 c s hv1 hs => ?_⟩
      refine ⟨G2, [(p, pool c s), (pa, .lst ua)], Wk.refl, p, 0, c, s, rfl, rfl, hs, fun v2 c s hv2 hs => ?_⟩
      refine ⟨G2, [(pa, .lst ua)], Wk.drop0, fun ps uss G3 e3 hm3 => ?_⟩
      refine ⟨G3, [(ps, .lst uss), (pa, .lst ua)], Wk.refl, fun pb ub G4 e4 hm4 => ?_⟩
      refine ⟨G4, [(pb, .lst ub), (ps, .lst uss), (pa, .lst ua)], Wk.refl, ps, uss, rfl, lat_n (n := 1) rfl, hm3.ex e4, hv1, hv2, ?_⟩
      refine ⟨pb, ub, rfl, lat_0, hm4, th3, .inl rfl, ?_⟩
      refine ⟨ps, uss, rfl, lat_n (n := 1) rfl, hm3.ex e4, hv1, hv2, ?_⟩
      exact ⟨G4, [(pa, .lst ua)], Wk.drop0.trans Wk.drop0, _, _, _, _, _, _, _, rfl, ex.trans (e3.trans e4), rfl⟩
  · rintro σ G' M' ⟨y2, y3, y4, y5, y6, y7, y8, rfl, ex, rfl⟩
    exact ⟨G', _, Wk.refl, pa, ua, rfl, lat_0, hma.ex ex, .inl rfl, th0, ret0 (q _ _)⟩
end
def topS (i : Nat) : Stmt := PySem.Challenge.pw_blindtouch_k06_refusals_apart.main.body.getD i (.Pass ⟨0, 0, 0, 0⟩)
structure Bs (mg : Str → Option Value) : Prop where
  ValueError : mg "ValueError" = none
  isinstance : mg "isinstance" = none
  len : mg "len" = none
  min : mg "min" = none
  range : mg "range" = none
  repr : mg "repr" = none
structure Cs (K : PySem.W.Frag) (mg : Str → Option Value) : Prop where
  g_TouchError : XG K mg "TouchError"
  g_NoDraws : XG K mg "NoDraws"
  g_NoProgram : XG K mg "NoProgram"
  g_NoOrder : XG K mg "NoOrder"
  g_NoNumber : XG K mg "NoNumber"
  g_NoRoom : XG K mg "NoRoom"
  g_NoAsk : XG K mg "NoAsk"
  g_NoSize : XG K mg "NoSize"
  g_NoWay : XG K mg "NoWay"
  g_Over : XG K mg "Over"
  g_Unlike : XG K mg "Unlike"
  g_TooMany : XG K mg "TooMany"
  g_NoText : XG K mg "NoText"
  g_NoRow : XG K mg "NoRow"
  g_NoName : XG K mg "NoName"
  r_NoOrder : XR K "NoOrder"
  r_NoNumber : XR K "NoNumber"
  r_NoRoom : XR K "NoRoom"
  r_NoAsk : XR K "NoAsk"
  r_NoSize : XR K "NoSize"
  r_NoWay : XR K "NoWay"
  r_Over : XR K "Over"
  r_Unlike : XR K "Unlike"
  r_TooMany : XR K "TooMany"
  r_NoText : XR K "NoText"
  r_NoRow : XR K "NoRow"
  r_NoName : XR K "NoName"
  i_NoDraws : XI K "NoDraws"
  i_NoProgram : XI K "NoProgram"
  b_TouchError : XB K mg "TouchError"
  x_at : ∀ x ∈ tab_at, XI K x
  n_NoAsk : PySem.W.kitOne K (.type "NoneType") (.ref (cl K "NoAsk")) = some false
  j_NoAsk : ∀ p ∈ tab_is_NoAsk, ExcC K (cl K p.1) ∧ PySem.W.kitOne K (.ref (cl K p.1)) (.ref (cl K "NoAsk")) = some p.2
  n_NoDraws : PySem.W.kitOne K (.type "NoneType") (.ref (cl K "NoDraws")) = some false
  j_NoDraws : ∀ p ∈ tab_is_NoDraws, ExcC K (cl K p.1) ∧ PySem.W.kitOne K (.ref (cl K p.1)) (.ref (cl K "NoDraws")) = some p.2
  n_NoName : PySem.W.kitOne K (.type "NoneType") (.ref (cl K "NoName")) = some false
  j_NoName : ∀ p ∈ tab_is_NoName, ExcC K (cl K p.1) ∧ PySem.W.kitOne K (.ref (cl K p.1)) (.ref (cl K "NoName")) = some p.2
  n_NoNumber : PySem.W.kitOne K (.type "NoneType") (.ref (cl K "NoNumber")) = some false
  j_NoNumber : ∀ p ∈ tab_is_NoNumber, ExcC K (cl K p.1) ∧ PySem.W.kitOne K (.ref (cl K p.1)) (.ref (cl K "NoNumber")) = some p.2
  n_NoOrder : PySem.W.kitOne K (.type "NoneType") (.ref (cl K "NoOrder")) = some false
  j_NoOrder : ∀ p ∈ tab_is_NoOrder, ExcC K (cl K p.1) ∧ PySem.W.kitOne K (.ref (cl K p.1)) (.ref (cl K "NoOrder")) = some p.2
  n_NoProgram : PySem.W.kitOne K (.type "NoneType") (.ref (cl K "NoProgram")) = some false
  j_NoProgram : ∀ p ∈ tab_is_NoProgram, ExcC K (cl K p.1) ∧ PySem.W.kitOne K (.ref (cl K p.1)) (.ref (cl K "NoProgram")) = some p.2
  n_NoRoom : PySem.W.kitOne K (.type "NoneType") (.ref (cl K "NoRoom")) = some false
  j_NoRoom : ∀ p ∈ tab_is_NoRoom, ExcC K (cl K p.1) ∧ PySem.W.kitOne K (.ref (cl K p.1)) (.ref (cl K "NoRoom")) = some p.2
  n_NoRow : PySem.W.kitOne K (.type "NoneType") (.ref (cl K "NoRow")) = some false
  j_NoRow : ∀ p ∈ tab_is_NoRow, ExcC K (cl K p.1) ∧ PySem.W.kitOne K (.ref (cl K p.1)) (.ref (cl K "NoRow")) = some p.2
  n_NoSize : PySem.W.kitOne K (.type "NoneType") (.ref (cl K "NoSize")) = some false
  j_NoSize : ∀ p ∈ tab_is_NoSize, ExcC K (cl K p.1) ∧ PySem.W.kitOne K (.ref (cl K p.1)) (.ref (cl K "NoSize")) = some p.2
  n_NoText : PySem.W.kitOne K (.type "NoneType") (.ref (cl K "NoText")) = some false
  j_NoText : ∀ p ∈ tab_is_NoText, ExcC K (cl K p.1) ∧ PySem.W.kitOne K (.ref (cl K p.1)) (.ref (cl K "NoText")) = some p.2
  n_NoWay : PySem.W.kitOne K (.type "NoneType") (.ref (cl K "NoWay")) = some false
  j_NoWay : ∀ p ∈ tab_is_NoWay, ExcC K (cl K p.1) ∧ PySem.W.kitOne K (.ref (cl K p.1)) (.ref (cl K "NoWay")) = some p.2
  n_Over : PySem.W.kitOne K (.type "NoneType") (.ref (cl K "Over")) = some false
  j_Over : ∀ p ∈ tab_is_Over, ExcC K (cl K p.1) ∧ PySem.W.kitOne K (.ref (cl K p.1)) (.ref (cl K "Over")) = some p.2
  n_TooMany : PySem.W.kitOne K (.type "NoneType") (.ref (cl K "TooMany")) = some false
  j_TooMany : ∀ p ∈ tab_is_TooMany, ExcC K (cl K p.1) ∧ PySem.W.kitOne K (.ref (cl K p.1)) (.ref (cl K "TooMany")) = some p.2
  n_TouchError : PySem.W.kitOne K (.type "NoneType") (.ref (cl K "TouchError")) = some false
  j_TouchError : ∀ p ∈ tab_is_TouchError, ExcC K (cl K p.1) ∧ PySem.W.kitOne K (.ref (cl K p.1)) (.ref (cl K "TouchError")) = some p.2
  n_Unlike : PySem.W.kitOne K (.type "NoneType") (.ref (cl K "Unlike")) = some false
  j_Unlike : ∀ p ∈ tab_is_Unlike, ExcC K (cl K p.1) ∧ PySem.W.kitOne K (.ref (cl K p.1)) (.ref (cl K "Unlike")) = some p.2
  n_ValueError : PySem.W.kitOne K (.type "NoneType") (.type "ValueError") = some false
  j_ValueError : ∀ p ∈ tab_is_ValueError, ExcC K (cl K p.1) ∧ PySem.W.kitOne K (.ref (cl K p.1)) (.type "ValueError") = some p.2
abbrev s_NoProgram_init : Stmt := inClass (topS 3) 0
abbrev N_NoProgram_init : List Str := ["self", "at"]
theorem sc_NoProgram_init : FnScope N_NoProgram_init ["self", "at"] (defScope s_NoProgram_init) := ⟨rfl, rfl, rfl, by decide +kernel, rfl, by decide +kernel, by decide +kernel⟩
theorem fo_NoProgram_init {P : Program} {w : World} {K : PySem.W.Frag} {mg : Str → Option Value} {base : Heap} {f : Addr} {fd : FuncData} (B : Bs mg) (C : Cs K mg) (F : Fun K "__init__" "NoProgram.__init__" s_NoProgram_init f fd)  :
    FnOk P w K mg base (L2.CX P w) 1 f fd ["self", "at"] (lift (S_NoProgram_init K)) := by
  refine fn_ok F sc_NoProgram_init (fun vs G M R Z h => sp_len2 h) (fun cdv A outer s H E hr => ?_)
  have nd : N_NoProgram_init.Nodup := sc_NoProgram_init.nd
  have hu : _ + 64 < cLine := hr.units
  have tk : Takes (cxOf (L2.CX P w) P w K mg base N_NoProgram_init "NoProgram.__init__" (defScope s_NoProgram_init) f cdv A outer s H E) (fun c d _ H => E c d H) := takes_of rfl rfl rfl rfl
  have po : PassesOwn (model P w) _ _ _ := passes_of (X := cxOf (L2.CX P w) P w K mg base N_NoProgram_init "NoProgram.__init__" (defScope s_NoProgram_init) f cdv A outer s H E) rfl
  exact ⟨rd_NoProgram_init K, jss_cons (js_expr (je_veI C.i_NoProgram.T C.b_TouchError (ja_cons (je_var 0) (ja_cons (je_str) (ja_nil))))) (jss_cons (js_setAt C.i_NoProgram (je_var 0) (je_var 1)) (jss_nil)), fun vs G M R Z h => pf_NoProgram_init h⟩
abbrev s_NoDraws_init : Stmt := inClass (topS 2) 0
abbrev N_NoDraws_init : List Str := ["self", "at"]
theorem sc_NoDraws_init : FnScope N_NoDraws_init ["self", "at"] (defScope s_NoDraws_init) := ⟨rfl, rfl, rfl, by decide +kernel, rfl, by decide +kernel, by decide +kernel⟩
theorem fo_NoDraws_init {P : Program} {w : World} {K : PySem.W.Frag} {mg : Str → Option Value} {base : Heap} {f : Addr} {fd : FuncData} (B : Bs mg) (C : Cs K mg) (F : Fun K "__init__" "NoDraws.__init__" s_NoDraws_init f fd)  :
    FnOk P w K mg base (L2.CX P w) 1 f fd ["self", "at"] (lift (S_NoDraws_init K)) := by
  refine fn_ok F sc_NoDraws_init (fun vs G M R Z h => sp_len2 h) (fun cdv A outer s H E hr => ?_)
  have nd : N_NoDraws_init.Nodup := sc_NoDraws_init.nd
  have hu : _ + 64 < cLine := hr.units
  have tk : Takes (cxOf (L2.CX P w) P w K mg base N_NoDraws_init "NoDraws.__init__" (defScope s_NoDraws_init) f cdv A outer s H E) (fun c d _ H => E c d H) := takes_of rfl rfl rfl rfl
  have po : PassesOwn (model P w) _ _ _ := passes_of (X := cxOf (L2.CX P w) P w K mg base N_NoDraws_init "NoDraws.__init__" (defScope s_NoDraws_init) f cdv A outer s H E) rfl
  exact ⟨rd_NoDraws_init K, jss_cons (js_expr (je_veI C.i_NoDraws.T C.b_TouchError (ja_cons (je_var 0) (ja_cons (je_str) (ja_nil))))) (jss_cons (js_setAt C.i_NoDraws (je_var 0) (je_var 1)) (jss_nil)), fun vs G M R Z h => pf_NoDraws_init h⟩
abbrev s_law_made : Stmt := topS 20
abbrev N_law_made : List Str := ["_law_text", "_law_one", "_law_other", "_law_some"]
theorem sc_law_made : FnScope N_law_made ["_law_text", "_law_one", "_law_other"] (defScope s_law_made) := ⟨rfl, rfl, rfl, by decide +kernel, rfl, by decide +kernel, by decide +kernel⟩
theorem fo_law_made {P : Program} {w : World} {K : PySem.W.Frag} {mg : Str → Option Value} {base : Heap} {f : Addr} {fd : FuncData} (B : Bs mg) (C : Cs K mg) (F : Fun K "_law_made" "_law_made" s_law_made f fd) (I_NoProgram : IDef P w K mg base 1 "NoProgram") (I_NoDraws : IDef P w K mg base 1 "NoDraws") :
    FnOk P w K mg base (L2.CX P w) 3 f fd ["_law_text", "_law_one", "_law_other"] (lift (S_law_made K)) := by
  refine fn_ok F sc_law_made (fun vs G M R Z h => sp_len3 h) (fun cdv A outer s H E hr => ?_)
  have nd : N_law_made.Nodup := sc_law_made.nd
  have hu : _ + 64 < cLine := hr.units
  have tk : Takes (cxOf (L2.CX P w) P w K mg base N_law_made "_law_made" (defScope s_law_made) f cdv A outer s H E) (fun c d _ H => E c d H) := takes_of rfl rfl rfl rfl
  have po : PassesOwn (model P w) _ _ _ := passes_of (X := cxOf (L2.CX P w) P w K mg base N_law_made "_law_made" (defScope s_law_made) f cdv A outer s H E) rfl
  exact ⟨rd_law_made K, jss_cons (js_set (i := 3) (je_lst (ja_cons (je_mkX C.g_NoDraws C.i_NoDraws I_NoDraws hr (ja_cons (je_var 1) (ja_nil))) (ja_cons (je_mkX C.g_NoProgram C.i_NoProgram I_NoProgram hr (ja_cons (je_var 2) (ja_nil))) (ja_cons (je_mkE C.g_NoOrder C.r_NoOrder (ja_cons (je_var 0) (ja_nil))) (ja_cons (je_mkE C.g_NoNumber C.r_NoNumber (ja_cons (je_var 0) (ja_nil))) (ja_cons (je_mkE C.g_NoRoom C.r_NoRoom (ja_cons (je_var 0) (ja_nil))) (ja_cons (je_mkE C.g_NoAsk C.r_NoAsk (ja_cons (je_var 0) (ja_nil))) (ja_cons (je_mkE C.g_NoSize C.r_NoSize (ja_cons (je_var 0) (ja_nil))) (ja_nil))))))))) nd) (jss_cons (js_ret (je_op kop_add (je_var 3) (je_lst (ja_cons (je_mkE C.g_NoWay C.r_NoWay (ja_cons (je_var 0) (ja_nil))) (ja_cons (je_mkE C.g_Over C.r_Over (ja_cons (je_var 0) (ja_nil))) (ja_cons (je_mkE C.g_Unlike C.r_Unlike (ja_cons (je_var 0) (ja_nil))) (ja_cons (je_mkE C.g_TooMany C.r_TooMany (ja_cons (je_var 0) (ja_nil))) (ja_cons (je_mkE C.g_NoText C.r_NoText (ja_cons (je_var 0) (ja_nil))) (ja_cons (je_mkE C.g_NoRow C.r_NoRow (ja_cons (je_var 0) (ja_nil))) (ja_cons (je_mkE C.g_NoName C.r_NoName (ja_cons (je_var 0) (ja_nil))) (ja_nil))))))))))) (jss_nil)), fun vs G M R Z h => pf_law_made h⟩
theorem df_law_made {P : Program} {w : World} {K : PySem.W.Frag} {mg : Str → Option Value} {base : Heap} {f : Addr} {fd : FuncData} (B : Bs mg) (C : Cs K mg) (F : Fun K "_law_made" "_law_made" s_law_made f fd) (b : Binds K fd ["_law_text", "_law_one", "_law_other"] []) (gm : mg "_law_made" = some (.ref f)) (I_NoProgram : IDef P w K mg base 1 "NoProgram") (I_NoDraws : IDef P w K mg base 1 "NoDraws") :
    Def P w K mg base 3 "_law_made" ["_law_text", "_law_one", "_law_other"] (S_law_made K) := ⟨f, fd, fo_law_made B C F I_NoProgram I_NoDraws, gm, F.kp, b⟩
abbrev s_law_pool : Stmt := topS 17
abbrev N_law_pool : List Str := ["_law_script", "_law_k", "_law_cell", "_law_seed"]
theorem sc_law_pool : FnScope N_law_pool ["_law_script", "_law_k"] (defScope s_law_pool) := ⟨rfl, rfl, rfl, by decide +kernel, rfl, by decide +kernel, by decide +kernel⟩
theorem fo_law_pool {P : Program} {w : World} {K : PySem.W.Frag} {mg : Str → Option Value} {base : Heap} {f : Addr} {fd : FuncData} (B : Bs mg) (C : Cs K mg) (F : Fun K "_law_pool" "_law_pool" s_law_pool f fd)  :
    FnOk P w K mg base (L2.CX P w) 1 f fd ["_law_script", "_law_k"] (lift (S_law_pool K)) := by
  refine fn_ok F sc_law_pool (fun vs G M R Z h => sp_len2 h) (fun cdv A outer s H E hr => ?_)
  have nd : N_law_pool.Nodup := sc_law_pool.nd
  have hu : _ + 64 < cLine := hr.units
  have tk : Takes (cxOf (L2.CX P w) P w K mg base N_law_pool "_law_pool" (defScope s_law_pool) f cdv A outer s H E) (fun c d _ H => E c d H) := takes_of rfl rfl rfl rfl
  have po : PassesOwn (model P w) _ _ _ := passes_of (X := cxOf (L2.CX P w) P w K mg base N_law_pool "_law_pool" (defScope s_law_pool) f cdv A outer s H E) rfl
  exact ⟨rd_law_pool K, jss_cons (js_set (i := 2) (je_int) nd) (jss_cons (js_if (jt_cmp (kop_lt) (je_var 1) (je_callB kc_len B.len (ja_cons (je_var 0) (ja_nil))) (nomark _)) (jss_cons (js_set (i := 2) (je_ix (je_var 0) (je_var 1)) nd) (jss_nil)) (jss_nil)) (jss_cons (js_set (i := 3) (je_op kop_mod (je_op kop_mul (je_op kop_add (je_op kop_add (je_op kop_mod (je_var 2) (je_int)) (je_op kop_mul (je_op kop_mul (je_int) (je_var 1)) (je_var 1))) (je_int)) (je_int)) (je_int)) nd) (jss_cons (js_if (jt_cmp (kop_lt) (je_var 2) (je_op kop_pow (je_int) (je_int)) (nomark _)) (jss_cons (js_set (i := 2) (je_int) nd) (jss_nil)) (jss_nil)) (jss_cons (js_ret (je_lst (ja_cons (je_var 2) (ja_cons (je_var 3) (ja_nil))))) (jss_nil))))), fun vs G M R Z h => pf_law_pool h⟩
theorem df_law_pool {P : Program} {w : World} {K : PySem.W.Frag} {mg : Str → Option Value} {base : Heap} {f : Addr} {fd : FuncData} (B : Bs mg) (C : Cs K mg) (F : Fun K "_law_pool" "_law_pool" s_law_pool f fd) (b : Binds K fd ["_law_script", "_law_k"] []) (gm : mg "_law_pool" = some (.ref f))  :
    Def P w K mg base 1 "_law_pool" ["_law_script", "_law_k"] (S_law_pool K) := ⟨f, fd, fo_law_pool B C F , gm, F.kp, b⟩
abbrev s_law_take : Stmt := topS 18
abbrev N_law_take : List Str := ["_law_pool_here", "_law_many", "_law_found"]
theorem sc_law_take : FnScope N_law_take ["_law_pool_here", "_law_many"] (defScope s_law_take) := ⟨rfl, rfl, rfl, by decide +kernel, rfl, by decide +kernel, by decide +kernel⟩
theorem fo_law_take {P : Program} {w : World} {K : PySem.W.Frag} {mg : Str → Option Value} {base : Heap} {f : Addr} {fd : FuncData} (B : Bs mg) (C : Cs K mg) (F : Fun K "_law_take" "_law_take" s_law_take f fd)  :
    FnOk P w K mg base (L2.CX P w) 1 f fd ["_law_pool_here", "_law_many"] (lift (S_law_take K)) := by
  refine fn_ok F sc_law_take (fun vs G M R Z h => sp_len2 h) (fun cdv A outer s H E hr => ?_)
  have nd : N_law_take.Nodup := sc_law_take.nd
  have hu : _ + 64 < cLine := hr.units
  have tk : Takes (cxOf (L2.CX P w) P w K mg base N_law_take "_law_take" (defScope s_law_take) f cdv A outer s H E) (fun c d _ H => E c d H) := takes_of rfl rfl rfl rfl
  have po : PassesOwn (model P w) _ _ _ := passes_of (X := cxOf (L2.CX P w) P w K mg base N_law_take "_law_take" (defScope s_law_take) f cdv A outer s H E) rfl
  exact ⟨rd_law_take K, jss_cons (js_if (jt_cmp (kop_gt) (je_ix (je_var 0) (je_int)) (je_int) (nomark _)) (jss_cons (js_set (i := 2) (je_op kop_mod (je_ix (je_var 0) (je_int)) (je_var 1)) nd) (jss_cons (js_asg (je_op kop_fdiv (je_ix (je_var 0) (je_int)) (je_var 1)) (jg_ix (je_var 0) (je_int))) (jss_cons (js_ret (je_var 2)) (jss_nil)))) (jss_nil)) (jss_cons (js_asg (je_op kop_mod (je_op kop_add (je_op kop_mul (je_ix (je_var 0) (je_int)) (je_int)) (je_int)) (je_int)) (jg_ix (je_var 0) (je_int))) (jss_cons (js_ret (je_op kop_mod (je_op kop_fdiv (je_op kop_mod (je_op kop_mul (je_ix (je_var 0) (je_int)) (je_ix (je_var 0) (je_int))) (je_int)) (je_int)) (je_var 1))) (jss_nil))), fun vs G M R Z h => pf_law_take h⟩
theorem df_law_take {P : Program} {w : World} {K : PySem.W.Frag} {mg : Str → Option Value} {base : Heap} {f : Addr} {fd : FuncData} (B : Bs mg) (C : Cs K mg) (F : Fun K "_law_take" "_law_take" s_law_take f fd) (b : Binds K fd ["_law_pool_here", "_law_many"] []) (gm : mg "_law_take" = some (.ref f))  :
    Def P w K mg base 1 "_law_take" ["_law_pool_here", "_law_many"] (S_law_take K) := ⟨f, fd, fo_law_take B C F , gm, F.kp, b⟩
abbrev s_law_thing : Stmt := topS 23
abbrev N_law_thing : List Str := ["_law_pool_here"]
theorem sc_law_thing : FnScope N_law_thing ["_law_pool_here"] (defScope s_law_thing) := ⟨rfl, rfl, rfl, by decide +kernel, rfl, by decide +kernel, by decide +kernel⟩
theorem fo_law_thing {P : Program} {w : World} {K : PySem.W.Frag} {mg : Str → Option Value} {base : Heap} {f : Addr} {fd : FuncData} (B : Bs mg) (C : Cs K mg) (F : Fun K "_law_thing" "_law_thing" s_law_thing f fd) (D_law_take : Def P w K mg base 1 "_law_take" ["_law_pool_here", "_law_many"] (S_law_take K)) :
    FnOk P w K mg base (L2.CX P w) 2 f fd ["_law_pool_here"] (lift (S_law_thing K)) := by
  refine fn_ok F sc_law_thing (fun vs G M R Z h => sp_len1 h) (fun cdv A outer s H E hr => ?_)
  have nd : N_law_thing.Nodup := sc_law_thing.nd
  have hu : _ + 64 < cLine := hr.units
  have tk : Takes (cxOf (L2.CX P w) P w K mg base N_law_thing "_law_thing" (defScope s_law_thing) f cdv A outer s H E) (fun c d _ H => E c d H) := takes_of rfl rfl rfl rfl
  have po : PassesOwn (model P w) _ _ _ := passes_of (X := cxOf (L2.CX P w) P w K mg base N_law_thing "_law_thing" (defScope s_law_thing) f cdv A outer s H E) rfl
  exact ⟨rd_law_thing K, jss_cons (js_if (jt_cmp (kop_eq hu) (je_callD D_law_take hr tk (ja_cons (je_var 0) (ja_cons (je_int) (ja_nil)))) (je_int) (nomark _)) (jss_cons (js_ret (je_non)) (jss_nil)) (jss_nil)) (jss_cons (js_ret (je_callD D_law_take hr tk (ja_cons (je_var 0) (ja_cons (je_op kop_pow (je_int) (je_int)) (ja_nil))))) (jss_nil)), fun vs G M R Z h => pf_law_thing h⟩
theorem df_law_thing {P : Program} {w : World} {K : PySem.W.Frag} {mg : Str → Option Value} {base : Heap} {f : Addr} {fd : FuncData} (B : Bs mg) (C : Cs K mg) (F : Fun K "_law_thing" "_law_thing" s_law_thing f fd) (b : Binds K fd ["_law_pool_here"] []) (gm : mg "_law_thing" = some (.ref f)) (D_law_take : Def P w K mg base 1 "_law_take" ["_law_pool_here", "_law_many"] (S_law_take K)) :
    Def P w K mg base 2 "_law_thing" ["_law_pool_here"] (S_law_thing K) := ⟨f, fd, fo_law_thing B C F D_law_take, gm, F.kp, b⟩
abbrev s_law_kinds : Stmt := topS 21
abbrev N_law_kinds : List Str := ["_law_e", "_law_some"]
theorem sc_law_kinds : FnScope N_law_kinds ["_law_e"] (defScope s_law_kinds) := ⟨rfl, rfl, rfl, by decide +kernel, rfl, by decide +kernel, by decide +kernel⟩
theorem fo_law_kinds {P : Program} {w : World} {K : PySem.W.Frag} {mg : Str → Option Value} {base : Heap} {f : Addr} {fd : FuncData} (B : Bs mg) (C : Cs K mg) (F : Fun K "_law_kinds" "_law_kinds" s_law_kinds f fd)  :
    FnOk P w K mg base (L2.CX P w) 1 f fd ["_law_e"] (lift (S_law_kinds K)) := by
  refine fn_ok F sc_law_kinds (fun vs G M R Z h => sp_len1 h) (fun cdv A outer s H E hr => ?_)
  have nd : N_law_kinds.Nodup := sc_law_kinds.nd
  have hu : _ + 64 < cLine := hr.units
  have tk : Takes (cxOf (L2.CX P w) P w K mg base N_law_kinds "_law_kinds" (defScope s_law_kinds) f cdv A outer s H E) (fun c d _ H => E c d H) := takes_of rfl rfl rfl rfl
  have po : PassesOwn (model P w) _ _ _ := passes_of (X := cxOf (L2.CX P w) P w K mg base N_law_kinds "_law_kinds" (defScope s_law_kinds) f cdv A outer s H E) rfl
  exact ⟨rd_law_kinds K, jss_cons (js_set (i := 1) (je_lst (ja_cons (je_callB (kc_isXd (ClsV.own _) C.n_NoDraws C.j_NoDraws) B.isinstance (ja_cons (je_var 0) (ja_cons (je_cls C.g_NoDraws) (ja_nil)))) (ja_cons (je_callB (kc_isXd (ClsV.own _) C.n_NoProgram C.j_NoProgram) B.isinstance (ja_cons (je_var 0) (ja_cons (je_cls C.g_NoProgram) (ja_nil)))) (ja_cons (je_callB (kc_isXd (ClsV.own _) C.n_NoOrder C.j_NoOrder) B.isinstance (ja_cons (je_var 0) (ja_cons (je_cls C.g_NoOrder) (ja_nil)))) (ja_cons (je_callB (kc_isXd (ClsV.own _) C.n_NoNumber C.j_NoNumber) B.isinstance (ja_cons (je_var 0) (ja_cons (je_cls C.g_NoNumber) (ja_nil)))) (ja_nil)))))) nd) (jss_cons (js_set (i := 1) (je_op kop_add (je_var 1) (je_lst (ja_cons (je_callB (kc_isXd (ClsV.own _) C.n_NoRoom C.j_NoRoom) B.isinstance (ja_cons (je_var 0) (ja_cons (je_cls C.g_NoRoom) (ja_nil)))) (ja_cons (je_callB (kc_isXd (ClsV.own _) C.n_NoAsk C.j_NoAsk) B.isinstance (ja_cons (je_var 0) (ja_cons (je_cls C.g_NoAsk) (ja_nil)))) (ja_cons (je_callB (kc_isXd (ClsV.own _) C.n_NoSize C.j_NoSize) B.isinstance (ja_cons (je_var 0) (ja_cons (je_cls C.g_NoSize) (ja_nil)))) (ja_cons (je_callB (kc_isXd (ClsV.own _) C.n_NoWay C.j_NoWay) B.isinstance (ja_cons (je_var 0) (ja_cons (je_cls C.g_NoWay) (ja_nil)))) (ja_nil))))))) nd) (jss_cons (js_set (i := 1) (je_op kop_add (je_var 1) (je_lst (ja_cons (je_callB (kc_isXd (ClsV.own _) C.n_Over C.j_Over) B.isinstance (ja_cons (je_var 0) (ja_cons (je_cls C.g_Over) (ja_nil)))) (ja_cons (je_callB (kc_isXd (ClsV.own _) C.n_Unlike C.j_Unlike) B.isinstance (ja_cons (je_var 0) (ja_cons (je_cls C.g_Unlike) (ja_nil)))) (ja_cons (je_callB (kc_isXd (ClsV.own _) C.n_TooMany C.j_TooMany) B.isinstance (ja_cons (je_var 0) (ja_cons (je_cls C.g_TooMany) (ja_nil)))) (ja_cons (je_callB (kc_isXd (ClsV.own _) C.n_NoText C.j_NoText) B.isinstance (ja_cons (je_var 0) (ja_cons (je_cls C.g_NoText) (ja_nil)))) (ja_nil))))))) nd) (jss_cons (js_ret (je_op kop_add (je_var 1) (je_lst (ja_cons (je_callB (kc_isXd (ClsV.own _) C.n_NoRow C.j_NoRow) B.isinstance (ja_cons (je_var 0) (ja_cons (je_cls C.g_NoRow) (ja_nil)))) (ja_cons (je_callB (kc_isXd (ClsV.own _) C.n_NoName C.j_NoName) B.isinstance (ja_cons (je_var 0) (ja_cons (je_cls C.g_NoName) (ja_nil)))) (ja_nil)))))) (jss_nil)))), fun vs G M R Z h => pf_law_kinds h⟩
theorem df_law_kinds {P : Program} {w : World} {K : PySem.W.Frag} {mg : Str → Option Value} {base : Heap} {f : Addr} {fd : FuncData} (B : Bs mg) (C : Cs K mg) (F : Fun K "_law_kinds" "_law_kinds" s_law_kinds f fd) (b : Binds K fd ["_law_e"] []) (gm : mg "_law_kinds" = some (.ref f))  :
    Def P w K mg base 1 "_law_kinds" ["_law_e"] (S_law_kinds K) := ⟨f, fd, fo_law_kinds B C F , gm, F.kp, b⟩
abbrev s_law_right : Stmt := topS 22
abbrev N_law_right : List Str := ["_law_some", "_law_one", "_law_other", "_law_k", "_law_j"]
theorem sc_law_right : FnScope N_law_right ["_law_some", "_law_one", "_law_other"] (defScope s_law_right) := ⟨rfl, rfl, rfl, by decide +kernel, rfl, by decide +kernel, by decide +kernel⟩
theorem fo_law_right {P : Program} {w : World} {K : PySem.W.Frag} {mg : Str → Option Value} {base : Heap} {f : Addr} {fd : FuncData} (B : Bs mg) (C : Cs K mg) (F : Fun K "_law_right" "_law_right" s_law_right f fd) (D_law_kinds : Def P w K mg base 1 "_law_kinds" ["_law_e"] (S_law_kinds K)) :
    GFn P w K mg base 2 f fd ["_law_some", "_law_one", "_law_other"] (lift (S_law_right K)) := by
  refine gfn_ok F sc_law_right (fun vs G M R Z h => sp_len3 h) (fun cdv A outer s H E hgd hr => ?_)
  have nd : N_law_right.Nodup := sc_law_right.nd
  have hu : _ + 64 < cLine := hr.units
  have tk : Takes (cxOf (L2.CX P w) P w K mg base N_law_right "_law_right" (defScope s_law_right) f cdv A outer s H E) (fun c d _ H => E c d H) := takes_of rfl rfl rfl rfl
  have po : PassesOwn (model P w) _ _ _ := passes_of (X := cxOf (L2.CX P w) P w K mg base N_law_right "_law_right" (defScope s_law_right) f cdv A outer s H E) rfl
  exact ⟨rd_law_right K, jss_cons (js_for po rfl (ji_range1 B.range (ja_cons (je_int) (ja_nil))) (jg_name (i := 3) nd) (jss_cons (js_if ((jw_or (jt_not (jt_val (je_callB (kc_isXd (ClsV.own _) C.n_TouchError C.j_TouchError) B.isinstance (ja_cons (je_ix (je_var 0) (je_var 3)) (ja_cons (je_cls C.g_TouchError) (ja_nil)))))) (jw_or1 (jt_not (jt_val (je_callB (kc_isXd (ClsV.ty _) C.n_ValueError C.j_ValueError) B.isinstance (ja_cons (je_ix (je_var 0) (je_var 3)) (ja_cons (je_ty B.ValueError) (ja_nil)))))))).jt) (jss_cons (js_ret (je_bl)) (jss_nil)) (jss_nil)) (jss_cons (js_if (jt_cmp (kop_ne hu) (je_callD D_law_kinds hr tk (ja_cons (je_ix (je_var 0) (je_var 3)) (ja_nil))) (je_comp (own := [("_law_j", 4)]) rfl nd (ji_range1 B.range (ja_cons (je_int) (ja_nil))) (blkOk_by (own := [("_law_j", 4)]) (N := N_law_right) (sc := defScope s_law_right) (by decide +kernel)) (fun _ _ _ _ _ => by exact jg_name (i := 4) nd) (fun _ _ _ _ _ => by exact jts_nil) (fun _ _ _ _ _ => by exact je_cmp (kop_eq hu) (je_var 4) (je_var 3) (nomark _))) (nomark _)) (jss_cons (js_ret (je_bl)) (jss_nil)) (jss_nil)) (jss_nil)))) (jss_cons (js_ret (je_cmp (kop_eq hu) (je_callB (kc_repr hgd hu) B.repr (ja_cons (je_lst (ja_cons (je_xat C.x_at (je_ix (je_var 0) (je_int))) (ja_cons (je_xat C.x_at (je_ix (je_var 0) (je_int))) (ja_nil)))) (ja_nil))) (je_callB (kc_repr hgd hu) B.repr (ja_cons (je_lst (ja_cons (je_var 1) (ja_cons (je_var 2) (ja_nil)))) (ja_nil))) (nomark _))) (jss_nil)), fun vs G M R Z h => pf_law_right h⟩
theorem df_law_right {P : Program} {w : World} {K : PySem.W.Frag} {mg : Str → Option Value} {base : Heap} {f : Addr} {fd : FuncData} (B : Bs mg) (C : Cs K mg) (F : Fun K "_law_right" "_law_right" s_law_right f fd) (b : Binds K fd ["_law_some", "_law_one", "_law_other"] []) (gm : mg "_law_right" = some (.ref f)) (D_law_kinds : Def P w K mg base 1 "_law_kinds" ["_law_e"] (S_law_kinds K)) :
    DefG P w K mg base 2 "_law_right" ["_law_some", "_law_one", "_law_other"] (S_law_right K) := ⟨f, fd, fo_law_right B C F D_law_kinds, gm, F.kp, b⟩
abbrev s_law : Stmt := topS 24
abbrev N_law : List Str := ["_law_script", "_law_ahead", "_law_k", "_law_pool_here", "_law_text", "_law_one", "_law_other", "_law_some", "_law_beside", "_law_j"]
theorem sc_law : FnScope N_law ["_law_script"] (defScope s_law) := ⟨rfl, rfl, rfl, by decide +kernel, rfl, by decide +kernel, by decide +kernel⟩
theorem fo_law {P : Program} {w : World} {K : PySem.W.Frag} {mg : Str → Option Value} {base : Heap} {f : Addr} {fd : FuncData} (B : Bs mg) (C : Cs K mg) (F : Fun K "law" "law" s_law f fd) (D_law_made : Def P w K mg base 3 "_law_made" ["_law_text", "_law_one", "_law_other"] (S_law_made K)) (D_law_pool : Def P w K mg base 1 "_law_pool" ["_law_script", "_law_k"] (S_law_pool K)) (D_law_take : Def P w K mg base 1 "_law_take" ["_law_pool_here", "_law_many"] (S_law_take K)) (D_law_thing : Def P w K mg base 2 "_law_thing" ["_law_pool_here"] (S_law_thing K)) (D_law_right : DefG P w K mg base 2 "_law_right" ["_law_some", "_law_one", "_law_other"] (S_law_right K)) :
    GFn P w K mg base 4 f fd ["_law_script"] (lift (S_law K)) := by
  refine gfn_ok F sc_law (fun vs G M R Z h => sp_len1 h) (fun cdv A outer s H E hgd hr => ?_)
  have nd : N_law.Nodup := sc_law.nd
  have hu : _ + 64 < cLine := hr.units
  have tk : Takes (cxOf (L2.CX P w) P w K mg base N_law "law" (defScope s_law) f cdv A outer s H E) (fun c d _ H => E c d H) := takes_of rfl rfl rfl rfl
  have po : PassesOwn (model P w) _ _ _ := passes_of (X := cxOf (L2.CX P w) P w K mg base N_law "law" (defScope s_law) f cdv A outer s H E) rfl
  exact ⟨rd_law K, jss_cons (js_set (i := 1) (je_callD D_law_made hr tk (ja_cons (je_str) (ja_cons (je_non) (ja_cons (je_int) (ja_nil))))) nd) (jss_cons (js_for po rfl (ji_range1 B.range (ja_cons (je_op kop_add (je_callB kc_min2 B.min (ja_cons (je_callB kc_len B.len (ja_cons (je_var 0) (ja_nil))) (ja_cons (je_int) (ja_nil)))) (je_int)) (ja_nil))) (jg_name (i := 2) nd) (jss_cons (js_set (i := 3) (je_callD D_law_pool hr tk (ja_cons (je_var 0) (ja_cons (je_var 2) (ja_nil)))) nd) (jss_cons (js_set (i := 4) (je_join (je_str) (je_comp (own := [("_law_j", 9)]) rfl nd (ji_range1 B.range (ja_cons (je_callD D_law_take hr tk (ja_cons (je_var 3) (ja_cons (je_int) (ja_nil)))) (ja_nil))) (blkOk_by (own := [("_law_j", 9)]) (N := N_law) (sc := defScope s_law) (by decide +kernel)) (fun _ _ _ _ _ => by exact jg_name (i := 9) nd) (fun _ _ _ _ _ => by exact jts_nil) (fun _ _ _ _ _ => by exact je_ix (je_str) (je_callD D_law_take hr takes0 (ja_cons (je_var 3) (ja_cons (je_int) (ja_nil))))))) nd) (jss_cons (js_set (i := 5) (je_callD D_law_thing hr tk (ja_cons (je_var 3) (ja_nil))) nd) (jss_cons (js_set (i := 6) (je_callD D_law_thing hr tk (ja_cons (je_var 3) (ja_nil))) nd) (jss_cons (js_set (i := 7) (je_callD D_law_made hr tk (ja_cons (je_var 4) (ja_cons (je_var 5) (ja_cons (je_var 6) (ja_nil))))) nd) (jss_cons (js_set (i := 8) (je_callD D_law_made hr tk (ja_cons (je_str) (ja_cons (je_int) (ja_cons (je_non) (ja_nil))))) nd) (jss_cons (js_if ((jw_or (jt_not (jt_val (je_callG D_law_right hgd hr tk (ja_cons (je_var 7) (ja_cons (je_var 5) (ja_cons (je_var 6) (ja_nil))))))) (jw_or (jt_not (jt_val (je_callG D_law_right hgd hr tk (ja_cons (je_var 8) (ja_cons (je_int) (ja_cons (je_non) (ja_nil))))))) (jw_or1 (jt_not (jt_val (je_callG D_law_right hgd hr tk (ja_cons (je_var 7) (ja_cons (je_var 5) (ja_cons (je_var 6) (ja_nil)))))))))).jt) (jss_cons (js_ret (je_bl)) (jss_nil)) (jss_nil)) (jss_nil))))))))) (jss_cons (js_ret (je_callG D_law_right hgd hr tk (ja_cons (je_var 1) (ja_cons (je_non) (ja_cons (je_int) (ja_nil)))))) (jss_nil))), fun vs G M R Z h => pf_law h⟩
theorem df_law {P : Program} {w : World} {K : PySem.W.Frag} {mg : Str → Option Value} {base : Heap} {f : Addr} {fd : FuncData} (B : Bs mg) (C : Cs K mg) (F : Fun K "law" "law" s_law f fd) (b : Binds K fd ["_law_script"] []) (gm : mg "law" = some (.ref f)) (D_law_made : Def P w K mg base 3 "_law_made" ["_law_text", "_law_one", "_law_other"] (S_law_made K)) (D_law_pool : Def P w K mg base 1 "_law_pool" ["_law_script", "_law_k"] (S_law_pool K)) (D_law_take : Def P w K mg base 1 "_law_take" ["_law_pool_here", "_law_many"] (S_law_take K)) (D_law_thing : Def P w K mg base 2 "_law_thing" ["_law_pool_here"] (S_law_thing K)) (D_law_right : DefG P w K mg base 2 "_law_right" ["_law_some", "_law_one", "_law_other"] (S_law_right K)) :
    DefG P w K mg base 4 "law" ["_law_script"] (S_law K) := ⟨f, fd, fo_law B C F D_law_made D_law_pool D_law_take D_law_thing D_law_right, gm, F.kp, b⟩
theorem len_0 {α : Type} {P : List α → Prop} (h : P []) : ∀ us : List α, us.length = 0 → P us := fun us hl => match us, hl with
  | [], _ => h
theorem len_1 {α : Type} {P : List α → Prop} (h : ∀ a0, P [a0]) : ∀ us : List α, us.length = 1 → P us := fun us hl => match us, hl with
  | [a0], _ => h a0
theorem len_2 {α : Type} {P : List α → Prop} (h : ∀ a0 a1, P [a0, a1]) : ∀ us : List α, us.length = 2 → P us := fun us hl => match us, hl with
  | [a0, a1], _ => h a0 a1
theorem len_3 {α : Type} {P : List α → Prop} (h : ∀ a0 a1 a2, P [a0, a1, a2]) : ∀ us : List α, us.length = 3 → P us := fun us hl => match us, hl with
  | [a0, a1, a2], _ => h a0 a1 a2
theorem len_4 {α : Type} {P : List α → Prop} (h : ∀ a0 a1 a2 a3, P [a0, a1, a2, a3]) : ∀ us : List α, us.length = 4 → P us := fun us hl => match us, hl with
  | [a0, a1, a2, a3], _ => h a0 a1 a2 a3
theorem len_5 {α : Type} {P : List α → Prop} (h : ∀ a0 a1 a2 a3 a4, P [a0, a1, a2, a3, a4]) : ∀ us : List α, us.length = 5 → P us := fun us hl => match us, hl with
  | [a0, a1, a2, a3, a4], _ => h a0 a1 a2 a3 a4
theorem len_6 {α : Type} {P : List α → Prop} (h : ∀ a0 a1 a2 a3 a4 a5, P [a0, a1, a2, a3, a4, a5]) : ∀ us : List α, us.length = 6 → P us := fun us hl => match us, hl with
  | [a0, a1, a2, a3, a4, a5], _ => h a0 a1 a2 a3 a4 a5
theorem len_7 {α : Type} {P : List α → Prop} (h : ∀ a0 a1 a2 a3 a4 a5 a6, P [a0, a1, a2, a3, a4, a5, a6]) : ∀ us : List α, us.length = 7 → P us := fun us hl => match us, hl with
  | [a0, a1, a2, a3, a4, a5, a6], _ => h a0 a1 a2 a3 a4 a5 a6
theorem fa_nil {α : Type} {P : α → Prop} : ∀ x ∈ ([] : List α), P x := fun _ z => nomatch z
theorem all_mk {l : PySem.W.OpenLaw} {w : World} {K : PySem.W.Frag} {h : Heap} {mg : Str → Option Value} {fa f0 f1 f2 f3 f4 f5 f6 f7 f8 : Addr} (X : K.In h) (G : h.Ns mainGlobals mg) (hfa : mg "law" = some (.ref fa))
    {od0 an0 od1 an1 od2 an2 od3 an3 od4 an4 od5 an5 od6 an6 od7 an7 od8 an8 : Option Addr} {sl0 sl1 sl2 sl3 sl4 sl5 sl6 sl7 sl8 : Array (Option Value)} {oc0 kV0 dc0 pm0 cd0 ct0 oc1 kV1 dc1 pm1 cd1 ct1 oc2 kV2 dc2 pm2 cd2 ct2 oc3 kV3 dc3 pm3 cd3 ct3 oc4 kV4 dc4 pm4 cd4 ct4 oc5 kV5 dc5 pm5 cd5 ct5 oc6 kV6 dc6 pm6 cd6 ct6 oc7 kV7 dc7 pm7 cd7 ct7 oc8 kV8 dc8 pm8 cd8 ct8 : Value}
    (a0 : PySem.W.isFn K (.ref f0) = true) (l0 : K.lookup f0 = some ⟨oc0, od0, .func (PySem.W.fnOf "__init__" "NoProgram.__init__" (defArgs s_NoProgram_init) (defBody s_NoProgram_init) (defScope s_NoProgram_init) .none kV0 dc0 pm0 an0 cd0 ct0), sl0⟩) (c0 : PySem.W.codeIn K cd0 "NoProgram.__init__" = true) (k0 : PySem.W.keepIn K (.ref f0) = true)
    (a1 : PySem.W.isFn K (.ref f1) = true) (l1 : K.lookup f1 = some ⟨oc1, od1, .func (PySem.W.fnOf "__init__" "NoDraws.__init__" (defArgs s_NoDraws_init) (defBody s_NoDraws_init) (defScope s_NoDraws_init) .none kV1 dc1 pm1 an1 cd1 ct1), sl1⟩) (c1 : PySem.W.codeIn K cd1 "NoDraws.__init__" = true) (k1 : PySem.W.keepIn K (.ref f1) = true)
    (a2 : PySem.W.nsIn K mainGlobals "_law_made" = some (some (.ref f2))) (l2 : K.lookup f2 = some ⟨oc2, od2, .func (PySem.W.fnOf "_law_made" "_law_made" (defArgs s_law_made) (defBody s_law_made) (defScope s_law_made) .none kV2 dc2 pm2 an2 cd2 ct2), sl2⟩) (c2 : PySem.W.codeIn K cd2 "_law_made" = true) (k2 : PySem.W.keepIn K (.ref f2) = true)
    (a3 : PySem.W.nsIn K mainGlobals "_law_pool" = some (some (.ref f3))) (l3 : K.lookup f3 = some ⟨oc3, od3, .func (PySem.W.fnOf "_law_pool" "_law_pool" (defArgs s_law_pool) (defBody s_law_pool) (defScope s_law_pool) .none kV3 dc3 pm3 an3 cd3 ct3), sl3⟩) (c3 : PySem.W.codeIn K cd3 "_law_pool" = true) (k3 : PySem.W.keepIn K (.ref f3) = true)
    (a4 : PySem.W.nsIn K mainGlobals "_law_take" = some (some (.ref f4))) (l4 : K.lookup f4 = some ⟨oc4, od4, .func (PySem.W.fnOf "_law_take" "_law_take" (defArgs s_law_take) (defBody s_law_take) (defScope s_law_take) .none kV4 dc4 pm4 an4 cd4 ct4), sl4⟩) (c4 : PySem.W.codeIn K cd4 "_law_take" = true) (k4 : PySem.W.keepIn K (.ref f4) = true)
    (a5 : PySem.W.nsIn K mainGlobals "_law_thing" = some (some (.ref f5))) (l5 : K.lookup f5 = some ⟨oc5, od5, .func (PySem.W.fnOf "_law_thing" "_law_thing" (defArgs s_law_thing) (defBody s_law_thing) (defScope s_law_thing) .none kV5 dc5 pm5 an5 cd5 ct5), sl5⟩) (c5 : PySem.W.codeIn K cd5 "_law_thing" = true) (k5 : PySem.W.keepIn K (.ref f5) = true)
    (a6 : PySem.W.nsIn K mainGlobals "_law_kinds" = some (some (.ref f6))) (l6 : K.lookup f6 = some ⟨oc6, od6, .func (PySem.W.fnOf "_law_kinds" "_law_kinds" (defArgs s_law_kinds) (defBody s_law_kinds) (defScope s_law_kinds) .none kV6 dc6 pm6 an6 cd6 ct6), sl6⟩) (c6 : PySem.W.codeIn K cd6 "_law_kinds" = true) (k6 : PySem.W.keepIn K (.ref f6) = true)
    (a7 : PySem.W.nsIn K mainGlobals "_law_right" = some (some (.ref f7))) (l7 : K.lookup f7 = some ⟨oc7, od7, .func (PySem.W.fnOf "_law_right" "_law_right" (defArgs s_law_right) (defBody s_law_right) (defScope s_law_right) .none kV7 dc7 pm7 an7 cd7 ct7), sl7⟩) (c7 : PySem.W.codeIn K cd7 "_law_right" = true) (k7 : PySem.W.keepIn K (.ref f7) = true)
    (a8 : PySem.W.nsIn K mainGlobals "law" = some (some (.ref f8))) (l8 : K.lookup f8 = some ⟨oc8, od8, .func (PySem.W.fnOf "law" "law" (defArgs s_law) (defBody s_law) (defScope s_law) .none kV8 dc8 pm8 an8 cd8 ct8), sl8⟩) (c8 : PySem.W.codeIn K cd8 "law" = true) (k8 : PySem.W.keepIn K (.ref f8) = true)
    (z_ValueError : PySem.W.nsIn K mainGlobals "ValueError" = some none)
    (z_isinstance : PySem.W.nsIn K mainGlobals "isinstance" = some none)
    (z_len : PySem.W.nsIn K mainGlobals "len" = some none)
    (z_min : PySem.W.nsIn K mainGlobals "min" = some none)
    (z_range : PySem.W.nsIn K mainGlobals "range" = some none)
    (z_repr : PySem.W.nsIn K mainGlobals "repr" = some none)
    {X_TouchError X_NoDraws X_NoProgram X_NoOrder X_NoNumber X_NoRoom X_NoAsk X_NoSize X_NoWay X_Over X_Unlike X_TooMany X_NoText X_NoRow X_NoName : Addr}
    {yn_NoDraws yq_NoDraws : Str} {yN_NoDraws : Addr} {yb_NoDraws ym_NoDraws : List Value} {ys_NoDraws : List Str} {yu_NoDraws : List Value} {ya_NoDraws : Bool} {yc_NoDraws : Option Bool} {yd_NoDraws : Option Addr} {y0_NoDraws y1_NoDraws y2_NoDraws y3_NoDraws y5_NoDraws : Option Value}
    {yn_NoProgram yq_NoProgram : Str} {yN_NoProgram : Addr} {yb_NoProgram ym_NoProgram : List Value} {ys_NoProgram : List Str} {yu_NoProgram : List Value} {ya_NoProgram : Bool} {yc_NoProgram : Option Bool} {yd_NoProgram : Option Addr} {y0_NoProgram y1_NoProgram y2_NoProgram y3_NoProgram y5_NoProgram : Option Value}
    (xa_TouchError : PySem.W.nsIn K mainGlobals "TouchError" = some (some (.ref X_TouchError)))
    (xk_TouchError : PySem.W.keepIn K (.ref X_TouchError) = true)
    (xt_TouchError : PySem.W.typeIn K (.ref X_TouchError) = some (.type "type"))
    (x4_TouchError : PySem.W.hasDictIn K X_TouchError = true)
    (xs_TouchError : PySem.W.subIn K (.ref X_TouchError) (.ref X_TouchError) = some true)
    (xa_NoDraws : PySem.W.nsIn K mainGlobals "NoDraws" = some (some (.ref X_NoDraws)))
    (xk_NoDraws : PySem.W.keepIn K (.ref X_NoDraws) = true)
    (xb_NoDraws : PySem.W.subIn K (.ref X_NoDraws) (.type "BaseException") = some true)
    (xt_NoDraws : PySem.W.typeIn K (.ref X_NoDraws) = some (.type "type"))
    (x4_NoDraws : PySem.W.hasDictIn K X_NoDraws = true)
    (xs_NoDraws : PySem.W.subIn K (.ref X_NoDraws) (.ref X_NoDraws) = some true)
    (x1_NoDraws : PySem.W.findIn K (.ref X_NoDraws) "__getattribute__" = some (some (.builtin "BaseException.__getattribute__")))
    (x2_NoDraws : PySem.W.findIn K (.ref X_NoDraws) "__getattr__" = some none)
    (x5_NoDraws : PySem.W.findIn K (.ref X_NoDraws) "__class__" = some (some (.builtin "object.__class__")))
    (x8_NoDraws : PySem.W.mroIn K X_NoDraws (.type "object") = some true)
    (xa_NoProgram : PySem.W.nsIn K mainGlobals "NoProgram" = some (some (.ref X_NoProgram)))
    (xk_NoProgram : PySem.W.keepIn K (.ref X_NoProgram) = true)
    (xb_NoProgram : PySem.W.subIn K (.ref X_NoProgram) (.type "BaseException") = some true)
    (xt_NoProgram : PySem.W.typeIn K (.ref X_NoProgram) = some (.type "type"))
    (x4_NoProgram : PySem.W.hasDictIn K X_NoProgram = true)
    (xs_NoProgram : PySem.W.subIn K (.ref X_NoProgram) (.ref X_NoProgram) = some true)
    (x1_NoProgram : PySem.W.findIn K (.ref X_NoProgram) "__getattribute__" = some (some (.builtin "BaseException.__getattribute__")))
    (x2_NoProgram : PySem.W.findIn K (.ref X_NoProgram) "__getattr__" = some none)
    (x5_NoProgram : PySem.W.findIn K (.ref X_NoProgram) "__class__" = some (some (.builtin "object.__class__")))
    (x8_NoProgram : PySem.W.mroIn K X_NoProgram (.type "object") = some true)
    (xa_NoOrder : PySem.W.nsIn K mainGlobals "NoOrder" = some (some (.ref X_NoOrder)))
    (xk_NoOrder : PySem.W.keepIn K (.ref X_NoOrder) = true)
    (xx_NoOrder : PySem.W.excIn K X_NoOrder [.type "ValueError", .type "Exception", .type "BaseException", .type "object"] "ValueError.__new__" = true)
    (xb_NoOrder : PySem.W.subIn K (.ref X_NoOrder) (.type "BaseException") = some true)
    (xt_NoOrder : PySem.W.typeIn K (.ref X_NoOrder) = some (.type "type"))
    (x4_NoOrder : PySem.W.hasDictIn K X_NoOrder = true)
    (xs_NoOrder : PySem.W.subIn K (.ref X_NoOrder) (.ref X_NoOrder) = some true)
    (x1_NoOrder : PySem.W.findIn K (.ref X_NoOrder) "__getattribute__" = some (some (.builtin "BaseException.__getattribute__")))
    (x2_NoOrder : PySem.W.findIn K (.ref X_NoOrder) "__getattr__" = some none)
    (x5_NoOrder : PySem.W.findIn K (.ref X_NoOrder) "__class__" = some (some (.builtin "object.__class__")))
    (x8_NoOrder : PySem.W.mroIn K X_NoOrder (.type "object") = some true)
    (xa_NoNumber : PySem.W.nsIn K mainGlobals "NoNumber" = some (some (.ref X_NoNumber)))
    (xk_NoNumber : PySem.W.keepIn K (.ref X_NoNumber) = true)
    (xx_NoNumber : PySem.W.excIn K X_NoNumber [.type "ValueError", .type "Exception", .type "BaseException", .type "object"] "ValueError.__new__" = true)
    (xb_NoNumber : PySem.W.subIn K (.ref X_NoNumber) (.type "BaseException") = some true)
    (xt_NoNumber : PySem.W.typeIn K (.ref X_NoNumber) = some (.type "type"))
    (x4_NoNumber : PySem.W.hasDictIn K X_NoNumber = true)
    (xs_NoNumber : PySem.W.subIn K (.ref X_NoNumber) (.ref X_NoNumber) = some true)
    (x1_NoNumber : PySem.W.findIn K (.ref X_NoNumber) "__getattribute__" = some (some (.builtin "BaseException.__getattribute__")))
    (x2_NoNumber : PySem.W.findIn K (.ref X_NoNumber) "__getattr__" = some none)
    (x5_NoNumber : PySem.W.findIn K (.ref X_NoNumber) "__class__" = some (some (.builtin "object.__class__")))
    (x8_NoNumber : PySem.W.mroIn K X_NoNumber (.type "object") = some true)
    (xa_NoRoom : PySem.W.nsIn K mainGlobals "NoRoom" = some (some (.ref X_NoRoom)))
    (xk_NoRoom : PySem.W.keepIn K (.ref X_NoRoom) = true)
    (xx_NoRoom : PySem.W.excIn K X_NoRoom [.type "ValueError", .type "Exception", .type "BaseException", .type "object"] "ValueError.__new__" = true)
    (xb_NoRoom : PySem.W.subIn K (.ref X_NoRoom) (.type "BaseException") = some true)
    (xt_NoRoom : PySem.W.typeIn K (.ref X_NoRoom) = some (.type "type"))
    (x4_NoRoom : PySem.W.hasDictIn K X_NoRoom = true)
    (xs_NoRoom : PySem.W.subIn K (.ref X_NoRoom) (.ref X_NoRoom) = some true)
    (x1_NoRoom : PySem.W.findIn K (.ref X_NoRoom) "__getattribute__" = some (some (.builtin "BaseException.__getattribute__")))
    (x2_NoRoom : PySem.W.findIn K (.ref X_NoRoom) "__getattr__" = some none)
    (x5_NoRoom : PySem.W.findIn K (.ref X_NoRoom) "__class__" = some (some (.builtin "object.__class__")))
    (x8_NoRoom : PySem.W.mroIn K X_NoRoom (.type "object") = some true)
    (xa_NoAsk : PySem.W.nsIn K mainGlobals "NoAsk" = some (some (.ref X_NoAsk)))
    (xk_NoAsk : PySem.W.keepIn K (.ref X_NoAsk) = true)
    (xx_NoAsk : PySem.W.excIn K X_NoAsk [.type "ValueError", .type "Exception", .type "BaseException", .type "object"] "ValueError.__new__" = true)
    (xb_NoAsk : PySem.W.subIn K (.ref X_NoAsk) (.type "BaseException") = some true)
    (xt_NoAsk : PySem.W.typeIn K (.ref X_NoAsk) = some (.type "type"))
    (x4_NoAsk : PySem.W.hasDictIn K X_NoAsk = true)
    (xs_NoAsk : PySem.W.subIn K (.ref X_NoAsk) (.ref X_NoAsk) = some true)
    (x1_NoAsk : PySem.W.findIn K (.ref X_NoAsk) "__getattribute__" = some (some (.builtin "BaseException.__getattribute__")))
    (x2_NoAsk : PySem.W.findIn K (.ref X_NoAsk) "__getattr__" = some none)
    (x5_NoAsk : PySem.W.findIn K (.ref X_NoAsk) "__class__" = some (some (.builtin "object.__class__")))
    (x8_NoAsk : PySem.W.mroIn K X_NoAsk (.type "object") = some true)
    (xa_NoSize : PySem.W.nsIn K mainGlobals "NoSize" = some (some (.ref X_NoSize)))
    (xk_NoSize : PySem.W.keepIn K (.ref X_NoSize) = true)
    (xx_NoSize : PySem.W.excIn K X_NoSize [.type "ValueError", .type "Exception", .type "BaseException", .type "object"] "ValueError.__new__" = true)
    (xb_NoSize : PySem.W.subIn K (.ref X_NoSize) (.type "BaseException") = some true)
    (xt_NoSize : PySem.W.typeIn K (.ref X_NoSize) = some (.type "type"))
    (x4_NoSize : PySem.W.hasDictIn K X_NoSize = true)
    (xs_NoSize : PySem.W.subIn K (.ref X_NoSize) (.ref X_NoSize) = some true)
    (x1_NoSize : PySem.W.findIn K (.ref X_NoSize) "__getattribute__" = some (some (.builtin "BaseException.__getattribute__")))
    (x2_NoSize : PySem.W.findIn K (.ref X_NoSize) "__getattr__" = some none)
    (x5_NoSize : PySem.W.findIn K (.ref X_NoSize) "__class__" = some (some (.builtin "object.__class__")))
    (x8_NoSize : PySem.W.mroIn K X_NoSize (.type "object") = some true)
    (xa_NoWay : PySem.W.nsIn K mainGlobals "NoWay" = some (some (.ref X_NoWay)))
    (xk_NoWay : PySem.W.keepIn K (.ref X_NoWay) = true)
    (xx_NoWay : PySem.W.excIn K X_NoWay [.type "ValueError", .type "Exception", .type "BaseException", .type "object"] "ValueError.__new__" = true)
    (xb_NoWay : PySem.W.subIn K (.ref X_NoWay) (.type "BaseException") = some true)
    (xt_NoWay : PySem.W.typeIn K (.ref X_NoWay) = some (.type "type"))
    (x4_NoWay : PySem.W.hasDictIn K X_NoWay = true)
    (xs_NoWay : PySem.W.subIn K (.ref X_NoWay) (.ref X_NoWay) = some true)
    (x1_NoWay : PySem.W.findIn K (.ref X_NoWay) "__getattribute__" = some (some (.builtin "BaseException.__getattribute__")))
    (x2_NoWay : PySem.W.findIn K (.ref X_NoWay) "__getattr__" = some none)
    (x5_NoWay : PySem.W.findIn K (.ref X_NoWay) "__class__" = some (some (.builtin "object.__class__")))
    (x8_NoWay : PySem.W.mroIn K X_NoWay (.type "object") = some true)
    (xa_Over : PySem.W.nsIn K mainGlobals "Over" = some (some (.ref X_Over)))
    (xk_Over : PySem.W.keepIn K (.ref X_Over) = true)
    (xx_Over : PySem.W.excIn K X_Over [.type "ValueError", .type "Exception", .type "BaseException", .type "object"] "ValueError.__new__" = true)
    (xb_Over : PySem.W.subIn K (.ref X_Over) (.type "BaseException") = some true)
    (xt_Over : PySem.W.typeIn K (.ref X_Over) = some (.type "type"))
    (x4_Over : PySem.W.hasDictIn K X_Over = true)
    (xs_Over : PySem.W.subIn K (.ref X_Over) (.ref X_Over) = some true)
    (x1_Over : PySem.W.findIn K (.ref X_Over) "__getattribute__" = some (some (.builtin "BaseException.__getattribute__")))
    (x2_Over : PySem.W.findIn K (.ref X_Over) "__getattr__" = some none)
    (x5_Over : PySem.W.findIn K (.ref X_Over) "__class__" = some (some (.builtin "object.__class__")))
    (x8_Over : PySem.W.mroIn K X_Over (.type "object") = some true)
    (xa_Unlike : PySem.W.nsIn K mainGlobals "Unlike" = some (some (.ref X_Unlike)))
    (xk_Unlike : PySem.W.keepIn K (.ref X_Unlike) = true)
    (xx_Unlike : PySem.W.excIn K X_Unlike [.type "ValueError", .type "Exception", .type "BaseException", .type "object"] "ValueError.__new__" = true)
    (xb_Unlike : PySem.W.subIn K (.ref X_Unlike) (.type "BaseException") = some true)
    (xt_Unlike : PySem.W.typeIn K (.ref X_Unlike) = some (.type "type"))
    (x4_Unlike : PySem.W.hasDictIn K X_Unlike = true)
    (xs_Unlike : PySem.W.subIn K (.ref X_Unlike) (.ref X_Unlike) = some true)
    (x1_Unlike : PySem.W.findIn K (.ref X_Unlike) "__getattribute__" = some (some (.builtin "BaseException.__getattribute__")))
    (x2_Unlike : PySem.W.findIn K (.ref X_Unlike) "__getattr__" = some none)
    (x5_Unlike : PySem.W.findIn K (.ref X_Unlike) "__class__" = some (some (.builtin "object.__class__")))
    (x8_Unlike : PySem.W.mroIn K X_Unlike (.type "object") = some true)
    (xa_TooMany : PySem.W.nsIn K mainGlobals "TooMany" = some (some (.ref X_TooMany)))
    (xk_TooMany : PySem.W.keepIn K (.ref X_TooMany) = true)
    (xx_TooMany : PySem.W.excIn K X_TooMany [.type "ValueError", .type "Exception", .type "BaseException", .type "object"] "ValueError.__new__" = true)
    (xb_TooMany : PySem.W.subIn K (.ref X_TooMany) (.type "BaseException") = some true)
    (xt_TooMany : PySem.W.typeIn K (.ref X_TooMany) = some (.type "type"))
    (x4_TooMany : PySem.W.hasDictIn K X_TooMany = true)
    (xs_TooMany : PySem.W.subIn K (.ref X_TooMany) (.ref X_TooMany) = some true)
    (x1_TooMany : PySem.W.findIn K (.ref X_TooMany) "__getattribute__" = some (some (.builtin "BaseException.__getattribute__")))
    (x2_TooMany : PySem.W.findIn K (.ref X_TooMany) "__getattr__" = some none)
    (x5_TooMany : PySem.W.findIn K (.ref X_TooMany) "__class__" = some (some (.builtin "object.__class__")))
    (x8_TooMany : PySem.W.mroIn K X_TooMany (.type "object") = some true)
    (xa_NoText : PySem.W.nsIn K mainGlobals "NoText" = some (some (.ref X_NoText)))
    (xk_NoText : PySem.W.keepIn K (.ref X_NoText) = true)
    (xx_NoText : PySem.W.excIn K X_NoText [.type "ValueError", .type "Exception", .type "BaseException", .type "object"] "ValueError.__new__" = true)
    (xb_NoText : PySem.W.subIn K (.ref X_NoText) (.type "BaseException") = some true)
    (xt_NoText : PySem.W.typeIn K (.ref X_NoText) = some (.type "type"))
    (x4_NoText : PySem.W.hasDictIn K X_NoText = true)
    (xs_NoText : PySem.W.subIn K (.ref X_NoText) (.ref X_NoText) = some true)
    (x1_NoText : PySem.W.findIn K (.ref X_NoText) "__getattribute__" = some (some (.builtin "BaseException.__getattribute__")))
    (x2_NoText : PySem.W.findIn K (.ref X_NoText) "__getattr__" = some none)
    (x5_NoText : PySem.W.findIn K (.ref X_NoText) "__class__" = some (some (.builtin "object.__class__")))
    (x8_NoText : PySem.W.mroIn K X_NoText (.type "object") = some true)
    (xa_NoRow : PySem.W.nsIn K mainGlobals "NoRow" = some (some (.ref X_NoRow)))
    (xk_NoRow : PySem.W.keepIn K (.ref X_NoRow) = true)
    (xx_NoRow : PySem.W.excIn K X_NoRow [.type "ValueError", .type "Exception", .type "BaseException", .type "object"] "ValueError.__new__" = true)
    (xb_NoRow : PySem.W.subIn K (.ref X_NoRow) (.type "BaseException") = some true)
    (xt_NoRow : PySem.W.typeIn K (.ref X_NoRow) = some (.type "type"))
    (x4_NoRow : PySem.W.hasDictIn K X_NoRow = true)
    (xs_NoRow : PySem.W.subIn K (.ref X_NoRow) (.ref X_NoRow) = some true)
    (x1_NoRow : PySem.W.findIn K (.ref X_NoRow) "__getattribute__" = some (some (.builtin "BaseException.__getattribute__")))
    (x2_NoRow : PySem.W.findIn K (.ref X_NoRow) "__getattr__" = some none)
    (x5_NoRow : PySem.W.findIn K (.ref X_NoRow) "__class__" = some (some (.builtin "object.__class__")))
    (x8_NoRow : PySem.W.mroIn K X_NoRow (.type "object") = some true)
    (xa_NoName : PySem.W.nsIn K mainGlobals "NoName" = some (some (.ref X_NoName)))
    (xk_NoName : PySem.W.keepIn K (.ref X_NoName) = true)
    (xx_NoName : PySem.W.excIn K X_NoName [.type "ValueError", .type "Exception", .type "BaseException", .type "object"] "ValueError.__new__" = true)
    (xb_NoName : PySem.W.subIn K (.ref X_NoName) (.type "BaseException") = some true)
    (xt_NoName : PySem.W.typeIn K (.ref X_NoName) = some (.type "type"))
    (x4_NoName : PySem.W.hasDictIn K X_NoName = true)
    (xs_NoName : PySem.W.subIn K (.ref X_NoName) (.ref X_NoName) = some true)
    (x1_NoName : PySem.W.findIn K (.ref X_NoName) "__getattribute__" = some (some (.builtin "BaseException.__getattribute__")))
    (x2_NoName : PySem.W.findIn K (.ref X_NoName) "__getattr__" = some none)
    (x5_NoName : PySem.W.findIn K (.ref X_NoName) "__class__" = some (some (.builtin "object.__class__")))
    (x8_NoName : PySem.W.mroIn K X_NoName (.type "object") = some true)
    (xl_NoDraws : K.lookup X_NoDraws = some (excClassObj yn_NoDraws yq_NoDraws X_NoDraws yN_NoDraws yb_NoDraws ym_NoDraws true ys_NoDraws yu_NoDraws ya_NoDraws yc_NoDraws yd_NoDraws y0_NoDraws y1_NoDraws y2_NoDraws y3_NoDraws y5_NoDraws "ValueError.__new__"))
    (xz_NoDraws : PySem.HandSPX.refsVE ym_NoDraws = true)
    (xsa_NoDraws : PySem.W.findIn K (.ref X_NoDraws) "__setattr__" = some (some (.builtin "object.__setattr__")))
    (xno_NoDraws : PySem.W.findIn K (.ref X_NoDraws) "at" = some none)
    (xi_NoDraws : PySem.W.findIn K (.ref X_NoDraws) "__init__" = some (some (.ref f1)))
    (xty_NoDraws : PySem.W.typeIn K (.ref f1) = some (.type "function"))
    (xl_NoProgram : K.lookup X_NoProgram = some (excClassObj yn_NoProgram yq_NoProgram X_NoProgram yN_NoProgram yb_NoProgram ym_NoProgram true ys_NoProgram yu_NoProgram ya_NoProgram yc_NoProgram yd_NoProgram y0_NoProgram y1_NoProgram y2_NoProgram y3_NoProgram y5_NoProgram "ValueError.__new__"))
    (xz_NoProgram : PySem.HandSPX.refsVE ym_NoProgram = true)
    (xsa_NoProgram : PySem.W.findIn K (.ref X_NoProgram) "__setattr__" = some (some (.builtin "object.__setattr__")))
    (xno_NoProgram : PySem.W.findIn K (.ref X_NoProgram) "at" = some none)
    (xi_NoProgram : PySem.W.findIn K (.ref X_NoProgram) "__init__" = some (some (.ref f0)))
    (xty_NoProgram : PySem.W.typeIn K (.ref f0) = some (.type "function"))
    (xrd_TouchError : PySem.W.readsIn K X_TouchError (.type "type") = true)
    (xga_TouchError : PySem.W.specialIn K (.ref X_TouchError) "__getattribute__" = some (some (.builtin "type.__getattribute__")))
    (xfi_TouchError : PySem.W.findCls K (.ref X_TouchError) (.type "type") "__init__" = some (.val (.builtin "ValueError.__init__")))
    (x6 : PySem.W.specialIn K (.builtin "object.__class__") "__get__" = some (some (.builtin "getset_descriptor.__get__")))
    (x7 : PySem.W.takesIn K (.builtin "object.__class__") = some true)
    (ni_NoAsk : PySem.W.subIn K (.type "NoneType") (.ref X_NoAsk) = some false)
    (su_NoDraws_NoAsk : PySem.W.subIn K (.ref X_NoDraws) (.ref X_NoAsk) = some false)
    (su_NoProgram_NoAsk : PySem.W.subIn K (.ref X_NoProgram) (.ref X_NoAsk) = some false)
    (su_NoOrder_NoAsk : PySem.W.subIn K (.ref X_NoOrder) (.ref X_NoAsk) = some false)
    (su_NoNumber_NoAsk : PySem.W.subIn K (.ref X_NoNumber) (.ref X_NoAsk) = some false)
    (su_NoRoom_NoAsk : PySem.W.subIn K (.ref X_NoRoom) (.ref X_NoAsk) = some false)
    (su_NoAsk_NoAsk : PySem.W.subIn K (.ref X_NoAsk) (.ref X_NoAsk) = some true)
    (su_NoSize_NoAsk : PySem.W.subIn K (.ref X_NoSize) (.ref X_NoAsk) = some false)
    (su_NoWay_NoAsk : PySem.W.subIn K (.ref X_NoWay) (.ref X_NoAsk) = some false)
    (su_Over_NoAsk : PySem.W.subIn K (.ref X_Over) (.ref X_NoAsk) = some false)
    (su_Unlike_NoAsk : PySem.W.subIn K (.ref X_Unlike) (.ref X_NoAsk) = some false)
    (su_TooMany_NoAsk : PySem.W.subIn K (.ref X_TooMany) (.ref X_NoAsk) = some false)
    (su_NoText_NoAsk : PySem.W.subIn K (.ref X_NoText) (.ref X_NoAsk) = some false)
    (su_NoRow_NoAsk : PySem.W.subIn K (.ref X_NoRow) (.ref X_NoAsk) = some false)
    (su_NoName_NoAsk : PySem.W.subIn K (.ref X_NoName) (.ref X_NoAsk) = some false)
    (ni_NoDraws : PySem.W.subIn K (.type "NoneType") (.ref X_NoDraws) = some false)
    (su_NoDraws_NoDraws : PySem.W.subIn K (.ref X_NoDraws) (.ref X_NoDraws) = some true)
    (su_NoProgram_NoDraws : PySem.W.subIn K (.ref X_NoProgram) (.ref X_NoDraws) = some false)
    (su_NoOrder_NoDraws : PySem.W.subIn K (.ref X_NoOrder) (.ref X_NoDraws) = some false)
    (su_NoNumber_NoDraws : PySem.W.subIn K (.ref X_NoNumber) (.ref X_NoDraws) = some false)
    (su_NoRoom_NoDraws : PySem.W.subIn K (.ref X_NoRoom) (.ref X_NoDraws) = some false)
    (su_NoAsk_NoDraws : PySem.W.subIn K (.ref X_NoAsk) (.ref X_NoDraws) = some false)
    (su_NoSize_NoDraws : PySem.W.subIn K (.ref X_NoSize) (.ref X_NoDraws) = some false)
    (su_NoWay_NoDraws : PySem.W.subIn K (.ref X_NoWay) (.ref X_NoDraws) = some false)
    (su_Over_NoDraws : PySem.W.subIn K (.ref X_Over) (.ref X_NoDraws) = some false)
    (su_Unlike_NoDraws : PySem.W.subIn K (.ref X_Unlike) (.ref X_NoDraws) = some false)
    (su_TooMany_NoDraws : PySem.W.subIn K (.ref X_TooMany) (.ref X_NoDraws) = some false)
    (su_NoText_NoDraws : PySem.W.subIn K (.ref X_NoText) (.ref X_NoDraws) = some false)
    (su_NoRow_NoDraws : PySem.W.subIn K (.ref X_NoRow) (.ref X_NoDraws) = some false)
    (su_NoName_NoDraws : PySem.W.subIn K (.ref X_NoName) (.ref X_NoDraws) = some false)
    (ni_NoName : PySem.W.subIn K (.type "NoneType") (.ref X_NoName) = some false)
    (su_NoDraws_NoName : PySem.W.subIn K (.ref X_NoDraws) (.ref X_NoName) = some false)
    (su_NoProgram_NoName : PySem.W.subIn K (.ref X_NoProgram) (.ref X_NoName) = some false)
    (su_NoOrder_NoName : PySem.W.subIn K (.ref X_NoOrder) (.ref X_NoName) = some false)
    (su_NoNumber_NoName : PySem.W.subIn K (.ref X_NoNumber) (.ref X_NoName) = some false)
    (su_NoRoom_NoName : PySem.W.subIn K (.ref X_NoRoom) (.ref X_NoName) = some false)
    (su_NoAsk_NoName : PySem.W.subIn K (.ref X_NoAsk) (.ref X_NoName) = some false)
    (su_NoSize_NoName : PySem.W.subIn K (.ref X_NoSize) (.ref X_NoName) = some false)
    (su_NoWay_NoName : PySem.W.subIn K (.ref X_NoWay) (.ref X_NoName) = some false)
    (su_Over_NoName : PySem.W.subIn K (.ref X_Over) (.ref X_NoName) = some false)
    (su_Unlike_NoName : PySem.W.subIn K (.ref X_Unlike) (.ref X_NoName) = some false)
    (su_TooMany_NoName : PySem.W.subIn K (.ref X_TooMany) (.ref X_NoName) = some false)
    (su_NoText_NoName : PySem.W.subIn K (.ref X_NoText) (.ref X_NoName) = some false)
    (su_NoRow_NoName : PySem.W.subIn K (.ref X_NoRow) (.ref X_NoName) = some false)
    (su_NoName_NoName : PySem.W.subIn K (.ref X_NoName) (.ref X_NoName) = some true)
    (ni_NoNumber : PySem.W.subIn K (.type "NoneType") (.ref X_NoNumber) = some false)
    (su_NoDraws_NoNumber : PySem.W.subIn K (.ref X_NoDraws) (.ref X_NoNumber) = some false)
    (su_NoProgram_NoNumber : PySem.W.subIn K (.ref X_NoProgram) (.ref X_NoNumber) = some false)
    (su_NoOrder_NoNumber : PySem.W.subIn K (.ref X_NoOrder) (.ref X_NoNumber) = some false)
    (su_NoNumber_NoNumber : PySem.W.subIn K (.ref X_NoNumber) (.ref X_NoNumber) = some true)
    (su_NoRoom_NoNumber : PySem.W.subIn K (.ref X_NoRoom) (.ref X_NoNumber) = some false)
    (su_NoAsk_NoNumber : PySem.W.subIn K (.ref X_NoAsk) (.ref X_NoNumber) = some false)
    (su_NoSize_NoNumber : PySem.W.subIn K (.ref X_NoSize) (.ref X_NoNumber) = some false)
    (su_NoWay_NoNumber : PySem.W.subIn K (.ref X_NoWay) (.ref X_NoNumber) = some false)
    (su_Over_NoNumber : PySem.W.subIn K (.ref X_Over) (.ref X_NoNumber) = some false)
    (su_Unlike_NoNumber : PySem.W.subIn K (.ref X_Unlike) (.ref X_NoNumber) = some false)
    (su_TooMany_NoNumber : PySem.W.subIn K (.ref X_TooMany) (.ref X_NoNumber) = some false)
    (su_NoText_NoNumber : PySem.W.subIn K (.ref X_NoText) (.ref X_NoNumber) = some false)
    (su_NoRow_NoNumber : PySem.W.subIn K (.ref X_NoRow) (.ref X_NoNumber) = some false)
    (su_NoName_NoNumber : PySem.W.subIn K (.ref X_NoName) (.ref X_NoNumber) = some false)
    (ni_NoOrder : PySem.W.subIn K (.type "NoneType") (.ref X_NoOrder) = some false)
    (su_NoDraws_NoOrder : PySem.W.subIn K (.ref X_NoDraws) (.ref X_NoOrder) = some false)
    (su_NoProgram_NoOrder : PySem.W.subIn K (.ref X_NoProgram) (.ref X_NoOrder) = some false)
    (su_NoOrder_NoOrder : PySem.W.subIn K (.ref X_NoOrder) (.ref X_NoOrder) = some true)
    (su_NoNumber_NoOrder : PySem.W.subIn K (.ref X_NoNumber) (.ref X_NoOrder) = some false)
    (su_NoRoom_NoOrder : PySem.W.subIn K (.ref X_NoRoom) (.ref X_NoOrder) = some false)
    (su_NoAsk_NoOrder : PySem.W.subIn K (.ref X_NoAsk) (.ref X_NoOrder) = some false)
    (su_NoSize_NoOrder : PySem.W.subIn K (.ref X_NoSize) (.ref X_NoOrder) = some false)
    (su_NoWay_NoOrder : PySem.W.subIn K (.ref X_NoWay) (.ref X_NoOrder) = some false)
    (su_Over_NoOrder : PySem.W.subIn K (.ref X_Over) (.ref X_NoOrder) = some false)
    (su_Unlike_NoOrder : PySem.W.subIn K (.ref X_Unlike) (.ref X_NoOrder) = some false)
    (su_TooMany_NoOrder : PySem.W.subIn K (.ref X_TooMany) (.ref X_NoOrder) = some false)
    (su_NoText_NoOrder : PySem.W.subIn K (.ref X_NoText) (.ref X_NoOrder) = some false)
    (su_NoRow_NoOrder : PySem.W.subIn K (.ref X_NoRow) (.ref X_NoOrder) = some false)
    (su_NoName_NoOrder : PySem.W.subIn K (.ref X_NoName) (.ref X_NoOrder) = some false)
    (ni_NoProgram : PySem.W.subIn K (.type "NoneType") (.ref X_NoProgram) = some false)
    (su_NoDraws_NoProgram : PySem.W.subIn K (.ref X_NoDraws) (.ref X_NoProgram) = some false)
    (su_NoProgram_NoProgram : PySem.W.subIn K (.ref X_NoProgram) (.ref X_NoProgram) = some true)
    (su_NoOrder_NoProgram : PySem.W.subIn K (.ref X_NoOrder) (.ref X_NoProgram) = some false)
    (su_NoNumber_NoProgram : PySem.W.subIn K (.ref X_NoNumber) (.ref X_NoProgram) = some false)
    (su_NoRoom_NoProgram : PySem.W.subIn K (.ref X_NoRoom) (.ref X_NoProgram) = some false)
    (su_NoAsk_NoProgram : PySem.W.subIn K (.ref X_NoAsk) (.ref X_NoProgram) = some false)
    (su_NoSize_NoProgram : PySem.W.subIn K (.ref X_NoSize) (.ref X_NoProgram) = some false)
    (su_NoWay_NoProgram : PySem.W.subIn K (.ref X_NoWay) (.ref X_NoProgram) = some false)
    (su_Over_NoProgram : PySem.W.subIn K (.ref X_Over) (.ref X_NoProgram) = some false)
    (su_Unlike_NoProgram : PySem.W.subIn K (.ref X_Unlike) (.ref X_NoProgram) = some false)
    (su_TooMany_NoProgram : PySem.W.subIn K (.ref X_TooMany) (.ref X_NoProgram) = some false)
    (su_NoText_NoProgram : PySem.W.subIn K (.ref X_NoText) (.ref X_NoProgram) = some false)
    (su_NoRow_NoProgram : PySem.W.subIn K (.ref X_NoRow) (.ref X_NoProgram) = some false)
    (su_NoName_NoProgram : PySem.W.subIn K (.ref X_NoName) (.ref X_NoProgram) = some false)
    (ni_NoRoom : PySem.W.subIn K (.type "NoneType") (.ref X_NoRoom) = some false)
    (su_NoDraws_NoRoom : PySem.W.subIn K (.ref X_NoDraws) (.ref X_NoRoom) = some false)
    (su_NoProgram_NoRoom : PySem.W.subIn K (.ref X_NoProgram) (.ref X_NoRoom) = some false)
    (su_NoOrder_NoRoom : PySem.W.subIn K (.ref X_NoOrder) (.ref X_NoRoom) = some false)
    (su_NoNumber_NoRoom : PySem.W.subIn K (.ref X_NoNumber) (.ref X_NoRoom) = some false)
    (su_NoRoom_NoRoom : PySem.W.subIn K (.ref X_NoRoom) (.ref X_NoRoom) = some true)
    (su_NoAsk_NoRoom : PySem.W.subIn K (.ref X_NoAsk) (.ref X_NoRoom) = some false)
    (su_NoSize_NoRoom : PySem.W.subIn K (.ref X_NoSize) (.ref X_NoRoom) = some false)
    (su_NoWay_NoRoom : PySem.W.subIn K (.ref X_NoWay) (.ref X_NoRoom) = some false)
    (su_Over_NoRoom : PySem.W.subIn K (.ref X_Over) (.ref X_NoRoom) = some false)
    (su_Unlike_NoRoom : PySem.W.subIn K (.ref X_Unlike) (.ref X_NoRoom) = some false)
    (su_TooMany_NoRoom : PySem.W.subIn K (.ref X_TooMany) (.ref X_NoRoom) = some false)
    (su_NoText_NoRoom : PySem.W.subIn K (.ref X_NoText) (.ref X_NoRoom) = some false)
    (su_NoRow_NoRoom : PySem.W.subIn K (.ref X_NoRow) (.ref X_NoRoom) = some false)
    (su_NoName_NoRoom : PySem.W.subIn K (.ref X_NoName) (.ref X_NoRoom) = some false)
    (ni_NoRow : PySem.W.subIn K (.type "NoneType") (.ref X_NoRow) = some false)
    (su_NoDraws_NoRow : PySem.W.subIn K (.ref X_NoDraws) (.ref X_NoRow) = some false)
    (su_NoProgram_NoRow : PySem.W.subIn K (.ref X_NoProgram) (.ref X_NoRow) = some false)
    (su_NoOrder_NoRow : PySem.W.subIn K (.ref X_NoOrder) (.ref X_NoRow) = some false)
    (su_NoNumber_NoRow : PySem.W.subIn K (.ref X_NoNumber) (.ref X_NoRow) = some false)
    (su_NoRoom_NoRow : PySem.W.subIn K (.ref X_NoRoom) (.ref X_NoRow) = some false)
    (su_NoAsk_NoRow : PySem.W.subIn K (.ref X_NoAsk) (.ref X_NoRow) = some false)
    (su_NoSize_NoRow : PySem.W.subIn K (.ref X_NoSize) (.ref X_NoRow) = some false)
    (su_NoWay_NoRow : PySem.W.subIn K (.ref X_NoWay) (.ref X_NoRow) = some false)
    (su_Over_NoRow : PySem.W.subIn K (.ref X_Over) (.ref X_NoRow) = some false)
    (su_Unlike_NoRow : PySem.W.subIn K (.ref X_Unlike) (.ref X_NoRow) = some false)
    (su_TooMany_NoRow : PySem.W.subIn K (.ref X_TooMany) (.ref X_NoRow) = some false)
    (su_NoText_NoRow : PySem.W.subIn K (.ref X_NoText) (.ref X_NoRow) = some false)
    (su_NoRow_NoRow : PySem.W.subIn K (.ref X_NoRow) (.ref X_NoRow) = some true)
    (su_NoName_NoRow : PySem.W.subIn K (.ref X_NoName) (.ref X_NoRow) = some false)
    (ni_NoSize : PySem.W.subIn K (.type "NoneType") (.ref X_NoSize) = some false)
    (su_NoDraws_NoSize : PySem.W.subIn K (.ref X_NoDraws) (.ref X_NoSize) = some false)
    (su_NoProgram_NoSize : PySem.W.subIn K (.ref X_NoProgram) (.ref X_NoSize) = some false)
    (su_NoOrder_NoSize : PySem.W.subIn K (.ref X_NoOrder) (.ref X_NoSize) = some false)
    (su_NoNumber_NoSize : PySem.W.subIn K (.ref X_NoNumber) (.ref X_NoSize) = some false)
    (su_NoRoom_NoSize : PySem.W.subIn K (.ref X_NoRoom) (.ref X_NoSize) = some false)
    (su_NoAsk_NoSize : PySem.W.subIn K (.ref X_NoAsk) (.ref X_NoSize) = some false)
    (su_NoSize_NoSize : PySem.W.subIn K (.ref X_NoSize) (.ref X_NoSize) = some true)
    (su_NoWay_NoSize : PySem.W.subIn K (.ref X_NoWay) (.ref X_NoSize) = some false)
    (su_Over_NoSize : PySem.W.subIn K (.ref X_Over) (.ref X_NoSize) = some false)
    (su_Unlike_NoSize : PySem.W.subIn K (.ref X_Unlike) (.ref X_NoSize) = some false)
    (su_TooMany_NoSize : PySem.W.subIn K (.ref X_TooMany) (.ref X_NoSize) = some false)
    (su_NoText_NoSize : PySem.W.subIn K (.ref X_NoText) (.ref X_NoSize) = some false)
    (su_NoRow_NoSize : PySem.W.subIn K (.ref X_NoRow) (.ref X_NoSize) = some false)
    (su_NoName_NoSize : PySem.W.subIn K (.ref X_NoName) (.ref X_NoSize) = some false)
    (ni_NoText : PySem.W.subIn K (.type "NoneType") (.ref X_NoText) = some false)
    (su_NoDraws_NoText : PySem.W.subIn K (.ref X_NoDraws) (.ref X_NoText) = some false)
    (su_NoProgram_NoText : PySem.W.subIn K (.ref X_NoProgram) (.ref X_NoText) = some false)
    (su_NoOrder_NoText : PySem.W.subIn K (.ref X_NoOrder) (.ref X_NoText) = some false)
    (su_NoNumber_NoText : PySem.W.subIn K (.ref X_NoNumber) (.ref X_NoText) = some false)
    (su_NoRoom_NoText : PySem.W.subIn K (.ref X_NoRoom) (.ref X_NoText) = some false)
    (su_NoAsk_NoText : PySem.W.subIn K (.ref X_NoAsk) (.ref X_NoText) = some false)
    (su_NoSize_NoText : PySem.W.subIn K (.ref X_NoSize) (.ref X_NoText) = some false)
    (su_NoWay_NoText : PySem.W.subIn K (.ref X_NoWay) (.ref X_NoText) = some false)
    (su_Over_NoText : PySem.W.subIn K (.ref X_Over) (.ref X_NoText) = some false)
    (su_Unlike_NoText : PySem.W.subIn K (.ref X_Unlike) (.ref X_NoText) = some false)
    (su_TooMany_NoText : PySem.W.subIn K (.ref X_TooMany) (.ref X_NoText) = some false)
    (su_NoText_NoText : PySem.W.subIn K (.ref X_NoText) (.ref X_NoText) = some true)
    (su_NoRow_NoText : PySem.W.subIn K (.ref X_NoRow) (.ref X_NoText) = some false)
    (su_NoName_NoText : PySem.W.subIn K (.ref X_NoName) (.ref X_NoText) = some false)
    (ni_NoWay : PySem.W.subIn K (.type "NoneType") (.ref X_NoWay) = some false)
    (su_NoDraws_NoWay : PySem.W.subIn K (.ref X_NoDraws) (.ref X_NoWay) = some false)
    (su_NoProgram_NoWay : PySem.W.subIn K (.ref X_NoProgram) (.ref X_NoWay) = some false)
    (su_NoOrder_NoWay : PySem.W.subIn K (.ref X_NoOrder) (.ref X_NoWay) = some false)
    (su_NoNumber_NoWay : PySem.W.subIn K (.ref X_NoNumber) (.ref X_NoWay) = some false)
    (su_NoRoom_NoWay : PySem.W.subIn K (.ref X_NoRoom) (.ref X_NoWay) = some false)
    (su_NoAsk_NoWay : PySem.W.subIn K (.ref X_NoAsk) (.ref X_NoWay) = some false)
    (su_NoSize_NoWay : PySem.W.subIn K (.ref X_NoSize) (.ref X_NoWay) = some false)
    (su_NoWay_NoWay : PySem.W.subIn K (.ref X_NoWay) (.ref X_NoWay) = some true)
    (su_Over_NoWay : PySem.W.subIn K (.ref X_Over) (.ref X_NoWay) = some false)
    (su_Unlike_NoWay : PySem.W.subIn K (.ref X_Unlike) (.ref X_NoWay) = some false)
    (su_TooMany_NoWay : PySem.W.subIn K (.ref X_TooMany) (.ref X_NoWay) = some false)
    (su_NoText_NoWay : PySem.W.subIn K (.ref X_NoText) (.ref X_NoWay) = some false)
    (su_NoRow_NoWay : PySem.W.subIn K (.ref X_NoRow) (.ref X_NoWay) = some false)
    (su_NoName_NoWay : PySem.W.subIn K (.ref X_NoName) (.ref X_NoWay) = some false)
    (ni_Over : PySem.W.subIn K (.type "NoneType") (.ref X_Over) = some false)
    (su_NoDraws_Over : PySem.W.subIn K (.ref X_NoDraws) (.ref X_Over) = some false)
    (su_NoProgram_Over : PySem.W.subIn K (.ref X_NoProgram) (.ref X_Over) = some false)
    (su_NoOrder_Over : PySem.W.subIn K (.ref X_NoOrder) (.ref X_Over) = some false)
    (su_NoNumber_Over : PySem.W.subIn K (.ref X_NoNumber) (.ref X_Over) = some false)
    (su_NoRoom_Over : PySem.W.subIn K (.ref X_NoRoom) (.ref X_Over) = some false)
    (su_NoAsk_Over : PySem.W.subIn K (.ref X_NoAsk) (.ref X_Over) = some false)
    (su_NoSize_Over : PySem.W.subIn K (.ref X_NoSize) (.ref X_Over) = some false)
    (su_NoWay_Over : PySem.W.subIn K (.ref X_NoWay) (.ref X_Over) = some false)
    (su_Over_Over : PySem.W.subIn K (.ref X_Over) (.ref X_Over) = some true)
    (su_Unlike_Over : PySem.W.subIn K (.ref X_Unlike) (.ref X_Over) = some false)
    (su_TooMany_Over : PySem.W.subIn K (.ref X_TooMany) (.ref X_Over) = some false)
    (su_NoText_Over : PySem.W.subIn K (.ref X_NoText) (.ref X_Over) = some false)
    (su_NoRow_Over : PySem.W.subIn K (.ref X_NoRow) (.ref X_Over) = some false)
    (su_NoName_Over : PySem.W.subIn K (.ref X_NoName) (.ref X_Over) = some false)
    (ni_TooMany : PySem.W.subIn K (.type "NoneType") (.ref X_TooMany) = some false)
    (su_NoDraws_TooMany : PySem.W.subIn K (.ref X_NoDraws) (.ref X_TooMany) = some false)
    (su_NoProgram_TooMany : PySem.W.subIn K (.ref X_NoProgram) (.ref X_TooMany) = some false)
    (su_NoOrder_TooMany : PySem.W.subIn K (.ref X_NoOrder) (.ref X_TooMany) = some false)
    (su_NoNumber_TooMany : PySem.W.subIn K (.ref X_NoNumber) (.ref X_TooMany) = some false)
    (su_NoRoom_TooMany : PySem.W.subIn K (.ref X_NoRoom) (.ref X_TooMany) = some false)
    (su_NoAsk_TooMany : PySem.W.subIn K (.ref X_NoAsk) (.ref X_TooMany) = some false)
    (su_NoSize_TooMany : PySem.W.subIn K (.ref X_NoSize) (.ref X_TooMany) = some false)
    (su_NoWay_TooMany : PySem.W.subIn K (.ref X_NoWay) (.ref X_TooMany) = some false)
    (su_Over_TooMany : PySem.W.subIn K (.ref X_Over) (.ref X_TooMany) = some false)
    (su_Unlike_TooMany : PySem.W.subIn K (.ref X_Unlike) (.ref X_TooMany) = some false)
    (su_TooMany_TooMany : PySem.W.subIn K (.ref X_TooMany) (.ref X_TooMany) = some true)
    (su_NoText_TooMany : PySem.W.subIn K (.ref X_NoText) (.ref X_TooMany) = some false)
    (su_NoRow_TooMany : PySem.W.subIn K (.ref X_NoRow) (.ref X_TooMany) = some false)
    (su_NoName_TooMany : PySem.W.subIn K (.ref X_NoName) (.ref X_TooMany) = some false)
    (ni_TouchError : PySem.W.subIn K (.type "NoneType") (.ref X_TouchError) = some false)
    (su_NoDraws_TouchError : PySem.W.subIn K (.ref X_NoDraws) (.ref X_TouchError) = some true)
    (su_NoProgram_TouchError : PySem.W.subIn K (.ref X_NoProgram) (.ref X_TouchError) = some true)
    (su_NoOrder_TouchError : PySem.W.subIn K (.ref X_NoOrder) (.ref X_TouchError) = some true)
    (su_NoNumber_TouchError : PySem.W.subIn K (.ref X_NoNumber) (.ref X_TouchError) = some true)
    (su_NoRoom_TouchError : PySem.W.subIn K (.ref X_NoRoom) (.ref X_TouchError) = some true)
    (su_NoAsk_TouchError : PySem.W.subIn K (.ref X_NoAsk) (.ref X_TouchError) = some true)
    (su_NoSize_TouchError : PySem.W.subIn K (.ref X_NoSize) (.ref X_TouchError) = some true)
    (su_NoWay_TouchError : PySem.W.subIn K (.ref X_NoWay) (.ref X_TouchError) = some true)
    (su_Over_TouchError : PySem.W.subIn K (.ref X_Over) (.ref X_TouchError) = some true)
    (su_Unlike_TouchError : PySem.W.subIn K (.ref X_Unlike) (.ref X_TouchError) = some true)
    (su_TooMany_TouchError : PySem.W.subIn K (.ref X_TooMany) (.ref X_TouchError) = some true)
    (su_NoText_TouchError : PySem.W.subIn K (.ref X_NoText) (.ref X_TouchError) = some true)
    (su_NoRow_TouchError : PySem.W.subIn K (.ref X_NoRow) (.ref X_TouchError) = some true)
    (su_NoName_TouchError : PySem.W.subIn K (.ref X_NoName) (.ref X_TouchError) = some true)
    (ni_Unlike : PySem.W.subIn K (.type "NoneType") (.ref X_Unlike) = some false)
    (su_NoDraws_Unlike : PySem.W.subIn K (.ref X_NoDraws) (.ref X_Unlike) = some false)
    (su_NoProgram_Unlike : PySem.W.subIn K (.ref X_NoProgram) (.ref X_Unlike) = some false)
    (su_NoOrder_Unlike : PySem.W.subIn K (.ref X_NoOrder) (.ref X_Unlike) = some false)
    (su_NoNumber_Unlike : PySem.W.subIn K (.ref X_NoNumber) (.ref X_Unlike) = some false)
    (su_NoRoom_Unlike : PySem.W.subIn K (.ref X_NoRoom) (.ref X_Unlike) = some false)
    (su_NoAsk_Unlike : PySem.W.subIn K (.ref X_NoAsk) (.ref X_Unlike) = some false)
    (su_NoSize_Unlike : PySem.W.subIn K (.ref X_NoSize) (.ref X_Unlike) = some false)
    (su_NoWay_Unlike : PySem.W.subIn K (.ref X_NoWay) (.ref X_Unlike) = some false)
    (su_Over_Unlike : PySem.W.subIn K (.ref X_Over) (.ref X_Unlike) = some false)
    (su_Unlike_Unlike : PySem.W.subIn K (.ref X_Unlike) (.ref X_Unlike) = some true)
    (su_TooMany_Unlike : PySem.W.subIn K (.ref X_TooMany) (.ref X_Unlike) = some false)
    (su_NoText_Unlike : PySem.W.subIn K (.ref X_NoText) (.ref X_Unlike) = some false)
    (su_NoRow_Unlike : PySem.W.subIn K (.ref X_NoRow) (.ref X_Unlike) = some false)
    (su_NoName_Unlike : PySem.W.subIn K (.ref X_NoName) (.ref X_Unlike) = some false)
    (ni_ValueError : PySem.W.subIn K (.type "NoneType") (.type "ValueError") = some false)
    (su_NoDraws_ValueError : PySem.W.subIn K (.ref X_NoDraws) (.type "ValueError") = some true)
    (su_NoProgram_ValueError : PySem.W.subIn K (.ref X_NoProgram) (.type "ValueError") = some true)
    (su_NoOrder_ValueError : PySem.W.subIn K (.ref X_NoOrder) (.type "ValueError") = some true)
    (su_NoNumber_ValueError : PySem.W.subIn K (.ref X_NoNumber) (.type "ValueError") = some true)
    (su_NoRoom_ValueError : PySem.W.subIn K (.ref X_NoRoom) (.type "ValueError") = some true)
    (su_NoAsk_ValueError : PySem.W.subIn K (.ref X_NoAsk) (.type "ValueError") = some true)
    (su_NoSize_ValueError : PySem.W.subIn K (.ref X_NoSize) (.type "ValueError") = some true)
    (su_NoWay_ValueError : PySem.W.subIn K (.ref X_NoWay) (.type "ValueError") = some true)
    (su_Over_ValueError : PySem.W.subIn K (.ref X_Over) (.type "ValueError") = some true)
    (su_Unlike_ValueError : PySem.W.subIn K (.ref X_Unlike) (.type "ValueError") = some true)
    (su_TooMany_ValueError : PySem.W.subIn K (.ref X_TooMany) (.type "ValueError") = some true)
    (su_NoText_ValueError : PySem.W.subIn K (.ref X_NoText) (.type "ValueError") = some true)
    (su_NoRow_ValueError : PySem.W.subIn K (.ref X_NoRow) (.type "ValueError") = some true)
    (su_NoName_ValueError : PySem.W.subIn K (.ref X_NoName) (.type "ValueError") = some true)
    : ∃ fd : FuncData, (∀ (s : Shared) (v : Value), BindsTo s fd ⟨[v], []⟩ [("_law_script", v)]) ∧ ∀ base : Heap, K.In base → base.Ns mainGlobals mg → GFn l.prog w K mg base 4 fa fd ["_law_script"] (lift (S_law K)) := by
  have e := hfa.symm.trans (PySem.W.mg_of X G a8)
  cases e
  have B : Bs mg := ⟨PySem.W.mg_none_of X G z_ValueError, PySem.W.mg_none_of X G z_isinstance, PySem.W.mg_none_of X G z_len, PySem.W.mg_none_of X G z_min, PySem.W.mg_none_of X G z_range, PySem.W.mg_none_of X G z_repr⟩
  have XI_NoDraws : XI K "NoDraws" := xi_mk xa_NoDraws xl_NoDraws xz_NoDraws xsa_NoDraws xb_NoDraws xt_NoDraws xk_NoDraws xno_NoDraws x1_NoDraws x2_NoDraws x4_NoDraws
  have XI_NoProgram : XI K "NoProgram" := xi_mk xa_NoProgram xl_NoProgram xz_NoProgram xsa_NoProgram xb_NoProgram xt_NoProgram xk_NoProgram xno_NoProgram x1_NoProgram x2_NoProgram x4_NoProgram
  have C : Cs K mg := ⟨xg_mk X G xa_TouchError xk_TouchError, xg_mk X G xa_NoDraws xk_NoDraws, xg_mk X G xa_NoProgram xk_NoProgram, xg_mk X G xa_NoOrder xk_NoOrder, xg_mk X G xa_NoNumber xk_NoNumber, xg_mk X G xa_NoRoom xk_NoRoom, xg_mk X G xa_NoAsk xk_NoAsk, xg_mk X G xa_NoSize xk_NoSize, xg_mk X G xa_NoWay xk_NoWay, xg_mk X G xa_Over xk_Over, xg_mk X G xa_Unlike xk_Unlike, xg_mk X G xa_TooMany xk_TooMany, xg_mk X G xa_NoText xk_NoText, xg_mk X G xa_NoRow xk_NoRow, xg_mk X G xa_NoName xk_NoName, xr_mk xa_NoOrder xx_NoOrder xb_NoOrder xt_NoOrder, xr_mk xa_NoNumber xx_NoNumber xb_NoNumber xt_NoNumber, xr_mk xa_NoRoom xx_NoRoom xb_NoRoom xt_NoRoom, xr_mk xa_NoAsk xx_NoAsk xb_NoAsk xt_NoAsk, xr_mk xa_NoSize xx_NoSize xb_NoSize xt_NoSize, xr_mk xa_NoWay xx_NoWay xb_NoWay xt_NoWay, xr_mk xa_Over xx_Over xb_Over xt_Over, xr_mk xa_Unlike xx_Unlike xb_Unlike xt_Unlike, xr_mk xa_TooMany xx_TooMany xb_TooMany xt_TooMany, xr_mk xa_NoText xx_NoText xb_NoText xt_NoText, xr_mk xa_NoRow xx_NoRow xb_NoRow xt_NoRow, xr_mk xa_NoName xx_NoName xb_NoName xt_NoName, XI_NoDraws, XI_NoProgram, xb_mk xa_TouchError (PySem.W.mg_of X G xa_TouchError) xrd_TouchError xga_TouchError xfi_TouchError, List.forall_mem_cons.mpr ⟨XI_NoDraws, List.forall_mem_cons.mpr ⟨XI_NoProgram, fa_nil⟩⟩, (by rw [cl_of xa_NoAsk]; exact kit_ref x4_NoAsk xt_NoAsk xs_NoAsk ni_NoAsk), List.forall_mem_cons.mpr ⟨⟨xe_mk xa_NoDraws ⟨x1_NoDraws, x2_NoDraws, xb_NoDraws, x4_NoDraws, x5_NoDraws, x6, x7, x8_NoDraws⟩, by rw [cl_of xa_NoDraws, cl_of xa_NoAsk]; exact kit_ref x4_NoAsk xt_NoAsk xs_NoAsk su_NoDraws_NoAsk⟩, List.forall_mem_cons.mpr ⟨⟨xe_mk xa_NoProgram ⟨x1_NoProgram, x2_NoProgram, xb_NoProgram, x4_NoProgram, x5_NoProgram, x6, x7, x8_NoProgram⟩, by rw [cl_of xa_NoProgram, cl_of xa_NoAsk]; exact kit_ref x4_NoAsk xt_NoAsk xs_NoAsk su_NoProgram_NoAsk⟩, List.forall_mem_cons.mpr ⟨⟨xe_mk xa_NoOrder ⟨x1_NoOrder, x2_NoOrder, xb_NoOrder, x4_NoOrder, x5_NoOrder, x6, x7, x8_NoOrder⟩, by rw [cl_of xa_NoOrder, cl_of xa_NoAsk]; exact kit_ref x4_NoAsk xt_NoAsk xs_NoAsk su_NoOrder_NoAsk⟩, List.forall_mem_cons.mpr ⟨⟨xe_mk xa_NoNumber ⟨x1_NoNumber, x2_NoNumber, xb_NoNumber, x4_NoNumber, x5_NoNumber, x6, x7, x8_NoNumber⟩, by rw [cl_of xa_NoNumber, cl_of xa_NoAsk]; exact kit_ref x4_NoAsk xt_NoAsk xs_NoAsk su_NoNumber_NoAsk⟩, List.forall_mem_cons.mpr ⟨⟨xe_mk xa_NoRoom ⟨x1_NoRoom, x2_NoRoom, xb_NoRoom, x4_NoRoom, x5_NoRoom, x6, x7, x8_NoRoom⟩, by rw [cl_of xa_NoRoom, cl_of xa_NoAsk]; exact kit_ref x4_NoAsk xt_NoAsk xs_NoAsk su_NoRoom_NoAsk⟩, List.forall_mem_cons.mpr ⟨⟨xe_mk xa_NoAsk ⟨x1_NoAsk, x2_NoAsk, xb_NoAsk, x4_NoAsk, x5_NoAsk, x6, x7, x8_NoAsk⟩, by rw [cl_of xa_NoAsk]; exact kit_ref x4_NoAsk xt_NoAsk xs_NoAsk su_NoAsk_NoAsk⟩, List.forall_mem_cons.mpr ⟨⟨xe_mk xa_NoSize ⟨x1_NoSize, x2_NoSize, xb_NoSize, x4_NoSize, x5_NoSize, x6, x7, x8_NoSize⟩, by rw [cl_of xa_NoSize, cl_of xa_NoAsk]; exact kit_ref x4_NoAsk xt_NoAsk xs_NoAsk su_NoSize_NoAsk⟩, List.forall_mem_cons.mpr ⟨⟨xe_mk xa_NoWay ⟨x1_NoWay, x2_NoWay, xb_NoWay, x4_NoWay, x5_NoWay, x6, x7, x8_NoWay⟩, by rw [cl_of xa_NoWay, cl_of xa_NoAsk]; exact kit_ref x4_NoAsk xt_NoAsk xs_NoAsk su_NoWay_NoAsk⟩, List.forall_mem_cons.mpr ⟨⟨xe_mk xa_Over ⟨x1_Over, x2_Over, xb_Over, x4_Over, x5_Over, x6, x7, x8_Over⟩, by rw [cl_of xa_Over, cl_of xa_NoAsk]; exact kit_ref x4_NoAsk xt_NoAsk xs_NoAsk su_Over_NoAsk⟩, List.forall_mem_cons.mpr ⟨⟨xe_mk xa_Unlike ⟨x1_Unlike, x2_Unlike, xb_Unlike, x4_Unlike, x5_Unlike, x6, x7, x8_Unlike⟩, by rw [cl_of xa_Unlike, cl_of xa_NoAsk]; exact kit_ref x4_NoAsk xt_NoAsk xs_NoAsk su_Unlike_NoAsk⟩, List.forall_mem_cons.mpr ⟨⟨xe_mk xa_TooMany ⟨x1_TooMany, x2_TooMany, xb_TooMany, x4_TooMany, x5_TooMany, x6, x7, x8_TooMany⟩, by rw [cl_of xa_TooMany, cl_of xa_NoAsk]; exact kit_ref x4_NoAsk xt_NoAsk xs_NoAsk su_TooMany_NoAsk⟩, List.forall_mem_cons.mpr ⟨⟨xe_mk xa_NoText ⟨x1_NoText, x2_NoText, xb_NoText, x4_NoText, x5_NoText, x6, x7, x8_NoText⟩, by rw [cl_of xa_NoText, cl_of xa_NoAsk]; exact kit_ref x4_NoAsk xt_NoAsk xs_NoAsk su_NoText_NoAsk⟩, List.forall_mem_cons.mpr ⟨⟨xe_mk xa_NoRow ⟨x1_NoRow, x2_NoRow, xb_NoRow, x4_NoRow, x5_NoRow, x6, x7, x8_NoRow⟩, by rw [cl_of xa_NoRow, cl_of xa_NoAsk]; exact kit_ref x4_NoAsk xt_NoAsk xs_NoAsk su_NoRow_NoAsk⟩, List.forall_mem_cons.mpr ⟨⟨xe_mk xa_NoName ⟨x1_NoName, x2_NoName, xb_NoName, x4_NoName, x5_NoName, x6, x7, x8_NoName⟩, by rw [cl_of xa_NoName, cl_of xa_NoAsk]; exact kit_ref x4_NoAsk xt_NoAsk xs_NoAsk su_NoName_NoAsk⟩, fa_nil⟩⟩⟩⟩⟩⟩⟩⟩⟩⟩⟩⟩⟩⟩, (by rw [cl_of xa_NoDraws]; exact kit_ref x4_NoDraws xt_NoDraws xs_NoDraws ni_NoDraws), List.forall_mem_cons.mpr ⟨⟨xe_mk xa_NoDraws ⟨x1_NoDraws, x2_NoDraws, xb_NoDraws, x4_NoDraws, x5_NoDraws, x6, x7, x8_NoDraws⟩, by rw [cl_of xa_NoDraws]; exact kit_ref x4_NoDraws xt_NoDraws xs_NoDraws su_NoDraws_NoDraws⟩, List.forall_mem_cons.mpr ⟨⟨xe_mk xa_NoProgram ⟨x1_NoProgram, x2_NoProgram, xb_NoProgram, x4_NoProgram, x5_NoProgram, x6, x7, x8_NoProgram⟩, by rw [cl_of xa_NoProgram, cl_of xa_NoDraws]; exact kit_ref x4_NoDraws xt_NoDraws xs_NoDraws su_NoProgram_NoDraws⟩, List.forall_mem_cons.mpr ⟨⟨xe_mk xa_NoOrder ⟨x1_NoOrder, x2_NoOrder, xb_NoOrder, x4_NoOrder, x5_NoOrder, x6, x7, x8_NoOrder⟩, by rw [cl_of xa_NoOrder, cl_of xa_NoDraws]; exact kit_ref x4_NoDraws xt_NoDraws xs_NoDraws su_NoOrder_NoDraws⟩, List.forall_mem_cons.mpr ⟨⟨xe_mk xa_NoNumber ⟨x1_NoNumber, x2_NoNumber, xb_NoNumber, x4_NoNumber, x5_NoNumber, x6, x7, x8_NoNumber⟩, by rw [cl_of xa_NoNumber, cl_of xa_NoDraws]; exact kit_ref x4_NoDraws xt_NoDraws xs_NoDraws su_NoNumber_NoDraws⟩, List.forall_mem_cons.mpr ⟨⟨xe_mk xa_NoRoom ⟨x1_NoRoom, x2_NoRoom, xb_NoRoom, x4_NoRoom, x5_NoRoom, x6, x7, x8_NoRoom⟩, by rw [cl_of xa_NoRoom, cl_of xa_NoDraws]; exact kit_ref x4_NoDraws xt_NoDraws xs_NoDraws su_NoRoom_NoDraws⟩, List.forall_mem_cons.mpr ⟨⟨xe_mk xa_NoAsk ⟨x1_NoAsk, x2_NoAsk, xb_NoAsk, x4_NoAsk, x5_NoAsk, x6, x7, x8_NoAsk⟩, by rw [cl_of xa_NoAsk, cl_of xa_NoDraws]; exact kit_ref x4_NoDraws xt_NoDraws xs_NoDraws su_NoAsk_NoDraws⟩, List.forall_mem_cons.mpr ⟨⟨xe_mk xa_NoSize ⟨x1_NoSize, x2_NoSize, xb_NoSize, x4_NoSize, x5_NoSize, x6, x7, x8_NoSize⟩, by rw [cl_of xa_NoSize, cl_of xa_NoDraws]; exact kit_ref x4_NoDraws xt_NoDraws xs_NoDraws su_NoSize_NoDraws⟩, List.forall_mem_cons.mpr ⟨⟨xe_mk xa_NoWay ⟨x1_NoWay, x2_NoWay, xb_NoWay, x4_NoWay, x5_NoWay, x6, x7, x8_NoWay⟩, by rw [cl_of xa_NoWay, cl_of xa_NoDraws]; exact kit_ref x4_NoDraws xt_NoDraws xs_NoDraws su_NoWay_NoDraws⟩, List.forall_mem_cons.mpr ⟨⟨xe_mk xa_Over ⟨x1_Over, x2_Over, xb_Over, x4_Over, x5_Over, x6, x7, x8_Over⟩, by rw [cl_of xa_Over, cl_of xa_NoDraws]; exact kit_ref x4_NoDraws xt_NoDraws xs_NoDraws su_Over_NoDraws⟩, List.forall_mem_cons.mpr ⟨⟨xe_mk xa_Unlike ⟨x1_Unlike, x2_Unlike, xb_Unlike, x4_Unlike, x5_Unlike, x6, x7, x8_Unlike⟩, by rw [cl_of xa_Unlike, cl_of xa_NoDraws]; exact kit_ref x4_NoDraws xt_NoDraws xs_NoDraws su_Unlike_NoDraws⟩, List.forall_mem_cons.mpr ⟨⟨xe_mk xa_TooMany ⟨x1_TooMany, x2_TooMany, xb_TooMany, x4_TooMany, x5_TooMany, x6, x7, x8_TooMany⟩, by rw [cl_of xa_TooMany, cl_of xa_NoDraws]; exact kit_ref x4_NoDraws xt_NoDraws xs_NoDraws su_TooMany_NoDraws⟩, List.forall_mem_cons.mpr ⟨⟨xe_mk xa_NoText ⟨x1_NoText, x2_NoText, xb_NoText, x4_NoText, x5_NoText, x6, x7, x8_NoText⟩, by rw [cl_of xa_NoText, cl_of xa_NoDraws]; exact kit_ref x4_NoDraws xt_NoDraws xs_NoDraws su_NoText_NoDraws⟩, List.forall_mem_cons.mpr ⟨⟨xe_mk xa_NoRow ⟨x1_NoRow, x2_NoRow, xb_NoRow, x4_NoRow, x5_NoRow, x6, x7, x8_NoRow⟩, by rw [cl_of xa_NoRow, cl_of xa_NoDraws]; exact kit_ref x4_NoDraws xt_NoDraws xs_NoDraws su_NoRow_NoDraws⟩, List.forall_mem_cons.mpr ⟨⟨xe_mk xa_NoName ⟨x1_NoName, x2_NoName, xb_NoName, x4_NoName, x5_NoName, x6, x7, x8_NoName⟩, by rw [cl_of xa_NoName, cl_of xa_NoDraws]; exact kit_ref x4_NoDraws xt_NoDraws xs_NoDraws su_NoName_NoDraws⟩, fa_nil⟩⟩⟩⟩⟩⟩⟩⟩⟩⟩⟩⟩⟩⟩, (by rw [cl_of xa_NoName]; exact kit_ref x4_NoName xt_NoName xs_NoName ni_NoName), List.forall_mem_cons.mpr ⟨⟨xe_mk xa_NoDraws ⟨x1_NoDraws, x2_NoDraws, xb_NoDraws, x4_NoDraws, x5_NoDraws, x6, x7, x8_NoDraws⟩, by rw [cl_of xa_NoDraws, cl_of xa_NoName]; exact kit_ref x4_NoName xt_NoName xs_NoName su_NoDraws_NoName⟩, List.forall_mem_cons.mpr ⟨⟨xe_mk xa_NoProgram ⟨x1_NoProgram, x2_NoProgram, xb_NoProgram, x4_NoProgram, x5_NoProgram, x6, x7, x8_NoProgram⟩, by rw [cl_of xa_NoProgram, cl_of xa_NoName]; exact kit_ref x4_NoName xt_NoName xs_NoName su_NoProgram_NoName⟩, List.forall_mem_cons.mpr ⟨⟨xe_mk xa_NoOrder ⟨x1_NoOrder, x2_NoOrder, xb_NoOrder, x4_NoOrder, x5_NoOrder, x6, x7, x8_NoOrder⟩, by rw [cl_of xa_NoOrder, cl_of xa_NoName]; exact kit_ref x4_NoName xt_NoName xs_NoName su_NoOrder_NoName⟩, List.forall_mem_cons.mpr ⟨⟨xe_mk xa_NoNumber ⟨x1_NoNumber, x2_NoNumber, xb_NoNumber, x4_NoNumber, x5_NoNumber, x6, x7, x8_NoNumber⟩, by rw [cl_of xa_NoNumber, cl_of xa_NoName]; exact kit_ref x4_NoName xt_NoName xs_NoName su_NoNumber_NoName⟩, List.forall_mem_cons.mpr ⟨⟨xe_mk xa_NoRoom ⟨x1_NoRoom, x2_NoRoom, xb_NoRoom, x4_NoRoom, x5_NoRoom, x6, x7, x8_NoRoom⟩, by rw [cl_of xa_NoRoom, cl_of xa_NoName]; exact kit_ref x4_NoName xt_NoName xs_NoName su_NoRoom_NoName⟩, List.forall_mem_cons.mpr ⟨⟨xe_mk xa_NoAsk ⟨x1_NoAsk, x2_NoAsk, xb_NoAsk, x4_NoAsk, x5_NoAsk, x6, x7, x8_NoAsk⟩, by rw [cl_of xa_NoAsk, cl_of xa_NoName]; exact kit_ref x4_NoName xt_NoName xs_NoName su_NoAsk_NoName⟩, List.forall_mem_cons.mpr ⟨⟨xe_mk xa_NoSize ⟨x1_NoSize, x2_NoSize, xb_NoSize, x4_NoSize, x5_NoSize, x6, x7, x8_NoSize⟩, by rw [cl_of xa_NoSize, cl_of xa_NoName]; exact kit_ref x4_NoName xt_NoName xs_NoName su_NoSize_NoName⟩, List.forall_mem_cons.mpr ⟨⟨xe_mk xa_NoWay ⟨x1_NoWay, x2_NoWay, xb_NoWay, x4_NoWay, x5_NoWay, x6, x7, x8_NoWay⟩, by rw [cl_of xa_NoWay, cl_of xa_NoName]; exact kit_ref x4_NoName xt_NoName xs_NoName su_NoWay_NoName⟩, List.forall_mem_cons.mpr ⟨⟨xe_mk xa_Over ⟨x1_Over, x2_Over, xb_Over, x4_Over, x5_Over, x6, x7, x8_Over⟩, by rw [cl_of xa_Over, cl_of xa_NoName]; exact kit_ref x4_NoName xt_NoName xs_NoName su_Over_NoName⟩, List.forall_mem_cons.mpr ⟨⟨xe_mk xa_Unlike ⟨x1_Unlike, x2_Unlike, xb_Unlike, x4_Unlike, x5_Unlike, x6, x7, x8_Unlike⟩, by rw [cl_of xa_Unlike, cl_of xa_NoName]; exact kit_ref x4_NoName xt_NoName xs_NoName su_Unlike_NoName⟩, List.forall_mem_cons.mpr ⟨⟨xe_mk xa_TooMany ⟨x1_TooMany, x2_TooMany, xb_TooMany, x4_TooMany, x5_TooMany, x6, x7, x8_TooMany⟩, by rw [cl_of xa_TooMany, cl_of xa_NoName]; exact kit_ref x4_NoName xt_NoName xs_NoName su_TooMany_NoName⟩, List.forall_mem_cons.mpr ⟨⟨xe_mk xa_NoText ⟨x1_NoText, x2_NoText, xb_NoText, x4_NoText, x5_NoText, x6, x7, x8_NoText⟩, by rw [cl_of xa_NoText, cl_of xa_NoName]; exact kit_ref x4_NoName xt_NoName xs_NoName su_NoText_NoName⟩, List.forall_mem_cons.mpr ⟨⟨xe_mk xa_NoRow ⟨x1_NoRow, x2_NoRow, xb_NoRow, x4_NoRow, x5_NoRow, x6, x7, x8_NoRow⟩, by rw [cl_of xa_NoRow, cl_of xa_NoName]; exact kit_ref x4_NoName xt_NoName xs_NoName su_NoRow_NoName⟩, List.forall_mem_cons.mpr ⟨⟨xe_mk xa_NoName ⟨x1_NoName, x2_NoName, xb_NoName, x4_NoName, x5_NoName, x6, x7, x8_NoName⟩, by rw [cl_of xa_NoName]; exact kit_ref x4_NoName xt_NoName xs_NoName su_NoName_NoName⟩, fa_nil⟩⟩⟩⟩⟩⟩⟩⟩⟩⟩⟩⟩⟩⟩, (by rw [cl_of xa_NoNumber]; exact kit_ref x4_NoNumber xt_NoNumber xs_NoNumber ni_NoNumber), List.forall_mem_cons.mpr ⟨⟨xe_mk xa_NoDraws ⟨x1_NoDraws, x2_NoDraws, xb_NoDraws, x4_NoDraws, x5_NoDraws, x6, x7, x8_NoDraws⟩, by rw [cl_of xa_NoDraws, cl_of xa_NoNumber]; exact kit_ref x4_NoNumber xt_NoNumber xs_NoNumber su_NoDraws_NoNumber⟩, List.forall_mem_cons.mpr ⟨⟨xe_mk xa_NoProgram ⟨x1_NoProgram, x2_NoProgram, xb_NoProgram, x4_NoProgram, x5_NoProgram, x6, x7, x8_NoProgram⟩, by rw [cl_of xa_NoProgram, cl_of xa_NoNumber]; exact kit_ref x4_NoNumber xt_NoNumber xs_NoNumber su_NoProgram_NoNumber⟩, List.forall_mem_cons.mpr ⟨⟨xe_mk xa_NoOrder ⟨x1_NoOrder, x2_NoOrder, xb_NoOrder, x4_NoOrder, x5_NoOrder, x6, x7, x8_NoOrder⟩, by rw [cl_of xa_NoOrder, cl_of xa_NoNumber]; exact kit_ref x4_NoNumber xt_NoNumber xs_NoNumber su_NoOrder_NoNumber⟩, List.forall_mem_cons.mpr ⟨⟨xe_mk xa_NoNumber ⟨x1_NoNumber, x2_NoNumber, xb_NoNumber, x4_NoNumber, x5_NoNumber, x6, x7, x8_NoNumber⟩, by rw [cl_of xa_NoNumber]; exact kit_ref x4_NoNumber xt_NoNumber xs_NoNumber su_NoNumber_NoNumber⟩, List.forall_mem_cons.mpr ⟨⟨xe_mk xa_NoRoom ⟨x1_NoRoom, x2_NoRoom, xb_NoRoom, x4_NoRoom, x5_NoRoom, x6, x7, x8_NoRoom⟩, by rw [cl_of xa_NoRoom, cl_of xa_NoNumber]; exact kit_ref x4_NoNumber xt_NoNumber xs_NoNumber su_NoRoom_NoNumber⟩, List.forall_mem_cons.mpr ⟨⟨xe_mk xa_NoAsk ⟨x1_NoAsk, x2_NoAsk, xb_NoAsk, x4_NoAsk, x5_NoAsk, x6, x7, x8_NoAsk⟩, by rw [cl_of xa_NoAsk, cl_of xa_NoNumber]; exact kit_ref x4_NoNumber xt_NoNumber xs_NoNumber su_NoAsk_NoNumber⟩, List.forall_mem_cons.mpr ⟨⟨xe_mk xa_NoSize ⟨x1_NoSize, x2_NoSize, xb_NoSize, x4_NoSize, x5_NoSize, x6, x7, x8_NoSize⟩, by rw [cl_of xa_NoSize, cl_of xa_NoNumber]; exact kit_ref x4_NoNumber xt_NoNumber xs_NoNumber su_NoSize_NoNumber⟩, List.forall_mem_cons.mpr ⟨⟨xe_mk xa_NoWay ⟨x1_NoWay, x2_NoWay, xb_NoWay, x4_NoWay, x5_NoWay, x6, x7, x8_NoWay⟩, by rw [cl_of xa_NoWay, cl_of xa_NoNumber]; exact kit_ref x4_NoNumber xt_NoNumber xs_NoNumber su_NoWay_NoNumber⟩, List.forall_mem_cons.mpr ⟨⟨xe_mk xa_Over ⟨x1_Over, x2_Over, xb_Over, x4_Over, x5_Over, x6, x7, x8_Over⟩, by rw [cl_of xa_Over, cl_of xa_NoNumber]; exact kit_ref x4_NoNumber xt_NoNumber xs_NoNumber su_Over_NoNumber⟩, List.forall_mem_cons.mpr ⟨⟨xe_mk xa_Unlike ⟨x1_Unlike, x2_Unlike, xb_Unlike, x4_Unlike, x5_Unlike, x6, x7, x8_Unlike⟩, by rw [cl_of xa_Unlike, cl_of xa_NoNumber]; exact kit_ref x4_NoNumber xt_NoNumber xs_NoNumber su_Unlike_NoNumber⟩, List.forall_mem_cons.mpr ⟨⟨xe_mk xa_TooMany ⟨x1_TooMany, x2_TooMany, xb_TooMany, x4_TooMany, x5_TooMany, x6, x7, x8_TooMany⟩, by rw [cl_of xa_TooMany, cl_of xa_NoNumber]; exact kit_ref x4_NoNumber xt_NoNumber xs_NoNumber su_TooMany_NoNumber⟩, List.forall_mem_cons.mpr ⟨⟨xe_mk xa_NoText ⟨x1_NoText, x2_NoText, xb_NoText, x4_NoText, x5_NoText, x6, x7, x8_NoText⟩, by rw [cl_of xa_NoText, cl_of xa_NoNumber]; exact kit_ref x4_NoNumber xt_NoNumber xs_NoNumber su_NoText_NoNumber⟩, List.forall_mem_cons.mpr ⟨⟨xe_mk xa_NoRow ⟨x1_NoRow, x2_NoRow, xb_NoRow, x4_NoRow, x5_NoRow, x6, x7, x8_NoRow⟩, by rw [cl_of xa_NoRow, cl_of xa_NoNumber]; exact kit_ref x4_NoNumber xt_NoNumber xs_NoNumber su_NoRow_NoNumber⟩, List.forall_mem_cons.mpr ⟨⟨xe_mk xa_NoName ⟨x1_NoName, x2_NoName, xb_NoName, x4_NoName, x5_NoName, x6, x7, x8_NoName⟩, by rw [cl_of xa_NoName, cl_of xa_NoNumber]; exact kit_ref x4_NoNumber xt_NoNumber xs_NoNumber su_NoName_NoNumber⟩, fa_nil⟩⟩⟩⟩⟩⟩⟩⟩⟩⟩⟩⟩⟩⟩, (by rw [cl_of xa_NoOrder]; exact kit_ref x4_NoOrder xt_NoOrder xs_NoOrder ni_NoOrder), List.forall_mem_cons.mpr ⟨⟨xe_mk xa_NoDraws ⟨x1_NoDraws, x2_NoDraws, xb_NoDraws, x4_NoDraws, x5_NoDraws, x6, x7, x8_NoDraws⟩, by rw [cl_of xa_NoDraws, cl_of xa_NoOrder]; exact kit_ref x4_NoOrder xt_NoOrder xs_NoOrder su_NoDraws_NoOrder⟩, List.forall_mem_cons.mpr ⟨⟨xe_mk xa_NoProgram ⟨x1_NoProgram, x2_NoProgram, xb_NoProgram, x4_NoProgram, x5_NoProgram, x6, x7, x8_NoProgram⟩, by rw [cl_of xa_NoProgram, cl_of xa_NoOrder]; exact kit_ref x4_NoOrder xt_NoOrder xs_NoOrder su_NoProgram_NoOrder⟩, List.forall_mem_cons.mpr ⟨⟨xe_mk xa_NoOrder ⟨x1_NoOrder, x2_NoOrder, xb_NoOrder, x4_NoOrder, x5_NoOrder, x6, x7, x8_NoOrder⟩, by rw [cl_of xa_NoOrder]; exact kit_ref x4_NoOrder xt_NoOrder xs_NoOrder su_NoOrder_NoOrder⟩, List.forall_mem_cons.mpr ⟨⟨xe_mk xa_NoNumber ⟨x1_NoNumber, x2_NoNumber, xb_NoNumber, x4_NoNumber, x5_NoNumber, x6, x7, x8_NoNumber⟩, by rw [cl_of xa_NoNumber, cl_of xa_NoOrder]; exact kit_ref x4_NoOrder xt_NoOrder xs_NoOrder su_NoNumber_NoOrder⟩, List.forall_mem_cons.mpr ⟨⟨xe_mk xa_NoRoom ⟨x1_NoRoom, x2_NoRoom, xb_NoRoom, x4_NoRoom, x5_NoRoom, x6, x7, x8_NoRoom⟩, by rw [cl_of xa_NoRoom, cl_of xa_NoOrder]; exact kit_ref x4_NoOrder xt_NoOrder xs_NoOrder su_NoRoom_NoOrder⟩, List.forall_mem_cons.mpr ⟨⟨xe_mk xa_NoAsk ⟨x1_NoAsk, x2_NoAsk, xb_NoAsk, x4_NoAsk, x5_NoAsk, x6, x7, x8_NoAsk⟩, by rw [cl_of xa_NoAsk, cl_of xa_NoOrder]; exact kit_ref x4_NoOrder xt_NoOrder xs_NoOrder su_NoAsk_NoOrder⟩, List.forall_mem_cons.mpr ⟨⟨xe_mk xa_NoSize ⟨x1_NoSize, x2_NoSize, xb_NoSize, x4_NoSize, x5_NoSize, x6, x7, x8_NoSize⟩, by rw [cl_of xa_NoSize, cl_of xa_NoOrder]; exact kit_ref x4_NoOrder xt_NoOrder xs_NoOrder su_NoSize_NoOrder⟩, List.forall_mem_cons.mpr ⟨⟨xe_mk xa_NoWay ⟨x1_NoWay, x2_NoWay, xb_NoWay, x4_NoWay, x5_NoWay, x6, x7, x8_NoWay⟩, by rw [cl_of xa_NoWay, cl_of xa_NoOrder]; exact kit_ref x4_NoOrder xt_NoOrder xs_NoOrder su_NoWay_NoOrder⟩, List.forall_mem_cons.mpr ⟨⟨xe_mk xa_Over ⟨x1_Over, x2_Over, xb_Over, x4_Over, x5_Over, x6, x7, x8_Over⟩, by rw [cl_of xa_Over, cl_of xa_NoOrder]; exact kit_ref x4_NoOrder xt_NoOrder xs_NoOrder su_Over_NoOrder⟩, List.forall_mem_cons.mpr ⟨⟨xe_mk xa_Unlike ⟨x1_Unlike, x2_Unlike, xb_Unlike, x4_Unlike, x5_Unlike, x6, x7, x8_Unlike⟩, by rw [cl_of xa_Unlike, cl_of xa_NoOrder]; exact kit_ref x4_NoOrder xt_NoOrder xs_NoOrder su_Unlike_NoOrder⟩, List.forall_mem_cons.mpr ⟨⟨xe_mk xa_TooMany ⟨x1_TooMany, x2_TooMany, xb_TooMany, x4_TooMany, x5_TooMany, x6, x7, x8_TooMany⟩, by rw [cl_of xa_TooMany, cl_of xa_NoOrder]; exact kit_ref x4_NoOrder xt_NoOrder xs_NoOrder su_TooMany_NoOrder⟩, List.forall_mem_cons.mpr ⟨⟨xe_mk xa_NoText ⟨x1_NoText, x2_NoText, xb_NoText, x4_NoText, x5_NoText, x6, x7, x8_NoText⟩, by rw [cl_of xa_NoText, cl_of xa_NoOrder]; exact kit_ref x4_NoOrder xt_NoOrder xs_NoOrder su_NoText_NoOrder⟩, List.forall_mem_cons.mpr ⟨⟨xe_mk xa_NoRow ⟨x1_NoRow, x2_NoRow, xb_NoRow, x4_NoRow, x5_NoRow, x6, x7, x8_NoRow⟩, by rw [cl_of xa_NoRow, cl_of xa_NoOrder]; exact kit_ref x4_NoOrder xt_NoOrder xs_NoOrder su_NoRow_NoOrder⟩, List.forall_mem_cons.mpr ⟨⟨xe_mk xa_NoName ⟨x1_NoName, x2_NoName, xb_NoName, x4_NoName, x5_NoName, x6, x7, x8_NoName⟩, by rw [cl_of xa_NoName, cl_of xa_NoOrder]; exact kit_ref x4_NoOrder xt_NoOrder xs_NoOrder su_NoName_NoOrder⟩, fa_nil⟩⟩⟩⟩⟩⟩⟩⟩⟩⟩⟩⟩⟩⟩, (by rw [cl_of xa_NoProgram]; exact kit_ref x4_NoProgram xt_NoProgram xs_NoProgram ni_NoProgram), List.forall_mem_cons.mpr ⟨⟨xe_mk xa_NoDraws ⟨x1_NoDraws, x2_NoDraws, xb_NoDraws, x4_NoDraws, x5_NoDraws, x6, x7, x8_NoDraws⟩, by rw [cl_of xa_NoDraws, cl_of xa_NoProgram]; exact kit_ref x4_NoProgram xt_NoProgram xs_NoProgram su_NoDraws_NoProgram⟩, List.forall_mem_cons.mpr ⟨⟨xe_mk xa_NoProgram ⟨x1_NoProgram, x2_NoProgram, xb_NoProgram, x4_NoProgram, x5_NoProgram, x6, x7, x8_NoProgram⟩, by rw [cl_of xa_NoProgram]; exact kit_ref x4_NoProgram xt_NoProgram xs_NoProgram su_NoProgram_NoProgram⟩, List.forall_mem_cons.mpr ⟨⟨xe_mk xa_NoOrder ⟨x1_NoOrder, x2_NoOrder, xb_NoOrder, x4_NoOrder, x5_NoOrder, x6, x7, x8_NoOrder⟩, by rw [cl_of xa_NoOrder, cl_of xa_NoProgram]; exact kit_ref x4_NoProgram xt_NoProgram xs_NoProgram su_NoOrder_NoProgram⟩, List.forall_mem_cons.mpr ⟨⟨xe_mk xa_NoNumber ⟨x1_NoNumber, x2_NoNumber, xb_NoNumber, x4_NoNumber, x5_NoNumber, x6, x7, x8_NoNumber⟩, by rw [cl_of xa_NoNumber, cl_of xa_NoProgram]; exact kit_ref x4_NoProgram xt_NoProgram xs_NoProgram su_NoNumber_NoProgram⟩, List.forall_mem_cons.mpr ⟨⟨xe_mk xa_NoRoom ⟨x1_NoRoom, x2_NoRoom, xb_NoRoom, x4_NoRoom, x5_NoRoom, x6, x7, x8_NoRoom⟩, by rw [cl_of xa_NoRoom, cl_of xa_NoProgram]; exact kit_ref x4_NoProgram xt_NoProgram xs_NoProgram su_NoRoom_NoProgram⟩, List.forall_mem_cons.mpr ⟨⟨xe_mk xa_NoAsk ⟨x1_NoAsk, x2_NoAsk, xb_NoAsk, x4_NoAsk, x5_NoAsk, x6, x7, x8_NoAsk⟩, by rw [cl_of xa_NoAsk, cl_of xa_NoProgram]; exact kit_ref x4_NoProgram xt_NoProgram xs_NoProgram su_NoAsk_NoProgram⟩, List.forall_mem_cons.mpr ⟨⟨xe_mk xa_NoSize ⟨x1_NoSize, x2_NoSize, xb_NoSize, x4_NoSize, x5_NoSize, x6, x7, x8_NoSize⟩, by rw [cl_of xa_NoSize, cl_of xa_NoProgram]; exact kit_ref x4_NoProgram xt_NoProgram xs_NoProgram su_NoSize_NoProgram⟩, List.forall_mem_cons.mpr ⟨⟨xe_mk xa_NoWay ⟨x1_NoWay, x2_NoWay, xb_NoWay, x4_NoWay, x5_NoWay, x6, x7, x8_NoWay⟩, by rw [cl_of xa_NoWay, cl_of xa_NoProgram]; exact kit_ref x4_NoProgram xt_NoProgram xs_NoProgram su_NoWay_NoProgram⟩, List.forall_mem_cons.mpr ⟨⟨xe_mk xa_Over ⟨x1_Over, x2_Over, xb_Over, x4_Over, x5_Over, x6, x7, x8_Over⟩, by rw [cl_of xa_Over, cl_of xa_NoProgram]; exact kit_ref x4_NoProgram xt_NoProgram xs_NoProgram su_Over_NoProgram⟩, List.forall_mem_cons.mpr ⟨⟨xe_mk xa_Unlike ⟨x1_Unlike, x2_Unlike, xb_Unlike, x4_Unlike, x5_Unlike, x6, x7, x8_Unlike⟩, by rw [cl_of xa_Unlike, cl_of xa_NoProgram]; exact kit_ref x4_NoProgram xt_NoProgram xs_NoProgram su_Unlike_NoProgram⟩, List.forall_mem_cons.mpr ⟨⟨xe_mk xa_TooMany ⟨x1_TooMany, x2_TooMany, xb_TooMany, x4_TooMany, x5_TooMany, x6, x7, x8_TooMany⟩, by rw [cl_of xa_TooMany, cl_of xa_NoProgram]; exact kit_ref x4_NoProgram xt_NoProgram xs_NoProgram su_TooMany_NoProgram⟩, List.forall_mem_cons.mpr ⟨⟨xe_mk xa_NoText ⟨x1_NoText, x2_NoText, xb_NoText, x4_NoText, x5_NoText, x6, x7, x8_NoText⟩, by rw [cl_of xa_NoText, cl_of xa_NoProgram]; exact kit_ref x4_NoProgram xt_NoProgram xs_NoProgram su_NoText_NoProgram⟩, List.forall_mem_cons.mpr ⟨⟨xe_mk xa_NoRow ⟨x1_NoRow, x2_NoRow, xb_NoRow, x4_NoRow, x5_NoRow, x6, x7, x8_NoRow⟩, by rw [cl_of xa_NoRow, cl_of xa_NoProgram]; exact kit_ref x4_NoProgram xt_NoProgram xs_NoProgram su_NoRow_NoProgram⟩, List.forall_mem_cons.mpr ⟨⟨xe_mk xa_NoName ⟨x1_NoName, x2_NoName, xb_NoName, x4_NoName, x5_NoName, x6, x7, x8_NoName⟩, by rw [cl_of xa_NoName, cl_of xa_NoProgram]; exact kit_ref x4_NoProgram xt_NoProgram xs_NoProgram su_NoName_NoProgram⟩, fa_nil⟩⟩⟩⟩⟩⟩⟩⟩⟩⟩⟩⟩⟩⟩, (by rw [cl_of xa_NoRoom]; exact kit_ref x4_NoRoom xt_NoRoom xs_NoRoom ni_NoRoom), List.forall_mem_cons.mpr ⟨⟨xe_mk xa_NoDraws ⟨x1_NoDraws, x2_NoDraws, xb_NoDraws, x4_NoDraws, x5_NoDraws, x6, x7, x8_NoDraws⟩, by rw [cl_of xa_NoDraws, cl_of xa_NoRoom]; exact kit_ref x4_NoRoom xt_NoRoom xs_NoRoom su_NoDraws_NoRoom⟩, List.forall_mem_cons.mpr ⟨⟨xe_mk xa_NoProgram ⟨x1_NoProgram, x2_NoProgram, xb_NoProgram, x4_NoProgram, x5_NoProgram, x6, x7, x8_NoProgram⟩, by rw [cl_of xa_NoProgram, cl_of xa_NoRoom]; exact kit_ref x4_NoRoom xt_NoRoom xs_NoRoom su_NoProgram_NoRoom⟩, List.forall_mem_cons.mpr ⟨⟨xe_mk xa_NoOrder ⟨x1_NoOrder, x2_NoOrder, xb_NoOrder, x4_NoOrder, x5_NoOrder, x6, x7, x8_NoOrder⟩, by rw [cl_of xa_NoOrder, cl_of xa_NoRoom]; exact kit_ref x4_NoRoom xt_NoRoom xs_NoRoom su_NoOrder_NoRoom⟩, List.forall_mem_cons.mpr ⟨⟨xe_mk xa_NoNumber ⟨x1_NoNumber, x2_NoNumber, xb_NoNumber, x4_NoNumber, x5_NoNumber, x6, x7, x8_NoNumber⟩, by rw [cl_of xa_NoNumber, cl_of xa_NoRoom]; exact kit_ref x4_NoRoom xt_NoRoom xs_NoRoom su_NoNumber_NoRoom⟩, List.forall_mem_cons.mpr ⟨⟨xe_mk xa_NoRoom ⟨x1_NoRoom, x2_NoRoom, xb_NoRoom, x4_NoRoom, x5_NoRoom, x6, x7, x8_NoRoom⟩, by rw [cl_of xa_NoRoom]; exact kit_ref x4_NoRoom xt_NoRoom xs_NoRoom su_NoRoom_NoRoom⟩, List.forall_mem_cons.mpr ⟨⟨xe_mk xa_NoAsk ⟨x1_NoAsk, x2_NoAsk, xb_NoAsk, x4_NoAsk, x5_NoAsk, x6, x7, x8_NoAsk⟩, by rw [cl_of xa_NoAsk, cl_of xa_NoRoom]; exact kit_ref x4_NoRoom xt_NoRoom xs_NoRoom su_NoAsk_NoRoom⟩, List.forall_mem_cons.mpr ⟨⟨xe_mk xa_NoSize ⟨x1_NoSize, x2_NoSize, xb_NoSize, x4_NoSize, x5_NoSize, x6, x7, x8_NoSize⟩, by rw [cl_of xa_NoSize, cl_of xa_NoRoom]; exact kit_ref x4_NoRoom xt_NoRoom xs_NoRoom su_NoSize_NoRoom⟩, List.forall_mem_cons.mpr ⟨⟨xe_mk xa_NoWay ⟨x1_NoWay, x2_NoWay, xb_NoWay, x4_NoWay, x5_NoWay, x6, x7, x8_NoWay⟩, by rw [cl_of xa_NoWay, cl_of xa_NoRoom]; exact kit_ref x4_NoRoom xt_NoRoom xs_NoRoom su_NoWay_NoRoom⟩, List.forall_mem_cons.mpr ⟨⟨xe_mk xa_Over ⟨x1_Over, x2_Over, xb_Over, x4_Over, x5_Over, x6, x7, x8_Over⟩, by rw [cl_of xa_Over, cl_of xa_NoRoom]; exact kit_ref x4_NoRoom xt_NoRoom xs_NoRoom su_Over_NoRoom⟩, List.forall_mem_cons.mpr ⟨⟨xe_mk xa_Unlike ⟨x1_Unlike, x2_Unlike, xb_Unlike, x4_Unlike, x5_Unlike, x6, x7, x8_Unlike⟩, by rw [cl_of xa_Unlike, cl_of xa_NoRoom]; exact kit_ref x4_NoRoom xt_NoRoom xs_NoRoom su_Unlike_NoRoom⟩, List.forall_mem_cons.mpr ⟨⟨xe_mk xa_TooMany ⟨x1_TooMany, x2_TooMany, xb_TooMany, x4_TooMany, x5_TooMany, x6, x7, x8_TooMany⟩, by rw [cl_of xa_TooMany, cl_of xa_NoRoom]; exact kit_ref x4_NoRoom xt_NoRoom xs_NoRoom su_TooMany_NoRoom⟩, List.forall_mem_cons.mpr ⟨⟨xe_mk xa_NoText ⟨x1_NoText, x2_NoText, xb_NoText, x4_NoText, x5_NoText, x6, x7, x8_NoText⟩, by rw [cl_of xa_NoText, cl_of xa_NoRoom]; exact kit_ref x4_NoRoom xt_NoRoom xs_NoRoom su_NoText_NoRoom⟩, List.forall_mem_cons.mpr ⟨⟨xe_mk xa_NoRow ⟨x1_NoRow, x2_NoRow, xb_NoRow, x4_NoRow, x5_NoRow, x6, x7, x8_NoRow⟩, by rw [cl_of xa_NoRow, cl_of xa_NoRoom]; exact kit_ref x4_NoRoom xt_NoRoom xs_NoRoom su_NoRow_NoRoom⟩, List.forall_mem_cons.mpr ⟨⟨xe_mk xa_NoName ⟨x1_NoName, x2_NoName, xb_NoName, x4_NoName, x5_NoName, x6, x7, x8_NoName⟩, by rw [cl_of xa_NoName, cl_of xa_NoRoom]; exact kit_ref x4_NoRoom xt_NoRoom xs_NoRoom su_NoName_NoRoom⟩, fa_nil⟩⟩⟩⟩⟩⟩⟩⟩⟩⟩⟩⟩⟩⟩, (by rw [cl_of xa_NoRow]; exact kit_ref x4_NoRow xt_NoRow xs_NoRow ni_NoRow), List.forall_mem_cons.mpr ⟨⟨xe_mk xa_NoDraws ⟨x1_NoDraws, x2_NoDraws, xb_NoDraws, x4_NoDraws, x5_NoDraws, x6, x7, x8_NoDraws⟩, by rw [cl_of xa_NoDraws, cl_of xa_NoRow]; exact kit_ref x4_NoRow xt_NoRow xs_NoRow su_NoDraws_NoRow⟩, List.forall_mem_cons.mpr ⟨⟨xe_mk xa_NoProgram ⟨x1_NoProgram, x2_NoProgram, xb_NoProgram, x4_NoProgram, x5_NoProgram, x6, x7, x8_NoProgram⟩, by rw [cl_of xa_NoProgram, cl_of xa_NoRow]; exact kit_ref x4_NoRow xt_NoRow xs_NoRow su_NoProgram_NoRow⟩, List.forall_mem_cons.mpr ⟨⟨xe_mk xa_NoOrder ⟨x1_NoOrder, x2_NoOrder, xb_NoOrder, x4_NoOrder, x5_NoOrder, x6, x7, x8_NoOrder⟩, by rw [cl_of xa_NoOrder, cl_of xa_NoRow]; exact kit_ref x4_NoRow xt_NoRow xs_NoRow su_NoOrder_NoRow⟩, List.forall_mem_cons.mpr ⟨⟨xe_mk xa_NoNumber ⟨x1_NoNumber, x2_NoNumber, xb_NoNumber, x4_NoNumber, x5_NoNumber, x6, x7, x8_NoNumber⟩, by rw [cl_of xa_NoNumber, cl_of xa_NoRow]; exact kit_ref x4_NoRow xt_NoRow xs_NoRow su_NoNumber_NoRow⟩, List.forall_mem_cons.mpr ⟨⟨xe_mk xa_NoRoom ⟨x1_NoRoom, x2_NoRoom, xb_NoRoom, x4_NoRoom, x5_NoRoom, x6, x7, x8_NoRoom⟩, by rw [cl_of xa_NoRoom, cl_of xa_NoRow]; exact kit_ref x4_NoRow xt_NoRow xs_NoRow su_NoRoom_NoRow⟩, List.forall_mem_cons.mpr ⟨⟨xe_mk xa_NoAsk ⟨x1_NoAsk, x2_NoAsk, xb_NoAsk, x4_NoAsk, x5_NoAsk, x6, x7, x8_NoAsk⟩, by rw [cl_of xa_NoAsk, cl_of xa_NoRow]; exact kit_ref x4_NoRow xt_NoRow xs_NoRow su_NoAsk_NoRow⟩, List.forall_mem_cons.mpr ⟨⟨xe_mk xa_NoSize ⟨x1_NoSize, x2_NoSize, xb_NoSize, x4_NoSize, x5_NoSize, x6, x7, x8_NoSize⟩, by rw [cl_of xa_NoSize, cl_of xa_NoRow]; exact kit_ref x4_NoRow xt_NoRow xs_NoRow su_NoSize_NoRow⟩, List.forall_mem_cons.mpr ⟨⟨xe_mk xa_NoWay ⟨x1_NoWay, x2_NoWay, xb_NoWay, x4_NoWay, x5_NoWay, x6, x7, x8_NoWay⟩, by rw [cl_of xa_NoWay, cl_of xa_NoRow]; exact kit_ref x4_NoRow xt_NoRow xs_NoRow su_NoWay_NoRow⟩, List.forall_mem_cons.mpr ⟨⟨xe_mk xa_Over ⟨x1_Over, x2_Over, xb_Over, x4_Over, x5_Over, x6, x7, x8_Over⟩, by rw [cl_of xa_Over, cl_of xa_NoRow]; exact kit_ref x4_NoRow xt_NoRow xs_NoRow su_Over_NoRow⟩, List.forall_mem_cons.mpr ⟨⟨xe_mk xa_Unlike ⟨x1_Unlike, x2_Unlike, xb_Unlike, x4_Unlike, x5_Unlike, x6, x7, x8_Unlike⟩, by rw [cl_of xa_Unlike, cl_of xa_NoRow]; exact kit_ref x4_NoRow xt_NoRow xs_NoRow su_Unlike_NoRow⟩, List.forall_mem_cons.mpr ⟨⟨xe_mk xa_TooMany ⟨x1_TooMany, x2_TooMany, xb_TooMany, x4_TooMany, x5_TooMany, x6, x7, x8_TooMany⟩, by rw [cl_of xa_TooMany, cl_of xa_NoRow]; exact kit_ref x4_NoRow xt_NoRow xs_NoRow su_TooMany_NoRow⟩, List.forall_mem_cons.mpr ⟨⟨xe_mk xa_NoText ⟨x1_NoText, x2_NoText, xb_NoText, x4_NoText, x5_NoText, x6, x7, x8_NoText⟩, by rw [cl_of xa_NoText, cl_of xa_NoRow]; exact kit_ref x4_NoRow xt_NoRow xs_NoRow su_NoText_NoRow⟩, List.forall_mem_cons.mpr ⟨⟨xe_mk xa_NoRow ⟨x1_NoRow, x2_NoRow, xb_NoRow, x4_NoRow, x5_NoRow, x6, x7, x8_NoRow⟩, by rw [cl_of xa_NoRow]; exact kit_ref x4_NoRow xt_NoRow xs_NoRow su_NoRow_NoRow⟩, List.forall_mem_cons.mpr ⟨⟨xe_mk xa_NoName ⟨x1_NoName, x2_NoName, xb_NoName, x4_NoName, x5_NoName, x6, x7, x8_NoName⟩, by rw [cl_of xa_NoName, cl_of xa_NoRow]; exact kit_ref x4_NoRow xt_NoRow xs_NoRow su_NoName_NoRow⟩, fa_nil⟩⟩⟩⟩⟩⟩⟩⟩⟩⟩⟩⟩⟩⟩, (by rw [cl_of xa_NoSize]; exact kit_ref x4_NoSize xt_NoSize xs_NoSize ni_NoSize), List.forall_mem_cons.mpr ⟨⟨xe_mk xa_NoDraws ⟨x1_NoDraws, x2_NoDraws, xb_NoDraws, x4_NoDraws, x5_NoDraws, x6, x7, x8_NoDraws⟩, by rw [cl_of xa_NoDraws, cl_of xa_NoSize]; exact kit_ref x4_NoSize xt_NoSize xs_NoSize su_NoDraws_NoSize⟩, List.forall_mem_cons.mpr ⟨⟨xe_mk xa_NoProgram ⟨x1_NoProgram, x2_NoProgram, xb_NoProgram, x4_NoProgram, x5_NoProgram, x6, x7, x8_NoProgram⟩, by rw [cl_of xa_NoProgram, cl_of xa_NoSize]; exact kit_ref x4_NoSize xt_NoSize xs_NoSize su_NoProgram_NoSize⟩, List.forall_mem_cons.mpr ⟨⟨xe_mk xa_NoOrder ⟨x1_NoOrder, x2_NoOrder, xb_NoOrder, x4_NoOrder, x5_NoOrder, x6, x7, x8_NoOrder⟩, by rw [cl_of xa_NoOrder, cl_of xa_NoSize]; exact kit_ref x4_NoSize xt_NoSize xs_NoSize su_NoOrder_NoSize⟩, List.forall_mem_cons.mpr ⟨⟨xe_mk xa_NoNumber ⟨x1_NoNumber, x2_NoNumber, xb_NoNumber, x4_NoNumber, x5_NoNumber, x6, x7, x8_NoNumber⟩, by rw [cl_of xa_NoNumber, cl_of xa_NoSize]; exact kit_ref x4_NoSize xt_NoSize xs_NoSize su_NoNumber_NoSize⟩, List.forall_mem_cons.mpr ⟨⟨xe_mk xa_NoRoom ⟨x1_NoRoom, x2_NoRoom, xb_NoRoom, x4_NoRoom, x5_NoRoom, x6, x7, x8_NoRoom⟩, by rw [cl_of xa_NoRoom, cl_of xa_NoSize]; exact kit_ref x4_NoSize xt_NoSize xs_NoSize su_NoRoom_NoSize⟩, List.forall_mem_cons.mpr ⟨⟨xe_mk xa_NoAsk ⟨x1_NoAsk, x2_NoAsk, xb_NoAsk, x4_NoAsk, x5_NoAsk, x6, x7, x8_NoAsk⟩, by rw [cl_of xa_NoAsk, cl_of xa_NoSize]; exact kit_ref x4_NoSize xt_NoSize xs_NoSize su_NoAsk_NoSize⟩, List.forall_mem_cons.mpr ⟨⟨xe_mk xa_NoSize ⟨x1_NoSize, x2_NoSize, xb_NoSize, x4_NoSize, x5_NoSize, x6, x7, x8_NoSize⟩, by rw [cl_of xa_NoSize]; exact kit_ref x4_NoSize xt_NoSize xs_NoSize su_NoSize_NoSize⟩, List.forall_mem_cons.mpr ⟨⟨xe_mk xa_NoWay ⟨x1_NoWay, x2_NoWay, xb_NoWay, x4_NoWay, x5_NoWay, x6, x7, x8_NoWay⟩, by rw [cl_of xa_NoWay, cl_of xa_NoSize]; exact kit_ref x4_NoSize xt_NoSize xs_NoSize su_NoWay_NoSize⟩, List.forall_mem_cons.mpr ⟨⟨xe_mk xa_Over ⟨x1_Over, x2_Over, xb_Over, x4_Over, x5_Over, x6, x7, x8_Over⟩, by rw [cl_of xa_Over, cl_of xa_NoSize]; exact kit_ref x4_NoSize xt_NoSize xs_NoSize su_Over_NoSize⟩, List.forall_mem_cons.mpr ⟨⟨xe_mk xa_Unlike ⟨x1_Unlike, x2_Unlike, xb_Unlike, x4_Unlike, x5_Unlike, x6, x7, x8_Unlike⟩, by rw [cl_of xa_Unlike, cl_of xa_NoSize]; exact kit_ref x4_NoSize xt_NoSize xs_NoSize su_Unlike_NoSize⟩, List.forall_mem_cons.mpr ⟨⟨xe_mk xa_TooMany ⟨x1_TooMany, x2_TooMany, xb_TooMany, x4_TooMany, x5_TooMany, x6, x7, x8_TooMany⟩, by rw [cl_of xa_TooMany, cl_of xa_NoSize]; exact kit_ref x4_NoSize xt_NoSize xs_NoSize su_TooMany_NoSize⟩, List.forall_mem_cons.mpr ⟨⟨xe_mk xa_NoText ⟨x1_NoText, x2_NoText, xb_NoText, x4_NoText, x5_NoText, x6, x7, x8_NoText⟩, by rw [cl_of xa_NoText, cl_of xa_NoSize]; exact kit_ref x4_NoSize xt_NoSize xs_NoSize su_NoText_NoSize⟩, List.forall_mem_cons.mpr ⟨⟨xe_mk xa_NoRow ⟨x1_NoRow, x2_NoRow, xb_NoRow, x4_NoRow, x5_NoRow, x6, x7, x8_NoRow⟩, by rw [cl_of xa_NoRow, cl_of xa_NoSize]; exact kit_ref x4_NoSize xt_NoSize xs_NoSize su_NoRow_NoSize⟩, List.forall_mem_cons.mpr ⟨⟨xe_mk xa_NoName ⟨x1_NoName, x2_NoName, xb_NoName, x4_NoName, x5_NoName, x6, x7, x8_NoName⟩, by rw [cl_of xa_NoName, cl_of xa_NoSize]; exact kit_ref x4_NoSize xt_NoSize xs_NoSize su_NoName_NoSize⟩, fa_nil⟩⟩⟩⟩⟩⟩⟩⟩⟩⟩⟩⟩⟩⟩, (by rw [cl_of xa_NoText]; exact kit_ref x4_NoText xt_NoText xs_NoText ni_NoText), List.forall_mem_cons.mpr ⟨⟨xe_mk xa_NoDraws ⟨x1_NoDraws, x2_NoDraws, xb_NoDraws, x4_NoDraws, x5_NoDraws, x6, x7, x8_NoDraws⟩, by rw [cl_of xa_NoDraws, cl_of xa_NoText]; exact kit_ref x4_NoText xt_NoText xs_NoText su_NoDraws_NoText⟩, List.forall_mem_cons.mpr ⟨⟨xe_mk xa_NoProgram ⟨x1_NoProgram, x2_NoProgram, xb_NoProgram, x4_NoProgram, x5_NoProgram, x6, x7, x8_NoProgram⟩, by rw [cl_of xa_NoProgram, cl_of xa_NoText]; exact kit_ref x4_NoText xt_NoText xs_NoText su_NoProgram_NoText⟩, List.forall_mem_cons.mpr ⟨⟨xe_mk xa_NoOrder ⟨x1_NoOrder, x2_NoOrder, xb_NoOrder, x4_NoOrder, x5_NoOrder, x6, x7, x8_NoOrder⟩, by rw [cl_of xa_NoOrder, cl_of xa_NoText]; exact kit_ref x4_NoText xt_NoText xs_NoText su_NoOrder_NoText⟩, List.forall_mem_cons.mpr ⟨⟨xe_mk xa_NoNumber ⟨x1_NoNumber, x2_NoNumber, xb_NoNumber, x4_NoNumber, x5_NoNumber, x6, x7, x8_NoNumber⟩, by rw [cl_of xa_NoNumber, cl_of xa_NoText]; exact kit_ref x4_NoText xt_NoText xs_NoText su_NoNumber_NoText⟩, List.forall_mem_cons.mpr ⟨⟨xe_mk xa_NoRoom ⟨x1_NoRoom, x2_NoRoom, xb_NoRoom, x4_NoRoom, x5_NoRoom, x6, x7, x8_NoRoom⟩, by rw [cl_of xa_NoRoom, cl_of xa_NoText]; exact kit_ref x4_NoText xt_NoText xs_NoText su_NoRoom_NoText⟩, List.forall_mem_cons.mpr ⟨⟨xe_mk xa_NoAsk ⟨x1_NoAsk, x2_NoAsk, xb_NoAsk, x4_NoAsk, x5_NoAsk, x6, x7, x8_NoAsk⟩, by rw [cl_of xa_NoAsk, cl_of xa_NoText]; exact kit_ref x4_NoText xt_NoText xs_NoText su_NoAsk_NoText⟩, List.forall_mem_cons.mpr ⟨⟨xe_mk xa_NoSize ⟨x1_NoSize, x2_NoSize, xb_NoSize, x4_NoSize, x5_NoSize, x6, x7, x8_NoSize⟩, by rw [cl_of xa_NoSize, cl_of xa_NoText]; exact kit_ref x4_NoText xt_NoText xs_NoText su_NoSize_NoText⟩, List.forall_mem_cons.mpr ⟨⟨xe_mk xa_NoWay ⟨x1_NoWay, x2_NoWay, xb_NoWay, x4_NoWay, x5_NoWay, x6, x7, x8_NoWay⟩, by rw [cl_of xa_NoWay, cl_of xa_NoText]; exact kit_ref x4_NoText xt_NoText xs_NoText su_NoWay_NoText⟩, List.forall_mem_cons.mpr ⟨⟨xe_mk xa_Over ⟨x1_Over, x2_Over, xb_Over, x4_Over, x5_Over, x6, x7, x8_Over⟩, by rw [cl_of xa_Over, cl_of xa_NoText]; exact kit_ref x4_NoText xt_NoText xs_NoText su_Over_NoText⟩, List.forall_mem_cons.mpr ⟨⟨xe_mk xa_Unlike ⟨x1_Unlike, x2_Unlike, xb_Unlike, x4_Unlike, x5_Unlike, x6, x7, x8_Unlike⟩, by rw [cl_of xa_Unlike, cl_of xa_NoText]; exact kit_ref x4_NoText xt_NoText xs_NoText su_Unlike_NoText⟩, List.forall_mem_cons.mpr ⟨⟨xe_mk xa_TooMany ⟨x1_TooMany, x2_TooMany, xb_TooMany, x4_TooMany, x5_TooMany, x6, x7, x8_TooMany⟩, by rw [cl_of xa_TooMany, cl_of xa_NoText]; exact kit_ref x4_NoText xt_NoText xs_NoText su_TooMany_NoText⟩, List.forall_mem_cons.mpr ⟨⟨xe_mk xa_NoText ⟨x1_NoText, x2_NoText, xb_NoText, x4_NoText, x5_NoText, x6, x7, x8_NoText⟩, by rw [cl_of xa_NoText]; exact kit_ref x4_NoText xt_NoText xs_NoText su_NoText_NoText⟩, List.forall_mem_cons.mpr ⟨⟨xe_mk xa_NoRow ⟨x1_NoRow, x2_NoRow, xb_NoRow, x4_NoRow, x5_NoRow, x6, x7, x8_NoRow⟩, by rw [cl_of xa_NoRow, cl_of xa_NoText]; exact kit_ref x4_NoText xt_NoText xs_NoText su_NoRow_NoText⟩, List.forall_mem_cons.mpr ⟨⟨xe_mk xa_NoName ⟨x1_NoName, x2_NoName, xb_NoName, x4_NoName, x5_NoName, x6, x7, x8_NoName⟩, by rw [cl_of xa_NoName, cl_of xa_NoText]; exact kit_ref x4_NoText xt_NoText xs_NoText su_NoName_NoText⟩, fa_nil⟩⟩⟩⟩⟩⟩⟩⟩⟩⟩⟩⟩⟩⟩, (by rw [cl_of xa_NoWay]; exact kit_ref x4_NoWay xt_NoWay xs_NoWay ni_NoWay), List.forall_mem_cons.mpr ⟨⟨xe_mk xa_NoDraws ⟨x1_NoDraws, x2_NoDraws, xb_NoDraws, x4_NoDraws, x5_NoDraws, x6, x7, x8_NoDraws⟩, by rw [cl_of xa_NoDraws, cl_of xa_NoWay]; exact kit_ref x4_NoWay xt_NoWay xs_NoWay su_NoDraws_NoWay⟩, List.forall_mem_cons.mpr ⟨⟨xe_mk xa_NoProgram ⟨x1_NoProgram, x2_NoProgram, xb_NoProgram, x4_NoProgram, x5_NoProgram, x6, x7, x8_NoProgram⟩, by rw [cl_of xa_NoProgram, cl_of xa_NoWay]; exact kit_ref x4_NoWay xt_NoWay xs_NoWay su_NoProgram_NoWay⟩, List.forall_mem_cons.mpr ⟨⟨xe_mk xa_NoOrder ⟨x1_NoOrder, x2_NoOrder, xb_NoOrder, x4_NoOrder, x5_NoOrder, x6, x7, x8_NoOrder⟩, by rw [cl_of xa_NoOrder, cl_of xa_NoWay]; exact kit_ref x4_NoWay xt_NoWay xs_NoWay su_NoOrder_NoWay⟩, List.forall_mem_cons.mpr ⟨⟨xe_mk xa_NoNumber ⟨x1_NoNumber, x2_NoNumber, xb_NoNumber, x4_NoNumber, x5_NoNumber, x6, x7, x8_NoNumber⟩, by rw [cl_of xa_NoNumber, cl_of xa_NoWay]; exact kit_ref x4_NoWay xt_NoWay xs_NoWay su_NoNumber_NoWay⟩, List.forall_mem_cons.mpr ⟨⟨xe_mk xa_NoRoom ⟨x1_NoRoom, x2_NoRoom, xb_NoRoom, x4_NoRoom, x5_NoRoom, x6, x7, x8_NoRoom⟩, by rw [cl_of xa_NoRoom, cl_of xa_NoWay]; exact kit_ref x4_NoWay xt_NoWay xs_NoWay su_NoRoom_NoWay⟩, List.forall_mem_cons.mpr ⟨⟨xe_mk xa_NoAsk ⟨x1_NoAsk, x2_NoAsk, xb_NoAsk, x4_NoAsk, x5_NoAsk, x6, x7, x8_NoAsk⟩, by rw [cl_of xa_NoAsk, cl_of xa_NoWay]; exact kit_ref x4_NoWay xt_NoWay xs_NoWay su_NoAsk_NoWay⟩, List.forall_mem_cons.mpr ⟨⟨xe_mk xa_NoSize ⟨x1_NoSize, x2_NoSize, xb_NoSize, x4_NoSize, x5_NoSize, x6, x7, x8_NoSize⟩, by rw [cl_of xa_NoSize, cl_of xa_NoWay]; exact kit_ref x4_NoWay xt_NoWay xs_NoWay su_NoSize_NoWay⟩, List.forall_mem_cons.mpr ⟨⟨xe_mk xa_NoWay ⟨x1_NoWay, x2_NoWay, xb_NoWay, x4_NoWay, x5_NoWay, x6, x7, x8_NoWay⟩, by rw [cl_of xa_NoWay]; exact kit_ref x4_NoWay xt_NoWay xs_NoWay su_NoWay_NoWay⟩, List.forall_mem_cons.mpr ⟨⟨xe_mk xa_Over ⟨x1_Over, x2_Over, xb_Over, x4_Over, x5_Over, x6, x7, x8_Over⟩, by rw [cl_of xa_Over, cl_of xa_NoWay]; exact kit_ref x4_NoWay xt_NoWay xs_NoWay su_Over_NoWay⟩, List.forall_mem_cons.mpr ⟨⟨xe_mk xa_Unlike ⟨x1_Unlike, x2_Unlike, xb_Unlike, x4_Unlike, x5_Unlike, x6, x7, x8_Unlike⟩, by rw [cl_of xa_Unlike, cl_of xa_NoWay]; exact kit_ref x4_NoWay xt_NoWay xs_NoWay su_Unlike_NoWay⟩, List.forall_mem_cons.mpr ⟨⟨xe_mk xa_TooMany ⟨x1_TooMany, x2_TooMany, xb_TooMany, x4_TooMany, x5_TooMany, x6, x7, x8_TooMany⟩, by rw [cl_of xa_TooMany, cl_of xa_NoWay]; exact kit_ref x4_NoWay xt_NoWay xs_NoWay su_TooMany_NoWay⟩, List.forall_mem_cons.mpr ⟨⟨xe_mk xa_NoText ⟨x1_NoText, x2_NoText, xb_NoText, x4_NoText, x5_NoText, x6, x7, x8_NoText⟩, by rw [cl_of xa_NoText, cl_of xa_NoWay]; exact kit_ref x4_NoWay xt_NoWay xs_NoWay su_NoText_NoWay⟩, List.forall_mem_cons.mpr ⟨⟨xe_mk xa_NoRow ⟨x1_NoRow, x2_NoRow, xb_NoRow, x4_NoRow, x5_NoRow, x6, x7, x8_NoRow⟩, by rw [cl_of xa_NoRow, cl_of xa_NoWay]; exact kit_ref x4_NoWay xt_NoWay xs_NoWay su_NoRow_NoWay⟩, List.forall_mem_cons.mpr ⟨⟨xe_mk xa_NoName ⟨x1_NoName, x2_NoName, xb_NoName, x4_NoName, x5_NoName, x6, x7, x8_NoName⟩, by rw [cl_of xa_NoName, cl_of xa_NoWay]; exact kit_ref x4_NoWay xt_NoWay xs_NoWay su_NoName_NoWay⟩, fa_nil⟩⟩⟩⟩⟩⟩⟩⟩⟩⟩⟩⟩⟩⟩, (by rw [cl_of xa_Over]; exact kit_ref x4_Over xt_Over xs_Over ni_Over), List.forall_mem_cons.mpr ⟨⟨xe_mk xa_NoDraws ⟨x1_NoDraws, x2_NoDraws, xb_NoDraws, x4_NoDraws, x5_NoDraws, x6, x7, x8_NoDraws⟩, by rw [cl_of xa_NoDraws, cl_of xa_Over]; exact kit_ref x4_Over xt_Over xs_Over su_NoDraws_Over⟩, List.forall_mem_cons.mpr ⟨⟨xe_mk xa_NoProgram ⟨x1_NoProgram, x2_NoProgram, xb_NoProgram, x4_NoProgram, x5_NoProgram, x6, x7, x8_NoProgram⟩, by rw [cl_of xa_NoProgram, cl_of xa_Over]; exact kit_ref x4_Over xt_Over xs_Over su_NoProgram_Over⟩, List.forall_mem_cons.mpr ⟨⟨xe_mk xa_NoOrder ⟨x1_NoOrder, x2_NoOrder, xb_NoOrder, x4_NoOrder, x5_NoOrder, x6, x7, x8_NoOrder⟩, by rw [cl_of xa_NoOrder, cl_of xa_Over]; exact kit_ref x4_Over xt_Over xs_Over su_NoOrder_Over⟩, List.forall_mem_cons.mpr ⟨⟨xe_mk xa_NoNumber ⟨x1_NoNumber, x2_NoNumber, xb_NoNumber, x4_NoNumber, x5_NoNumber, x6, x7, x8_NoNumber⟩, by rw [cl_of xa_NoNumber, cl_of xa_Over]; exact kit_ref x4_Over xt_Over xs_Over su_NoNumber_Over⟩, List.forall_mem_cons.mpr ⟨⟨xe_mk xa_NoRoom ⟨x1_NoRoom, x2_NoRoom, xb_NoRoom, x4_NoRoom, x5_NoRoom, x6, x7, x8_NoRoom⟩, by rw [cl_of xa_NoRoom, cl_of xa_Over]; exact kit_ref x4_Over xt_Over xs_Over su_NoRoom_Over⟩, List.forall_mem_cons.mpr ⟨⟨xe_mk xa_NoAsk ⟨x1_NoAsk, x2_NoAsk, xb_NoAsk, x4_NoAsk, x5_NoAsk, x6, x7, x8_NoAsk⟩, by rw [cl_of xa_NoAsk, cl_of xa_Over]; exact kit_ref x4_Over xt_Over xs_Over su_NoAsk_Over⟩, List.forall_mem_cons.mpr ⟨⟨xe_mk xa_NoSize ⟨x1_NoSize, x2_NoSize, xb_NoSize, x4_NoSize, x5_NoSize, x6, x7, x8_NoSize⟩, by rw [cl_of xa_NoSize, cl_of xa_Over]; exact kit_ref x4_Over xt_Over xs_Over su_NoSize_Over⟩, List.forall_mem_cons.mpr ⟨⟨xe_mk xa_NoWay ⟨x1_NoWay, x2_NoWay, xb_NoWay, x4_NoWay, x5_NoWay, x6, x7, x8_NoWay⟩, by rw [cl_of xa_NoWay, cl_of xa_Over]; exact kit_ref x4_Over xt_Over xs_Over su_NoWay_Over⟩, List.forall_mem_cons.mpr ⟨⟨xe_mk xa_Over ⟨x1_Over, x2_Over, xb_Over, x4_Over, x5_Over, x6, x7, x8_Over⟩, by rw [cl_of xa_Over]; exact kit_ref x4_Over xt_Over xs_Over su_Over_Over⟩, List.forall_mem_cons.mpr ⟨⟨xe_mk xa_Unlike ⟨x1_Unlike, x2_Unlike, xb_Unlike, x4_Unlike, x5_Unlike, x6, x7, x8_Unlike⟩, by rw [cl_of xa_Unlike, cl_of xa_Over]; exact kit_ref x4_Over xt_Over xs_Over su_Unlike_Over⟩, List.forall_mem_cons.mpr ⟨⟨xe_mk xa_TooMany ⟨x1_TooMany, x2_TooMany, xb_TooMany, x4_TooMany, x5_TooMany, x6, x7, x8_TooMany⟩, by rw [cl_of xa_TooMany, cl_of xa_Over]; exact kit_ref x4_Over xt_Over xs_Over su_TooMany_Over⟩, List.forall_mem_cons.mpr ⟨⟨xe_mk xa_NoText ⟨x1_NoText, x2_NoText, xb_NoText, x4_NoText, x5_NoText, x6, x7, x8_NoText⟩, by rw [cl_of xa_NoText, cl_of xa_Over]; exact kit_ref x4_Over xt_Over xs_Over su_NoText_Over⟩, List.forall_mem_cons.mpr ⟨⟨xe_mk xa_NoRow ⟨x1_NoRow, x2_NoRow, xb_NoRow, x4_NoRow, x5_NoRow, x6, x7, x8_NoRow⟩, by rw [cl_of xa_NoRow, cl_of xa_Over]; exact kit_ref x4_Over xt_Over xs_Over su_NoRow_Over⟩, List.forall_mem_cons.mpr ⟨⟨xe_mk xa_NoName ⟨x1_NoName, x2_NoName, xb_NoName, x4_NoName, x5_NoName, x6, x7, x8_NoName⟩, by rw [cl_of xa_NoName, cl_of xa_Over]; exact kit_ref x4_Over xt_Over xs_Over su_NoName_Over⟩, fa_nil⟩⟩⟩⟩⟩⟩⟩⟩⟩⟩⟩⟩⟩⟩, (by rw [cl_of xa_TooMany]; exact kit_ref x4_TooMany xt_TooMany xs_TooMany ni_TooMany), List.forall_mem_cons.mpr ⟨⟨xe_mk xa_NoDraws ⟨x1_NoDraws, x2_NoDraws, xb_NoDraws, x4_NoDraws, x5_NoDraws, x6, x7, x8_NoDraws⟩, by rw [cl_of xa_NoDraws, cl_of xa_TooMany]; exact kit_ref x4_TooMany xt_TooMany xs_TooMany su_NoDraws_TooMany⟩, List.forall_mem_cons.mpr ⟨⟨xe_mk xa_NoProgram ⟨x1_NoProgram, x2_NoProgram, xb_NoProgram, x4_NoProgram, x5_NoProgram, x6, x7, x8_NoProgram⟩, by rw [cl_of xa_NoProgram, cl_of xa_TooMany]; exact kit_ref x4_TooMany xt_TooMany xs_TooMany su_NoProgram_TooMany⟩, List.forall_mem_cons.mpr ⟨⟨xe_mk xa_NoOrder ⟨x1_NoOrder, x2_NoOrder, xb_NoOrder, x4_NoOrder, x5_NoOrder, x6, x7, x8_NoOrder⟩, by rw [cl_of xa_NoOrder, cl_of xa_TooMany]; exact kit_ref x4_TooMany xt_TooMany xs_TooMany su_NoOrder_TooMany⟩, List.forall_mem_cons.mpr ⟨⟨xe_mk xa_NoNumber ⟨x1_NoNumber, x2_NoNumber, xb_NoNumber, x4_NoNumber, x5_NoNumber, x6, x7, x8_NoNumber⟩, by rw [cl_of xa_NoNumber, cl_of xa_TooMany]; exact kit_ref x4_TooMany xt_TooMany xs_TooMany su_NoNumber_TooMany⟩, List.forall_mem_cons.mpr ⟨⟨xe_mk xa_NoRoom ⟨x1_NoRoom, x2_NoRoom, xb_NoRoom, x4_NoRoom, x5_NoRoom, x6, x7, x8_NoRoom⟩, by rw [cl_of xa_NoRoom, cl_of xa_TooMany]; exact kit_ref x4_TooMany xt_TooMany xs_TooMany su_NoRoom_TooMany⟩, List.forall_mem_cons.mpr ⟨⟨xe_mk xa_NoAsk ⟨x1_NoAsk, x2_NoAsk, xb_NoAsk, x4_NoAsk, x5_NoAsk, x6, x7, x8_NoAsk⟩, by rw [cl_of xa_NoAsk, cl_of xa_TooMany]; exact kit_ref x4_TooMany xt_TooMany xs_TooMany su_NoAsk_TooMany⟩, List.forall_mem_cons.mpr ⟨⟨xe_mk xa_NoSize ⟨x1_NoSize, x2_NoSize, xb_NoSize, x4_NoSize, x5_NoSize, x6, x7, x8_NoSize⟩, by rw [cl_of xa_NoSize, cl_of xa_TooMany]; exact kit_ref x4_TooMany xt_TooMany xs_TooMany su_NoSize_TooMany⟩, List.forall_mem_cons.mpr ⟨⟨xe_mk xa_NoWay ⟨x1_NoWay, x2_NoWay, xb_NoWay, x4_NoWay, x5_NoWay, x6, x7, x8_NoWay⟩, by rw [cl_of xa_NoWay, cl_of xa_TooMany]; exact kit_ref x4_TooMany xt_TooMany xs_TooMany su_NoWay_TooMany⟩, List.forall_mem_cons.mpr ⟨⟨xe_mk xa_Over ⟨x1_Over, x2_Over, xb_Over, x4_Over, x5_Over, x6, x7, x8_Over⟩, by rw [cl_of xa_Over, cl_of xa_TooMany]; exact kit_ref x4_TooMany xt_TooMany xs_TooMany su_Over_TooMany⟩, List.forall_mem_cons.mpr ⟨⟨xe_mk xa_Unlike ⟨x1_Unlike, x2_Unlike, xb_Unlike, x4_Unlike, x5_Unlike, x6, x7, x8_Unlike⟩, by rw [cl_of xa_Unlike, cl_of xa_TooMany]; exact kit_ref x4_TooMany xt_TooMany xs_TooMany su_Unlike_TooMany⟩, List.forall_mem_cons.mpr ⟨⟨xe_mk xa_TooMany ⟨x1_TooMany, x2_TooMany, xb_TooMany, x4_TooMany, x5_TooMany, x6, x7, x8_TooMany⟩, by rw [cl_of xa_TooMany]; exact kit_ref x4_TooMany xt_TooMany xs_TooMany su_TooMany_TooMany⟩, List.forall_mem_cons.mpr ⟨⟨xe_mk xa_NoText ⟨x1_NoText, x2_NoText, xb_NoText, x4_NoText, x5_NoText, x6, x7, x8_NoText⟩, by rw [cl_of xa_NoText, cl_of xa_TooMany]; exact kit_ref x4_TooMany xt_TooMany xs_TooMany su_NoText_TooMany⟩, List.forall_mem_cons.mpr ⟨⟨xe_mk xa_NoRow ⟨x1_NoRow, x2_NoRow, xb_NoRow, x4_NoRow, x5_NoRow, x6, x7, x8_NoRow⟩, by rw [cl_of xa_NoRow, cl_of xa_TooMany]; exact kit_ref x4_TooMany xt_TooMany xs_TooMany su_NoRow_TooMany⟩, List.forall_mem_cons.mpr ⟨⟨xe_mk xa_NoName ⟨x1_NoName, x2_NoName, xb_NoName, x4_NoName, x5_NoName, x6, x7, x8_NoName⟩, by rw [cl_of xa_NoName, cl_of xa_TooMany]; exact kit_ref x4_TooMany xt_TooMany xs_TooMany su_NoName_TooMany⟩, fa_nil⟩⟩⟩⟩⟩⟩⟩⟩⟩⟩⟩⟩⟩⟩, (by rw [cl_of xa_TouchError]; exact kit_ref x4_TouchError xt_TouchError xs_TouchError ni_TouchError), List.forall_mem_cons.mpr ⟨⟨xe_mk xa_NoDraws ⟨x1_NoDraws, x2_NoDraws, xb_NoDraws, x4_NoDraws, x5_NoDraws, x6, x7, x8_NoDraws⟩, by rw [cl_of xa_NoDraws, cl_of xa_TouchError]; exact kit_ref x4_TouchError xt_TouchError xs_TouchError su_NoDraws_TouchError⟩, List.forall_mem_cons.mpr ⟨⟨xe_mk xa_NoProgram ⟨x1_NoProgram, x2_NoProgram, xb_NoProgram, x4_NoProgram, x5_NoProgram, x6, x7, x8_NoProgram⟩, by rw [cl_of xa_NoProgram, cl_of xa_TouchError]; exact kit_ref x4_TouchError xt_TouchError xs_TouchError su_NoProgram_TouchError⟩, List.forall_mem_cons.mpr ⟨⟨xe_mk xa_NoOrder ⟨x1_NoOrder, x2_NoOrder, xb_NoOrder, x4_NoOrder, x5_NoOrder, x6, x7, x8_NoOrder⟩, by rw [cl_of xa_NoOrder, cl_of xa_TouchError]; exact kit_ref x4_TouchError xt_TouchError xs_TouchError su_NoOrder_TouchError⟩, List.forall_mem_cons.mpr ⟨⟨xe_mk xa_NoNumber ⟨x1_NoNumber, x2_NoNumber, xb_NoNumber, x4_NoNumber, x5_NoNumber, x6, x7, x8_NoNumber⟩, by rw [cl_of xa_NoNumber, cl_of xa_TouchError]; exact kit_ref x4_TouchError xt_TouchError xs_TouchError su_NoNumber_TouchError⟩, List.forall_mem_cons.mpr ⟨⟨xe_mk xa_NoRoom ⟨x1_NoRoom, x2_NoRoom, xb_NoRoom, x4_NoRoom, x5_NoRoom, x6, x7, x8_NoRoom⟩, by rw [cl_of xa_NoRoom, cl_of xa_TouchError]; exact kit_ref x4_TouchError xt_TouchError xs_TouchError su_NoRoom_TouchError⟩, List.forall_mem_cons.mpr ⟨⟨xe_mk xa_NoAsk ⟨x1_NoAsk, x2_NoAsk, xb_NoAsk, x4_NoAsk, x5_NoAsk, x6, x7, x8_NoAsk⟩, by rw [cl_of xa_NoAsk, cl_of xa_TouchError]; exact kit_ref x4_TouchError xt_TouchError xs_TouchError su_NoAsk_TouchError⟩, List.forall_mem_cons.mpr ⟨⟨xe_mk xa_NoSize ⟨x1_NoSize, x2_NoSize, xb_NoSize, x4_NoSize, x5_NoSize, x6, x7, x8_NoSize⟩, by rw [cl_of xa_NoSize, cl_of xa_TouchError]; exact kit_ref x4_TouchError xt_TouchError xs_TouchError su_NoSize_TouchError⟩, List.forall_mem_cons.mpr ⟨⟨xe_mk xa_NoWay ⟨x1_NoWay, x2_NoWay, xb_NoWay, x4_NoWay, x5_NoWay, x6, x7, x8_NoWay⟩, by rw [cl_of xa_NoWay, cl_of xa_TouchError]; exact kit_ref x4_TouchError xt_TouchError xs_TouchError su_NoWay_TouchError⟩, List.forall_mem_cons.mpr ⟨⟨xe_mk xa_Over ⟨x1_Over, x2_Over, xb_Over, x4_Over, x5_Over, x6, x7, x8_Over⟩, by rw [cl_of xa_Over, cl_of xa_TouchError]; exact kit_ref x4_TouchError xt_TouchError xs_TouchError su_Over_TouchError⟩, List.forall_mem_cons.mpr ⟨⟨xe_mk xa_Unlike ⟨x1_Unlike, x2_Unlike, xb_Unlike, x4_Unlike, x5_Unlike, x6, x7, x8_Unlike⟩, by rw [cl_of xa_Unlike, cl_of xa_TouchError]; exact kit_ref x4_TouchError xt_TouchError xs_TouchError su_Unlike_TouchError⟩, List.forall_mem_cons.mpr ⟨⟨xe_mk xa_TooMany ⟨x1_TooMany, x2_TooMany, xb_TooMany, x4_TooMany, x5_TooMany, x6, x7, x8_TooMany⟩, by rw [cl_of xa_TooMany, cl_of xa_TouchError]; exact kit_ref x4_TouchError xt_TouchError xs_TouchError su_TooMany_TouchError⟩, List.forall_mem_cons.mpr ⟨⟨xe_mk xa_NoText ⟨x1_NoText, x2_NoText, xb_NoText, x4_NoText, x5_NoText, x6, x7, x8_NoText⟩, by rw [cl_of xa_NoText, cl_of xa_TouchError]; exact kit_ref x4_TouchError xt_TouchError xs_TouchError su_NoText_TouchError⟩, List.forall_mem_cons.mpr ⟨⟨xe_mk xa_NoRow ⟨x1_NoRow, x2_NoRow, xb_NoRow, x4_NoRow, x5_NoRow, x6, x7, x8_NoRow⟩, by rw [cl_of xa_NoRow, cl_of xa_TouchError]; exact kit_ref x4_TouchError xt_TouchError xs_TouchError su_NoRow_TouchError⟩, List.forall_mem_cons.mpr ⟨⟨xe_mk xa_NoName ⟨x1_NoName, x2_NoName, xb_NoName, x4_NoName, x5_NoName, x6, x7, x8_NoName⟩, by rw [cl_of xa_NoName, cl_of xa_TouchError]; exact kit_ref x4_TouchError xt_TouchError xs_TouchError su_NoName_TouchError⟩, fa_nil⟩⟩⟩⟩⟩⟩⟩⟩⟩⟩⟩⟩⟩⟩, (by rw [cl_of xa_Unlike]; exact kit_ref x4_Unlike xt_Unlike xs_Unlike ni_Unlike), List.forall_mem_cons.mpr ⟨⟨xe_mk xa_NoDraws ⟨x1_NoDraws, x2_NoDraws, xb_NoDraws, x4_NoDraws, x5_NoDraws, x6, x7, x8_NoDraws⟩, by rw [cl_of xa_NoDraws, cl_of xa_Unlike]; exact kit_ref x4_Unlike xt_Unlike xs_Unlike su_NoDraws_Unlike⟩, List.forall_mem_cons.mpr ⟨⟨xe_mk xa_NoProgram ⟨x1_NoProgram, x2_NoProgram, xb_NoProgram, x4_NoProgram, x5_NoProgram, x6, x7, x8_NoProgram⟩, by rw [cl_of xa_NoProgram, cl_of xa_Unlike]; exact kit_ref x4_Unlike xt_Unlike xs_Unlike su_NoProgram_Unlike⟩, List.forall_mem_cons.mpr ⟨⟨xe_mk xa_NoOrder ⟨x1_NoOrder, x2_NoOrder, xb_NoOrder, x4_NoOrder, x5_NoOrder, x6, x7, x8_NoOrder⟩, by rw [cl_of xa_NoOrder, cl_of xa_Unlike]; exact kit_ref x4_Unlike xt_Unlike xs_Unlike su_NoOrder_Unlike⟩, List.forall_mem_cons.mpr ⟨⟨xe_mk xa_NoNumber ⟨x1_NoNumber, x2_NoNumber, xb_NoNumber, x4_NoNumber, x5_NoNumber, x6, x7, x8_NoNumber⟩, by rw [cl_of xa_NoNumber, cl_of xa_Unlike]; exact kit_ref x4_Unlike xt_Unlike xs_Unlike su_NoNumber_Unlike⟩, List.forall_mem_cons.mpr ⟨⟨xe_mk xa_NoRoom ⟨x1_NoRoom, x2_NoRoom, xb_NoRoom, x4_NoRoom, x5_NoRoom, x6, x7, x8_NoRoom⟩, by rw [cl_of xa_NoRoom, cl_of xa_Unlike]; exact kit_ref x4_Unlike xt_Unlike xs_Unlike su_NoRoom_Unlike⟩, List.forall_mem_cons.mpr ⟨⟨xe_mk xa_NoAsk ⟨x1_NoAsk, x2_NoAsk, xb_NoAsk, x4_NoAsk, x5_NoAsk, x6, x7, x8_NoAsk⟩, by rw [cl_of xa_NoAsk, cl_of xa_Unlike]; exact kit_ref x4_Unlike xt_Unlike xs_Unlike su_NoAsk_Unlike⟩, List.forall_mem_cons.mpr ⟨⟨xe_mk xa_NoSize ⟨x1_NoSize, x2_NoSize, xb_NoSize, x4_NoSize, x5_NoSize, x6, x7, x8_NoSize⟩, by rw [cl_of xa_NoSize, cl_of xa_Unlike]; exact kit_ref x4_Unlike xt_Unlike xs_Unlike su_NoSize_Unlike⟩, List.forall_mem_cons.mpr ⟨⟨xe_mk xa_NoWay ⟨x1_NoWay, x2_NoWay, xb_NoWay, x4_NoWay, x5_NoWay, x6, x7, x8_NoWay⟩, by rw [cl_of xa_NoWay, cl_of xa_Unlike]; exact kit_ref x4_Unlike xt_Unlike xs_Unlike su_NoWay_Unlike⟩, List.forall_mem_cons.mpr ⟨⟨xe_mk xa_Over ⟨x1_Over, x2_Over, xb_Over, x4_Over, x5_Over, x6, x7, x8_Over⟩, by rw [cl_of xa_Over, cl_of xa_Unlike]; exact kit_ref x4_Unlike xt_Unlike xs_Unlike su_Over_Unlike⟩, List.forall_mem_cons.mpr ⟨⟨xe_mk xa_Unlike ⟨x1_Unlike, x2_Unlike, xb_Unlike, x4_Unlike, x5_Unlike, x6, x7, x8_Unlike⟩, by rw [cl_of xa_Unlike]; exact kit_ref x4_Unlike xt_Unlike xs_Unlike su_Unlike_Unlike⟩, List.forall_mem_cons.mpr ⟨⟨xe_mk xa_TooMany ⟨x1_TooMany, x2_TooMany, xb_TooMany, x4_TooMany, x5_TooMany, x6, x7, x8_TooMany⟩, by rw [cl_of xa_TooMany, cl_of xa_Unlike]; exact kit_ref x4_Unlike xt_Unlike xs_Unlike su_TooMany_Unlike⟩, List.forall_mem_cons.mpr ⟨⟨xe_mk xa_NoText ⟨x1_NoText, x2_NoText, xb_NoText, x4_NoText, x5_NoText, x6, x7, x8_NoText⟩, by rw [cl_of xa_NoText, cl_of xa_Unlike]; exact kit_ref x4_Unlike xt_Unlike xs_Unlike su_NoText_Unlike⟩, List.forall_mem_cons.mpr ⟨⟨xe_mk xa_NoRow ⟨x1_NoRow, x2_NoRow, xb_NoRow, x4_NoRow, x5_NoRow, x6, x7, x8_NoRow⟩, by rw [cl_of xa_NoRow, cl_of xa_Unlike]; exact kit_ref x4_Unlike xt_Unlike xs_Unlike su_NoRow_Unlike⟩, List.forall_mem_cons.mpr ⟨⟨xe_mk xa_NoName ⟨x1_NoName, x2_NoName, xb_NoName, x4_NoName, x5_NoName, x6, x7, x8_NoName⟩, by rw [cl_of xa_NoName, cl_of xa_Unlike]; exact kit_ref x4_Unlike xt_Unlike xs_Unlike su_NoName_Unlike⟩, fa_nil⟩⟩⟩⟩⟩⟩⟩⟩⟩⟩⟩⟩⟩⟩, (by exact kit_tyV (by decide +kernel) (by rfl) ni_ValueError), List.forall_mem_cons.mpr ⟨⟨xe_mk xa_NoDraws ⟨x1_NoDraws, x2_NoDraws, xb_NoDraws, x4_NoDraws, x5_NoDraws, x6, x7, x8_NoDraws⟩, by rw [cl_of xa_NoDraws]; exact kit_tyV (by decide +kernel) (by rfl) su_NoDraws_ValueError⟩, List.forall_mem_cons.mpr ⟨⟨xe_mk xa_NoProgram ⟨x1_NoProgram, x2_NoProgram, xb_NoProgram, x4_NoProgram, x5_NoProgram, x6, x7, x8_NoProgram⟩, by rw [cl_of xa_NoProgram]; exact kit_tyV (by decide +kernel) (by rfl) su_NoProgram_ValueError⟩, List.forall_mem_cons.mpr ⟨⟨xe_mk xa_NoOrder ⟨x1_NoOrder, x2_NoOrder, xb_NoOrder, x4_NoOrder, x5_NoOrder, x6, x7, x8_NoOrder⟩, by rw [cl_of xa_NoOrder]; exact kit_tyV (by decide +kernel) (by rfl) su_NoOrder_ValueError⟩, List.forall_mem_cons.mpr ⟨⟨xe_mk xa_NoNumber ⟨x1_NoNumber, x2_NoNumber, xb_NoNumber, x4_NoNumber, x5_NoNumber, x6, x7, x8_NoNumber⟩, by rw [cl_of xa_NoNumber]; exact kit_tyV (by decide +kernel) (by rfl) su_NoNumber_ValueError⟩, List.forall_mem_cons.mpr ⟨⟨xe_mk xa_NoRoom ⟨x1_NoRoom, x2_NoRoom, xb_NoRoom, x4_NoRoom, x5_NoRoom, x6, x7, x8_NoRoom⟩, by rw [cl_of xa_NoRoom]; exact kit_tyV (by decide +kernel) (by rfl) su_NoRoom_ValueError⟩, List.forall_mem_cons.mpr ⟨⟨xe_mk xa_NoAsk ⟨x1_NoAsk, x2_NoAsk, xb_NoAsk, x4_NoAsk, x5_NoAsk, x6, x7, x8_NoAsk⟩, by rw [cl_of xa_NoAsk]; exact kit_tyV (by decide +kernel) (by rfl) su_NoAsk_ValueError⟩, List.forall_mem_cons.mpr ⟨⟨xe_mk xa_NoSize ⟨x1_NoSize, x2_NoSize, xb_NoSize, x4_NoSize, x5_NoSize, x6, x7, x8_NoSize⟩, by rw [cl_of xa_NoSize]; exact kit_tyV (by decide +kernel) (by rfl) su_NoSize_ValueError⟩, List.forall_mem_cons.mpr ⟨⟨xe_mk xa_NoWay ⟨x1_NoWay, x2_NoWay, xb_NoWay, x4_NoWay, x5_NoWay, x6, x7, x8_NoWay⟩, by rw [cl_of xa_NoWay]; exact kit_tyV (by decide +kernel) (by rfl) su_NoWay_ValueError⟩, List.forall_mem_cons.mpr ⟨⟨xe_mk xa_Over ⟨x1_Over, x2_Over, xb_Over, x4_Over, x5_Over, x6, x7, x8_Over⟩, by rw [cl_of xa_Over]; exact kit_tyV (by decide +kernel) (by rfl) su_Over_ValueError⟩, List.forall_mem_cons.mpr ⟨⟨xe_mk xa_Unlike ⟨x1_Unlike, x2_Unlike, xb_Unlike, x4_Unlike, x5_Unlike, x6, x7, x8_Unlike⟩, by rw [cl_of xa_Unlike]; exact kit_tyV (by decide +kernel) (by rfl) su_Unlike_ValueError⟩, List.forall_mem_cons.mpr ⟨⟨xe_mk xa_TooMany ⟨x1_TooMany, x2_TooMany, xb_TooMany, x4_TooMany, x5_TooMany, x6, x7, x8_TooMany⟩, by rw [cl_of xa_TooMany]; exact kit_tyV (by decide +kernel) (by rfl) su_TooMany_ValueError⟩, List.forall_mem_cons.mpr ⟨⟨xe_mk xa_NoText ⟨x1_NoText, x2_NoText, xb_NoText, x4_NoText, x5_NoText, x6, x7, x8_NoText⟩, by rw [cl_of xa_NoText]; exact kit_tyV (by decide +kernel) (by rfl) su_NoText_ValueError⟩, List.forall_mem_cons.mpr ⟨⟨xe_mk xa_NoRow ⟨x1_NoRow, x2_NoRow, xb_NoRow, x4_NoRow, x5_NoRow, x6, x7, x8_NoRow⟩, by rw [cl_of xa_NoRow]; exact kit_tyV (by decide +kernel) (by rfl) su_NoRow_ValueError⟩, List.forall_mem_cons.mpr ⟨⟨xe_mk xa_NoName ⟨x1_NoName, x2_NoName, xb_NoName, x4_NoName, x5_NoName, x6, x7, x8_NoName⟩, by rw [cl_of xa_NoName]; exact kit_tyV (by decide +kernel) (by rfl) su_NoName_ValueError⟩, fa_nil⟩⟩⟩⟩⟩⟩⟩⟩⟩⟩⟩⟩⟩⟩⟩
  have F0 := fun_mk (st := s_NoProgram_init) l0 c0 k0
  have b0 := F0.binds (ps := ["self", "at"]) fun _ _ _ _ _ _ us hl => len_2 (P := fun us => bindArgs _ { pos := us } = pure (List.zip _ us)) (fun _ _ => rfl) us hl
  have F1 := fun_mk (st := s_NoDraws_init) l1 c1 k1
  have b1 := F1.binds (ps := ["self", "at"]) fun _ _ _ _ _ _ us hl => len_2 (P := fun us => bindArgs _ { pos := us } = pure (List.zip _ us)) (fun _ _ => rfl) us hl
  have F2 := fun_mk (st := s_law_made) l2 c2 k2
  have b2 := F2.binds (ps := ["_law_text", "_law_one", "_law_other"]) fun _ _ _ _ _ _ us hl => len_3 (P := fun us => bindArgs _ { pos := us } = pure (List.zip _ us)) (fun _ _ _ => rfl) us hl
  have F3 := fun_mk (st := s_law_pool) l3 c3 k3
  have b3 := F3.binds (ps := ["_law_script", "_law_k"]) fun _ _ _ _ _ _ us hl => len_2 (P := fun us => bindArgs _ { pos := us } = pure (List.zip _ us)) (fun _ _ => rfl) us hl
  have F4 := fun_mk (st := s_law_take) l4 c4 k4
  have b4 := F4.binds (ps := ["_law_pool_here", "_law_many"]) fun _ _ _ _ _ _ us hl => len_2 (P := fun us => bindArgs _ { pos := us } = pure (List.zip _ us)) (fun _ _ => rfl) us hl
  have F5 := fun_mk (st := s_law_thing) l5 c5 k5
  have b5 := F5.binds (ps := ["_law_pool_here"]) fun _ _ _ _ _ _ us hl => len_1 (P := fun us => bindArgs _ { pos := us } = pure (List.zip _ us)) (fun _ => rfl) us hl
  have F6 := fun_mk (st := s_law_kinds) l6 c6 k6
  have b6 := F6.binds (ps := ["_law_e"]) fun _ _ _ _ _ _ us hl => len_1 (P := fun us => bindArgs _ { pos := us } = pure (List.zip _ us)) (fun _ => rfl) us hl
  have F7 := fun_mk (st := s_law_right) l7 c7 k7
  have b7 := F7.binds (ps := ["_law_some", "_law_one", "_law_other"]) fun _ _ _ _ _ _ us hl => len_3 (P := fun us => bindArgs _ { pos := us } = pure (List.zip _ us)) (fun _ _ _ => rfl) us hl
  have F8 := fun_mk (st := s_law) l8 c8 k8
  have b8 := F8.binds (ps := ["_law_script"]) fun _ _ _ _ _ _ us hl => len_1 (P := fun us => bindArgs _ { pos := us } = pure (List.zip _ us)) (fun _ => rfl) us hl
  refine ⟨PySem.W.fnOf "law" "law" (defArgs s_law) (defBody s_law) (defScope s_law) .none kV8 dc8 pm8 an8 cd8 ct8, fun s v => .of_eq rfl, fun base _ _ => ?_⟩
  have G0 := fo_NoProgram_init (P := l.prog) (w := w) (base := base) B C F0 
  have G1 := fo_NoDraws_init (P := l.prog) (w := w) (base := base) B C F1 
  have I_NoProgram : IDef l.prog w K mg base 1 "NoProgram" := id_mk xa_NoProgram G0 xi_NoProgram xty_NoProgram b0
  have I_NoDraws : IDef l.prog w K mg base 1 "NoDraws" := id_mk xa_NoDraws G1 xi_NoDraws xty_NoDraws b1
  have D_law_made := df_law_made (P := l.prog) (w := w) (base := base) B C F2 b2 (PySem.W.mg_of X G a2) I_NoProgram I_NoDraws
  have D_law_pool := df_law_pool (P := l.prog) (w := w) (base := base) B C F3 b3 (PySem.W.mg_of X G a3) 
  have D_law_take := df_law_take (P := l.prog) (w := w) (base := base) B C F4 b4 (PySem.W.mg_of X G a4) 
  have D_law_thing := df_law_thing (P := l.prog) (w := w) (base := base) B C F5 b5 (PySem.W.mg_of X G a5) D_law_take
  have D_law_kinds := df_law_kinds (P := l.prog) (w := w) (base := base) B C F6 b6 (PySem.W.mg_of X G a6) 
  have D_law_right := df_law_right (P := l.prog) (w := w) (base := base) B C F7 b7 (PySem.W.mg_of X G a7) D_law_kinds
  exact fo_law (P := l.prog) (w := w) (base := base) B C F8 D_law_made D_law_pool D_law_take D_law_thing D_law_right
end BT
def PySem.W.Fast.tw16446720333057750657 := 0
def PySem.W.Fast.tw16093832725893176453 := 0
def PySem.W.Fast.tw9123548616897931174 := 0
def PySem.W.Fast.tw15564254075327489095 := 0
def PySem.W.Fast.tw2488835305203318951 := 0
def PySem.W.Fast.tw954205081020345639 := 0
def PySem.W.Fast.tw31294375485538472 := 0
def PySem.W.Fast.tw17680301000111530186 := 0
def PySem.W.Fast.tw11505900768862000906 := 0
def PySem.W.Fast.tw18063767166545936651 := 0
def PySem.W.Fast.tw6595610083998421647 := 0
def PySem.W.Fast.tw5257206514138953776 := 0
def PySem.W.Fast.tw13283727874490508721 := 0
def PySem.W.Fast.tw15317645539964792210 := 0
def PySem.W.Fast.tw6755422101981866963 := 0
def PySem.W.Fast.tw8683394086503794421 := 0
def PySem.W.Fast.tw4660698799733870843 := 0
def PySem.W.Fast.tw15551431786438654173 := 0
def PySem.W.Fast.tw12375840216106595807 := 0
def PySem.W.Fast.tw14298069855212654207 := 0
open PySem PySem.W PyProof.Rows
set_option maxHeartbeats 0 in
theorem PySem.Challenge.cw_blindtouch_k06_refusals_apart_holds : PySem.Challenge.rw_blindtouch_k06_refusals_apart.Holds := by
  w_on; o_law; k_head; (case hw => w_witness2)
  k_fill
  refine BT.walk_ofG (l := PySem.Challenge.rw_blindtouch_k06_refusals_apart) (n := 63) (k := 4) (x := "_law_script") (sp := fun w => BT.lift (BT.S_law _)) rfl (by decide) rfl ⟨rfl, by decide, by decide⟩ (fun w h Y => PySem.W.kIn_of Y) ?F (fun _ H a ns hl _ hS => BT.law_start hl hS)
  case F =>
    intro w mg fa h KX G hmg
    refine' BT.all_mk KX G hmg ?a0 ?l0 ?c0 ?k0 ?a1 ?l1 ?c1 ?k1 ?a2 ?l2 ?c2 ?k2 ?a3 ?l3 ?c3 ?k3 ?a4 ?l4 ?c4 ?k4 ?a5 ?l5 ?c5 ?k5 ?a6 ?l6 ?c6 ?k6 ?a7 ?l7 ?c7 ?k7 ?a8 ?l8 ?c8 ?k8 ?z_ValueError ?z_isinstance ?z_len ?z_min ?z_range ?z_repr ?xa_TouchError ?xk_TouchError ?xt_TouchError ?x4_TouchError ?xs_TouchError ?xa_NoDraws ?xk_NoDraws ?xb_NoDraws ?xt_NoDraws ?x4_NoDraws ?xs_NoDraws ?x1_NoDraws ?x2_NoDraws ?x5_NoDraws ?x8_NoDraws ?xa_NoProgram ?xk_NoProgram ?xb_NoProgram ?xt_NoProgram ?x4_NoProgram ?xs_NoProgram ?x1_NoProgram ?x2_NoProgram ?x5_NoProgram ?x8_NoProgram ?xa_NoOrder ?xk_NoOrder ?xx_NoOrder ?xb_NoOrder ?xt_NoOrder ?x4_NoOrder ?xs_NoOrder ?x1_NoOrder ?x2_NoOrder ?x5_NoOrder ?x8_NoOrder ?xa_NoNumber ?xk_NoNumber ?xx_NoNumber ?xb_NoNumber ?xt_NoNumber ?x4_NoNumber ?xs_NoNumber ?x1_NoNumber ?x2_NoNumber ?x5_NoNumber ?x8_NoNumber ?xa_NoRoom ?xk_NoRoom ?xx_NoRoom ?xb_NoRoom ?xt_NoRoom ?x4_NoRoom ?xs_NoRoom ?x1_NoRoom ?x2_NoRoom ?x5_NoRoom ?x8_NoRoom ?xa_NoAsk ?xk_NoAsk ?xx_NoAsk ?xb_NoAsk ?xt_NoAsk ?x4_NoAsk ?xs_NoAsk ?x1_NoAsk ?x2_NoAsk ?x5_NoAsk ?x8_NoAsk ?xa_NoSize ?xk_NoSize ?xx_NoSize ?xb_NoSize ?xt_NoSize ?x4_NoSize ?xs_NoSize ?x1_NoSize ?x2_NoSize ?x5_NoSize ?x8_NoSize ?xa_NoWay ?xk_NoWay ?xx_NoWay ?xb_NoWay ?xt_NoWay ?x4_NoWay ?xs_NoWay ?x1_NoWay ?x2_NoWay ?x5_NoWay ?x8_NoWay ?xa_Over ?xk_Over ?xx_Over ?xb_Over ?xt_Over ?x4_Over ?xs_Over ?x1_Over ?x2_Over ?x5_Over ?x8_Over ?xa_Unlike ?xk_Unlike ?xx_Unlike ?xb_Unlike ?xt_Unlike ?x4_Unlike ?xs_Unlike ?x1_Unlike ?x2_Unlike ?x5_Unlike ?x8_Unlike ?xa_TooMany ?xk_TooMany ?xx_TooMany ?xb_TooMany ?xt_TooMany ?x4_TooMany ?xs_TooMany ?x1_TooMany ?x2_TooMany ?x5_TooMany ?x8_TooMany ?xa_NoText ?xk_NoText ?xx_NoText ?xb_NoText ?xt_NoText ?x4_NoText ?xs_NoText ?x1_NoText ?x2_NoText ?x5_NoText ?x8_NoText ?xa_NoRow ?xk_NoRow ?xx_NoRow ?xb_NoRow ?xt_NoRow ?x4_NoRow ?xs_NoRow ?x1_NoRow ?x2_NoRow ?x5_NoRow ?x8_NoRow ?xa_NoName ?xk_NoName ?xx_NoName ?xb_NoName ?xt_NoName ?x4_NoName ?xs_NoName ?x1_NoName ?x2_NoName ?x5_NoName ?x8_NoName ?xl_NoDraws ?xz_NoDraws ?xsa_NoDraws ?xno_NoDraws ?xi_NoDraws ?xty_NoDraws ?xl_NoProgram ?xz_NoProgram ?xsa_NoProgram ?xno_NoProgram ?xi_NoProgram ?xty_NoProgram ?xrd_TouchError ?xga_TouchError ?xfi_TouchError ?x6 ?x7 ?ni_NoAsk ?su_NoDraws_NoAsk ?su_NoProgram_NoAsk ?su_NoOrder_NoAsk ?su_NoNumber_NoAsk ?su_NoRoom_NoAsk ?su_NoAsk_NoAsk ?su_NoSize_NoAsk ?su_NoWay_NoAsk ?su_Over_NoAsk ?su_Unlike_NoAsk ?su_TooMany_NoAsk ?su_NoText_NoAsk ?su_NoRow_NoAsk ?su_NoName_NoAsk ?ni_NoDraws ?su_NoDraws_NoDraws ?su_NoProgram_NoDraws ?su_NoOrder_NoDraws ?su_NoNumber_NoDraws ?su_NoRoom_NoDraws ?su_NoAsk_NoDraws ?su_NoSize_NoDraws ?su_NoWay_NoDraws ?su_Over_NoDraws ?su_Unlike_NoDraws ?su_TooMany_NoDraws ?su_NoText_NoDraws ?su_NoRow_NoDraws ?su_NoName_NoDraws ?ni_NoName ?su_NoDraws_NoName ?su_NoProgram_NoName ?su_NoOrder_NoName ?su_NoNumber_NoName ?su_NoRoom_NoName ?su_NoAsk_NoName ?su_NoSize_NoName ?su_NoWay_NoName ?su_Over_NoName ?su_Unlike_NoName ?su_TooMany_NoName ?su_NoText_NoName ?su_NoRow_NoName ?su_NoName_NoName ?ni_NoNumber ?su_NoDraws_NoNumber ?su_NoProgram_NoNumber ?su_NoOrder_NoNumber ?su_NoNumber_NoNumber ?su_NoRoom_NoNumber ?su_NoAsk_NoNumber ?su_NoSize_NoNumber ?su_NoWay_NoNumber ?su_Over_NoNumber ?su_Unlike_NoNumber ?su_TooMany_NoNumber ?su_NoText_NoNumber ?su_NoRow_NoNumber ?su_NoName_NoNumber ?ni_NoOrder ?su_NoDraws_NoOrder ?su_NoProgram_NoOrder ?su_NoOrder_NoOrder ?su_NoNumber_NoOrder ?su_NoRoom_NoOrder ?su_NoAsk_NoOrder ?su_NoSize_NoOrder ?su_NoWay_NoOrder ?su_Over_NoOrder ?su_Unlike_NoOrder ?su_TooMany_NoOrder ?su_NoText_NoOrder ?su_NoRow_NoOrder ?su_NoName_NoOrder ?ni_NoProgram ?su_NoDraws_NoProgram ?su_NoProgram_NoProgram ?su_NoOrder_NoProgram ?su_NoNumber_NoProgram ?su_NoRoom_NoProgram ?su_NoAsk_NoProgram ?su_NoSize_NoProgram ?su_NoWay_NoProgram ?su_Over_NoProgram ?su_Unlike_NoProgram ?su_TooMany_NoProgram ?su_NoText_NoProgram ?su_NoRow_NoProgram ?su_NoName_NoProgram ?ni_NoRoom ?su_NoDraws_NoRoom ?su_NoProgram_NoRoom ?su_NoOrder_NoRoom ?su_NoNumber_NoRoom ?su_NoRoom_NoRoom ?su_NoAsk_NoRoom ?su_NoSize_NoRoom ?su_NoWay_NoRoom ?su_Over_NoRoom ?su_Unlike_NoRoom ?su_TooMany_NoRoom ?su_NoText_NoRoom ?su_NoRow_NoRoom ?su_NoName_NoRoom ?ni_NoRow ?su_NoDraws_NoRow ?su_NoProgram_NoRow ?su_NoOrder_NoRow ?su_NoNumber_NoRow ?su_NoRoom_NoRow ?su_NoAsk_NoRow ?su_NoSize_NoRow ?su_NoWay_NoRow ?su_Over_NoRow ?su_Unlike_NoRow ?su_TooMany_NoRow ?su_NoText_NoRow ?su_NoRow_NoRow ?su_NoName_NoRow ?ni_NoSize ?su_NoDraws_NoSize ?su_NoProgram_NoSize ?su_NoOrder_NoSize ?su_NoNumber_NoSize ?su_NoRoom_NoSize ?su_NoAsk_NoSize ?su_NoSize_NoSize ?su_NoWay_NoSize ?su_Over_NoSize ?su_Unlike_NoSize ?su_TooMany_NoSize ?su_NoText_NoSize ?su_NoRow_NoSize ?su_NoName_NoSize ?ni_NoText ?su_NoDraws_NoText ?su_NoProgram_NoText ?su_NoOrder_NoText ?su_NoNumber_NoText ?su_NoRoom_NoText ?su_NoAsk_NoText ?su_NoSize_NoText ?su_NoWay_NoText ?su_Over_NoText ?su_Unlike_NoText ?su_TooMany_NoText ?su_NoText_NoText ?su_NoRow_NoText ?su_NoName_NoText ?ni_NoWay ?su_NoDraws_NoWay ?su_NoProgram_NoWay ?su_NoOrder_NoWay ?su_NoNumber_NoWay ?su_NoRoom_NoWay ?su_NoAsk_NoWay ?su_NoSize_NoWay ?su_NoWay_NoWay ?su_Over_NoWay ?su_Unlike_NoWay ?su_TooMany_NoWay ?su_NoText_NoWay ?su_NoRow_NoWay ?su_NoName_NoWay ?ni_Over ?su_NoDraws_Over ?su_NoProgram_Over ?su_NoOrder_Over ?su_NoNumber_Over ?su_NoRoom_Over ?su_NoAsk_Over ?su_NoSize_Over ?su_NoWay_Over ?su_Over_Over ?su_Unlike_Over ?su_TooMany_Over ?su_NoText_Over ?su_NoRow_Over ?su_NoName_Over ?ni_TooMany ?su_NoDraws_TooMany ?su_NoProgram_TooMany ?su_NoOrder_TooMany ?su_NoNumber_TooMany ?su_NoRoom_TooMany ?su_NoAsk_TooMany ?su_NoSize_TooMany ?su_NoWay_TooMany ?su_Over_TooMany ?su_Unlike_TooMany ?su_TooMany_TooMany ?su_NoText_TooMany ?su_NoRow_TooMany ?su_NoName_TooMany ?ni_TouchError ?su_NoDraws_TouchError ?su_NoProgram_TouchError ?su_NoOrder_TouchError ?su_NoNumber_TouchError ?su_NoRoom_TouchError ?su_NoAsk_TouchError ?su_NoSize_TouchError ?su_NoWay_TouchError ?su_Over_TouchError ?su_Unlike_TouchError ?su_TooMany_TouchError ?su_NoText_TouchError ?su_NoRow_TouchError ?su_NoName_TouchError ?ni_Unlike ?su_NoDraws_Unlike ?su_NoProgram_Unlike ?su_NoOrder_Unlike ?su_NoNumber_Unlike ?su_NoRoom_Unlike ?su_NoAsk_Unlike ?su_NoSize_Unlike ?su_NoWay_Unlike ?su_Over_Unlike ?su_Unlike_Unlike ?su_TooMany_Unlike ?su_NoText_Unlike ?su_NoRow_Unlike ?su_NoName_Unlike ?ni_ValueError ?su_NoDraws_ValueError ?su_NoProgram_ValueError ?su_NoOrder_ValueError ?su_NoNumber_ValueError ?su_NoRoom_ValueError ?su_NoAsk_ValueError ?su_NoSize_ValueError ?su_NoWay_ValueError ?su_Over_ValueError ?su_Unlike_ValueError ?su_TooMany_ValueError ?su_NoText_ValueError ?su_NoRow_ValueError ?su_NoName_ValueError
    (case xa_NoDraws => k_is); (case xa_NoProgram => k_is); (case xi_NoDraws => k_is); (case xi_NoProgram => k_is); (case a0 => k_is); (case l0 => k_is); (case c0 => k_is); (case k0 => k_is); (case a1 => k_is); (case l1 => k_is); (case c1 => k_is); (case k1 => k_is); (case a2 => k_is); (case l2 => k_is); (case c2 => k_is); (case k2 => k_is); (case a3 => k_is); (case l3 => k_is); (case c3 => k_is); (case k3 => k_is); (case a4 => k_is); (case l4 => k_is); (case c4 => k_is); (case k4 => k_is); (case a5 => k_is); (case l5 => k_is); (case c5 => k_is); (case k5 => k_is); (case a6 => k_is); (case l6 => k_is); (case c6 => k_is); (case k6 => k_is); (case a7 => k_is); (case l7 => k_is); (case c7 => k_is); (case k7 => k_is); (case a8 => k_is); (case l8 => k_is); (case c8 => k_is); (case k8 => k_is); (case z_ValueError => k_is); (case z_isinstance => k_is); (case z_len => k_is); (case z_min => k_is); (case z_range => k_is); (case z_repr => k_is); (case xa_TouchError => k_is); (case xk_TouchError => k_is); (case xt_TouchError => k_is); (case x4_TouchError => k_is); (case xs_TouchError => k_is); (case xk_NoDraws => k_is); (case xb_NoDraws => k_is); (case xt_NoDraws => k_is); (case x4_NoDraws => k_is); (case xs_NoDraws => k_is); (case x1_NoDraws => k_is); (case x2_NoDraws => k_is); (case x5_NoDraws => k_is); (case x8_NoDraws => k_is); (case xk_NoProgram => k_is); (case xb_NoProgram => k_is); (case xt_NoProgram => k_is); (case x4_NoProgram => k_is); (case xs_NoProgram => k_is); (case x1_NoProgram => k_is); (case x2_NoProgram => k_is); (case x5_NoProgram => k_is); (case x8_NoProgram => k_is); (case xa_NoOrder => k_is); (case xk_NoOrder => k_is); (case xb_NoOrder => k_is); (case xt_NoOrder => k_is); (case x4_NoOrder => k_is); (case xs_NoOrder => k_is); (case x1_NoOrder => k_is); (case x2_NoOrder => k_is); (case x5_NoOrder => k_is); (case x8_NoOrder => k_is); (case xa_NoNumber => k_is); (case xk_NoNumber => k_is); (case xb_NoNumber => k_is); (case xt_NoNumber => k_is); (case x4_NoNumber => k_is); (case xs_NoNumber => k_is); (case x1_NoNumber => k_is); (case x2_NoNumber => k_is); (case x5_NoNumber => k_is); (case x8_NoNumber => k_is); (case xa_NoRoom => k_is); (case xk_NoRoom => k_is); (case xb_NoRoom => k_is); (case xt_NoRoom => k_is); (case x4_NoRoom => k_is); (case xs_NoRoom => k_is); (case x1_NoRoom => k_is); (case x2_NoRoom => k_is); (case x5_NoRoom => k_is); (case x8_NoRoom => k_is); (case xa_NoAsk => k_is); (case xk_NoAsk => k_is); (case xb_NoAsk => k_is); (case xt_NoAsk => k_is); (case x4_NoAsk => k_is); (case xs_NoAsk => k_is); (case x1_NoAsk => k_is); (case x2_NoAsk => k_is); (case x5_NoAsk => k_is); (case x8_NoAsk => k_is); (case xa_NoSize => k_is); (case xk_NoSize => k_is); (case xb_NoSize => k_is); (case xt_NoSize => k_is); (case x4_NoSize => k_is); (case xs_NoSize => k_is); (case x1_NoSize => k_is); (case x2_NoSize => k_is); (case x5_NoSize => k_is); (case x8_NoSize => k_is); (case xa_NoWay => k_is); (case xk_NoWay => k_is); (case xb_NoWay => k_is); (case xt_NoWay => k_is); (case x4_NoWay => k_is); (case xs_NoWay => k_is); (case x1_NoWay => k_is); (case x2_NoWay => k_is); (case x5_NoWay => k_is); (case x8_NoWay => k_is); (case xa_Over => k_is); (case xk_Over => k_is); (case xb_Over => k_is); (case xt_Over => k_is); (case x4_Over => k_is); (case xs_Over => k_is); (case x1_Over => k_is); (case x2_Over => k_is); (case x5_Over => k_is); (case x8_Over => k_is); (case xa_Unlike => k_is); (case xk_Unlike => k_is); (case xb_Unlike => k_is); (case xt_Unlike => k_is); (case x4_Unlike => k_is); (case xs_Unlike => k_is); (case x1_Unlike => k_is); (case x2_Unlike => k_is); (case x5_Unlike => k_is); (case x8_Unlike => k_is); (case xa_TooMany => k_is); (case xk_TooMany => k_is); (case xb_TooMany => k_is); (case xt_TooMany => k_is); (case x4_TooMany => k_is); (case xs_TooMany => k_is); (case x1_TooMany => k_is); (case x2_TooMany => k_is); (case x5_TooMany => k_is); (case x8_TooMany => k_is); (case xa_NoText => k_is); (case xk_NoText => k_is); (case xb_NoText => k_is); (case xt_NoText => k_is); (case x4_NoText => k_is); (case xs_NoText => k_is); (case x1_NoText => k_is); (case x2_NoText => k_is); (case x5_NoText => k_is); (case x8_NoText => k_is); (case xa_NoRow => k_is); (case xk_NoRow => k_is); (case xb_NoRow => k_is); (case xt_NoRow => k_is); (case x4_NoRow => k_is); (case xs_NoRow => k_is); (case x1_NoRow => k_is); (case x2_NoRow => k_is); (case x5_NoRow => k_is); (case x8_NoRow => k_is); (case xa_NoName => k_is); (case xk_NoName => k_is); (case xb_NoName => k_is); (case xt_NoName => k_is); (case x4_NoName => k_is); (case xs_NoName => k_is); (case x1_NoName => k_is); (case x2_NoName => k_is); (case x5_NoName => k_is); (case x8_NoName => k_is); (case xl_NoDraws => k_is); (case xsa_NoDraws => k_is); (case xno_NoDraws => k_is); (case xty_NoDraws => k_is); (case xl_NoProgram => k_is); (case xsa_NoProgram => k_is); (case xno_NoProgram => k_is); (case xty_NoProgram => k_is); (case xrd_TouchError => k_is); (case xga_TouchError => k_is); (case xfi_TouchError => k_is); (case x6 => k_is); (case x7 => k_is); (case ni_NoAsk => k_is); (case su_NoDraws_NoAsk => k_is); (case su_NoProgram_NoAsk => k_is); (case su_NoOrder_NoAsk => k_is); (case su_NoNumber_NoAsk => k_is); (case su_NoRoom_NoAsk => k_is); (case su_NoAsk_NoAsk => k_is); (case su_NoSize_NoAsk => k_is); (case su_NoWay_NoAsk => k_is); (case su_Over_NoAsk => k_is); (case su_Unlike_NoAsk => k_is); (case su_TooMany_NoAsk => k_is); (case su_NoText_NoAsk => k_is); (case su_NoRow_NoAsk => k_is); (case su_NoName_NoAsk => k_is); (case ni_NoDraws => k_is); (case su_NoDraws_NoDraws => k_is); (case su_NoProgram_NoDraws => k_is); (case su_NoOrder_NoDraws => k_is); (case su_NoNumber_NoDraws => k_is); (case su_NoRoom_NoDraws => k_is); (case su_NoAsk_NoDraws => k_is); (case su_NoSize_NoDraws => k_is); (case su_NoWay_NoDraws => k_is); (case su_Over_NoDraws => k_is); (case su_Unlike_NoDraws => k_is); (case su_TooMany_NoDraws => k_is); (case su_NoText_NoDraws => k_is); (case su_NoRow_NoDraws => k_is); (case su_NoName_NoDraws => k_is); (case ni_NoName => k_is); (case su_NoDraws_NoName => k_is); (case su_NoProgram_NoName => k_is); (case su_NoOrder_NoName => k_is); (case su_NoNumber_NoName => k_is); (case su_NoRoom_NoName => k_is); (case su_NoAsk_NoName => k_is); (case su_NoSize_NoName => k_is); (case su_NoWay_NoName => k_is); (case su_Over_NoName => k_is); (case su_Unlike_NoName => k_is); (case su_TooMany_NoName => k_is); (case su_NoText_NoName => k_is); (case su_NoRow_NoName => k_is); (case su_NoName_NoName => k_is); (case ni_NoNumber => k_is); (case su_NoDraws_NoNumber => k_is); (case su_NoProgram_NoNumber => k_is); (case su_NoOrder_NoNumber => k_is); (case su_NoNumber_NoNumber => k_is); (case su_NoRoom_NoNumber => k_is); (case su_NoAsk_NoNumber => k_is); (case su_NoSize_NoNumber => k_is); (case su_NoWay_NoNumber => k_is); (case su_Over_NoNumber => k_is); (case su_Unlike_NoNumber => k_is); (case su_TooMany_NoNumber => k_is); (case su_NoText_NoNumber => k_is); (case su_NoRow_NoNumber => k_is); (case su_NoName_NoNumber => k_is); (case ni_NoOrder => k_is); (case su_NoDraws_NoOrder => k_is); (case su_NoProgram_NoOrder => k_is); (case su_NoOrder_NoOrder => k_is); (case su_NoNumber_NoOrder => k_is); (case su_NoRoom_NoOrder => k_is); (case su_NoAsk_NoOrder => k_is); (case su_NoSize_NoOrder => k_is); (case su_NoWay_NoOrder => k_is); (case su_Over_NoOrder => k_is); (case su_Unlike_NoOrder => k_is); (case su_TooMany_NoOrder => k_is); (case su_NoText_NoOrder => k_is); (case su_NoRow_NoOrder => k_is); (case su_NoName_NoOrder => k_is); (case ni_NoProgram => k_is); (case su_NoDraws_NoProgram => k_is); (case su_NoProgram_NoProgram => k_is); (case su_NoOrder_NoProgram => k_is); (case su_NoNumber_NoProgram => k_is); (case su_NoRoom_NoProgram => k_is); (case su_NoAsk_NoProgram => k_is); (case su_NoSize_NoProgram => k_is); (case su_NoWay_NoProgram => k_is); (case su_Over_NoProgram => k_is); (case su_Unlike_NoProgram => k_is); (case su_TooMany_NoProgram => k_is); (case su_NoText_NoProgram => k_is); (case su_NoRow_NoProgram => k_is); (case su_NoName_NoProgram => k_is); (case ni_NoRoom => k_is); (case su_NoDraws_NoRoom => k_is); (case su_NoProgram_NoRoom => k_is); (case su_NoOrder_NoRoom => k_is); (case su_NoNumber_NoRoom => k_is); (case su_NoRoom_NoRoom => k_is); (case su_NoAsk_NoRoom => k_is); (case su_NoSize_NoRoom => k_is); (case su_NoWay_NoRoom => k_is); (case su_Over_NoRoom => k_is); (case su_Unlike_NoRoom => k_is); (case su_TooMany_NoRoom => k_is); (case su_NoText_NoRoom => k_is); (case su_NoRow_NoRoom => k_is); (case su_NoName_NoRoom => k_is); (case ni_NoRow => k_is); (case su_NoDraws_NoRow => k_is); (case su_NoProgram_NoRow => k_is); (case su_NoOrder_NoRow => k_is); (case su_NoNumber_NoRow => k_is); (case su_NoRoom_NoRow => k_is); (case su_NoAsk_NoRow => k_is); (case su_NoSize_NoRow => k_is); (case su_NoWay_NoRow => k_is); (case su_Over_NoRow => k_is); (case su_Unlike_NoRow => k_is); (case su_TooMany_NoRow => k_is); (case su_NoText_NoRow => k_is); (case su_NoRow_NoRow => k_is); (case su_NoName_NoRow => k_is); (case ni_NoSize => k_is); (case su_NoDraws_NoSize => k_is); (case su_NoProgram_NoSize => k_is); (case su_NoOrder_NoSize => k_is); (case su_NoNumber_NoSize => k_is); (case su_NoRoom_NoSize => k_is); (case su_NoAsk_NoSize => k_is); (case su_NoSize_NoSize => k_is); (case su_NoWay_NoSize => k_is); (case su_Over_NoSize => k_is); (case su_Unlike_NoSize => k_is); (case su_TooMany_NoSize => k_is); (case su_NoText_NoSize => k_is); (case su_NoRow_NoSize => k_is); (case su_NoName_NoSize => k_is); (case ni_NoText => k_is); (case su_NoDraws_NoText => k_is); (case su_NoProgram_NoText => k_is); (case su_NoOrder_NoText => k_is); (case su_NoNumber_NoText => k_is); (case su_NoRoom_NoText => k_is); (case su_NoAsk_NoText => k_is); (case su_NoSize_NoText => k_is); (case su_NoWay_NoText => k_is); (case su_Over_NoText => k_is); (case su_Unlike_NoText => k_is); (case su_TooMany_NoText => k_is); (case su_NoText_NoText => k_is); (case su_NoRow_NoText => k_is); (case su_NoName_NoText => k_is); (case ni_NoWay => k_is); (case su_NoDraws_NoWay => k_is); (case su_NoProgram_NoWay => k_is); (case su_NoOrder_NoWay => k_is); (case su_NoNumber_NoWay => k_is); (case su_NoRoom_NoWay => k_is); (case su_NoAsk_NoWay => k_is); (case su_NoSize_NoWay => k_is); (case su_NoWay_NoWay => k_is); (case su_Over_NoWay => k_is); (case su_Unlike_NoWay => k_is); (case su_TooMany_NoWay => k_is); (case su_NoText_NoWay => k_is); (case su_NoRow_NoWay => k_is); (case su_NoName_NoWay => k_is); (case ni_Over => k_is); (case su_NoDraws_Over => k_is); (case su_NoProgram_Over => k_is); (case su_NoOrder_Over => k_is); (case su_NoNumber_Over => k_is); (case su_NoRoom_Over => k_is); (case su_NoAsk_Over => k_is); (case su_NoSize_Over => k_is); (case su_NoWay_Over => k_is); (case su_Over_Over => k_is); (case su_Unlike_Over => k_is); (case su_TooMany_Over => k_is); (case su_NoText_Over => k_is); (case su_NoRow_Over => k_is); (case su_NoName_Over => k_is); (case ni_TooMany => k_is); (case su_NoDraws_TooMany => k_is); (case su_NoProgram_TooMany => k_is); (case su_NoOrder_TooMany => k_is); (case su_NoNumber_TooMany => k_is); (case su_NoRoom_TooMany => k_is); (case su_NoAsk_TooMany => k_is); (case su_NoSize_TooMany => k_is); (case su_NoWay_TooMany => k_is); (case su_Over_TooMany => k_is); (case su_Unlike_TooMany => k_is); (case su_TooMany_TooMany => k_is); (case su_NoText_TooMany => k_is); (case su_NoRow_TooMany => k_is); (case su_NoName_TooMany => k_is); (case ni_TouchError => k_is); (case su_NoDraws_TouchError => k_is); (case su_NoProgram_TouchError => k_is); (case su_NoOrder_TouchError => k_is); (case su_NoNumber_TouchError => k_is); (case su_NoRoom_TouchError => k_is); (case su_NoAsk_TouchError => k_is); (case su_NoSize_TouchError => k_is); (case su_NoWay_TouchError => k_is); (case su_Over_TouchError => k_is); (case su_Unlike_TouchError => k_is); (case su_TooMany_TouchError => k_is); (case su_NoText_TouchError => k_is); (case su_NoRow_TouchError => k_is); (case su_NoName_TouchError => k_is); (case ni_Unlike => k_is); (case su_NoDraws_Unlike => k_is); (case su_NoProgram_Unlike => k_is); (case su_NoOrder_Unlike => k_is); (case su_NoNumber_Unlike => k_is); (case su_NoRoom_Unlike => k_is); (case su_NoAsk_Unlike => k_is); (case su_NoSize_Unlike => k_is); (case su_NoWay_Unlike => k_is); (case su_Over_Unlike => k_is); (case su_Unlike_Unlike => k_is); (case su_TooMany_Unlike => k_is); (case su_NoText_Unlike => k_is); (case su_NoRow_Unlike => k_is); (case su_NoName_Unlike => k_is); (case ni_ValueError => k_is); (case su_NoDraws_ValueError => k_is); (case su_NoProgram_ValueError => k_is); (case su_NoOrder_ValueError => k_is); (case su_NoNumber_ValueError => k_is); (case su_NoRoom_ValueError => k_is); (case su_NoAsk_ValueError => k_is); (case su_NoSize_ValueError => k_is); (case su_NoWay_ValueError => k_is); (case su_Over_ValueError => k_is); (case su_Unlike_ValueError => k_is); (case su_TooMany_ValueError => k_is); (case su_NoText_ValueError => k_is); (case su_NoRow_ValueError => k_is); (case su_NoName_ValueError => k_is)
    (case xx_NoOrder => k_exc)
    (case xx_NoNumber => k_exc)
    (case xx_NoRoom => k_exc)
    (case xx_NoAsk => k_exc)
    (case xx_NoSize => k_exc)
    (case xx_NoWay => k_exc)
    (case xx_Over => k_exc)
    (case xx_Unlike => k_exc)
    (case xx_TooMany => k_exc)
    (case xx_NoText => k_exc)
    (case xx_NoRow => k_exc)
    (case xx_NoName => k_exc)
    (case xz_NoDraws => rfl)
    (case xz_NoProgram => rfl)
