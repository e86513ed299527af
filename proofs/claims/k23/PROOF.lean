import PyProof.Rows.All
import Wide.All
import OpenK.AllK
import Wide.FinOn
import HandS.ForMost
import HandS.Exc
import HandS.TryOnly
import HandS.ExcOwn
import HandS.WordsExc
import HandS.Wide
import HandS.WideBits
import HandS.IsInst
import HandS.SortInts
import HandS.Style
import HandS.ExcIs
import HandS.ExcValue
import HandS.Conv
import HandS.Dict
import KE.DataMinMax
import HandS.RevRange
import HandS.More
import PyProof.SetRoads
import HandS.SetKeys
import HandS.TupAny
import HandS.NoneIn
import PyProof.EqKinds
import PyProof.FactsAll.dict
import HandS.ListItems
import PyProof.ReprRoads
import PyProof.ReprLen
import PyProof.Rows.StrJoinMade
import PySem.Challenge.RW_blindtouch_k23_nets_looked_at
set_option Elab.async false
set_option linter.all false
set_option maxRecDepth 100000
set_option maxHeartbeats 4000000
/-! KL: readings over what is known of the heap: a frozen part G, and cells M that may be written. -/
namespace BT
open PySem PySem.Spec L2
open PyProof.Rows hiding St

abbrev Mem := List (Addr × HO)
structure Hv (G : Hp) (M : Mem) (H : Hp) : Prop where
  ex : ∀ a o, G a = some o → H a = some o
  mu : ∀ x, x ∈ M → H x.1 = some x.2
  nd : (M.map (·.1)).Nodup
  dj : ∀ x, x ∈ M → G x.1 = none
def Fr (G : Hp) (M : Mem) (p : Addr) : Prop := G p = none ∧ ∀ x, x ∈ M → x.1 ≠ p
def At (G : Hp) (M : Mem) (a : Addr) (o : HO) : Prop := (a, o) ∈ M ∨ G a = some o
section
variable {G : Hp} {M : Mem} {H : Hp} {p a : Addr} {o o' : HO} {n : Nat}
theorem Hv.self (H : Hp) : Hv H [] H := ⟨fun _ _ h => h, fun _ h => (nomatch h), List.nodup_nil, fun _ h => (nomatch h)⟩
theorem Hv.fr (h : Hv G M H) (hp : H p = none) : Fr G M p := by
  refine ⟨?_, fun x hx e => ?_⟩
  · cases e : G p with
    | none => rfl
    | some o => rw [h.ex p o e] at hp; cases hp
  · have := h.mu x hx
    rw [e, hp] at this; cases this
theorem Hv.at (h : Hv G M H) (q : At G M a o) : H a = some o := by
  rcases q with q | q
  · exact h.mu _ q
  · exact h.ex _ _ q
theorem Hv.newM (h : Hv G M H) (hp : H p = none) : Hv G ((p, o) :: M) (upd H p o) := by
  have f := h.fr hp
  refine ⟨fun b u e => ?_, fun x hx => ?_, ?_, fun x hx => ?_⟩
  · rw [upd_ne (ne_of_none (h.ex b u e) hp)]; exact h.ex b u e
  · rcases List.mem_cons.mp hx with rfl | hx
    · exact upd_same
    · rw [upd_ne (f.2 x hx)]; exact h.mu x hx
  · rw [List.map_cons, List.nodup_cons]
    refine ⟨fun hm => ?_, h.nd⟩
    obtain ⟨x, hx, e⟩ := List.mem_map.mp hm
    exact f.2 x hx e
  · rcases List.mem_cons.mp hx with rfl | hx
    · exact f.1
    · exact h.dj x hx
theorem Hv.newG (h : Hv G M H) (hp : H p = none) : Hv (upd G p o) M (upd H p o) := by
  have f := h.fr hp
  refine ⟨fun b u e => ?_, fun x hx => ?_, h.nd, fun x hx => ?_⟩
  · by_cases hb : b = p
    · subst hb; rw [upd_same] at e ⊢; exact e
    · rw [upd_ne hb] at e ⊢; exact h.ex b u e
  · rw [upd_ne (f.2 x hx)]; exact h.mu x hx
  · rw [upd_ne (f.2 x hx)]; exact h.dj x hx
/-- an object that nobody knows of is laid: nothing known changes -/
theorem Hv.junk (h : Hv G M H) (hp : H p = none) : Hv G M (upd H p o) := by
  have f := h.fr hp
  refine ⟨fun b u e => ?_, fun x hx => ?_, h.nd, h.dj⟩
  · rw [upd_ne (ne_of_none (h.ex b u e) hp)]; exact h.ex b u e
  · rw [upd_ne (f.2 x hx)]; exact h.mu x hx
theorem Hv.get (h : Hv G M H) (hn : M[n]? = some (p, o)) : H p = some o := h.mu _ (List.mem_of_getElem? hn)
theorem map_set_fst : ∀ (M : Mem) (n : Nat) (p : Addr) (o o' : HO), M[n]? = some (p, o) → (M.set n (p, o')).map (·.1) = M.map (·.1)
  | [], _, _, _, _, h => by simp at h
  | x :: M, 0, p, o, o', h => by
    have e : x = (p, o) := by simpa using h
    subst e; rfl
  | x :: M, n + 1, p, o, o', h => by
    have e : M[n]? = some (p, o) := by simpa using h
    show x.1 :: (M.set n (p, o')).map (·.1) = _
    rw [map_set_fst M n p o o' e]; rfl
theorem nodup_at : ∀ (M : Mem) (n : Nat) (p : Addr) (o : HO) (x : Addr × HO) (m : Nat), (M.map (·.1)).Nodup → M[n]? = some (p, o) → M[m]? = some x → x.1 = p → m = n := by
  intro M n p o x m hd h1 h2 e
  have q1 : (M.map (·.1))[n]? = some p := by rw [List.getElem?_map, h1]; rfl
  have q2 : (M.map (·.1))[m]? = some p := by rw [List.getElem?_map, h2, ← e]; rfl
  obtain ⟨l1, e1⟩ := List.getElem?_eq_some_iff.mp q1
  obtain ⟨l2, e2⟩ := List.getElem?_eq_some_iff.mp q2
  exact (List.getElem_inj hd).mp (e2.trans e1.symm)
theorem Hv.set (h : Hv G M H) (hn : M[n]? = some (p, o)) : Hv G (M.set n (p, o')) (upd H p o') := by
  have hlt : n < M.length := (List.getElem?_eq_some_iff.mp hn).1
  refine ⟨fun b u e => ?_, fun x hx => ?_, ?_, fun x hx => ?_⟩
  · have : b ≠ p := fun z => by
      have q := h.dj _ (List.mem_of_getElem? hn)
      rw [z] at e
      rw [show G p = none from q] at e; cases e
    rw [upd_ne this]; exact h.ex b u e
  · obtain ⟨m, hm⟩ := List.getElem?_of_mem hx
    by_cases e : m = n
    · subst e
      rw [List.getElem?_set_self hlt] at hm
      cases hm
      exact upd_same
    · rw [List.getElem?_set_ne (Ne.symm e)] at hm
      have : x.1 ≠ p := fun z => e (nodup_at M n p o x m h.nd hn hm z)
      rw [upd_ne this]
      exact h.mu x (List.mem_of_getElem? hm)
  · rw [map_set_fst M n p o o' hn]; exact h.nd
  · have : x.1 ∈ M.map (·.1) := by
      rw [← map_set_fst M n p o o' hn]; exact List.mem_map.mpr ⟨x, hx, rfl⟩
    obtain ⟨y, hy, e⟩ := List.mem_map.mp this
    rw [← e]; exact h.dj y hy
/-- what is known may be forgotten, and what may be written may be frozen -/
def Wk (G : Hp) (M : Mem) (G' : Hp) (M' : Mem) : Prop := ∀ H, Hv G M H → Hv G' M' H
theorem Wk.refl : Wk G M G M := fun _ h => h
theorem Wk.trans {G1 G2 G3 : Hp} {M1 M2 M3 : Mem} (a : Wk G1 M1 G2 M2) (b : Wk G2 M2 G3 M3) : Wk G1 M1 G3 M3 := fun H h => b H (a H h)
theorem Wk.drop (M1 : Mem) {x : Addr × HO} {M2 : Mem} : Wk G (M1 ++ x :: M2) G (M1 ++ M2) := fun H h => by
  refine ⟨h.ex, fun y hy => h.mu y ?_, ?_, fun y hy => h.dj y ?_⟩
  · rcases List.mem_append.mp hy with q | q
    · exact List.mem_append.mpr (.inl q)
    · exact List.mem_append.mpr (.inr (List.mem_cons_of_mem _ q))
  · refine h.nd.sublist ?_
    simp
  · rcases List.mem_append.mp hy with q | q
    · exact List.mem_append.mpr (.inl q)
    · exact List.mem_append.mpr (.inr (List.mem_cons_of_mem _ q))
theorem Wk.drop0 {x : Addr × HO} : Wk G (x :: M) G M := Wk.drop []
theorem Wk.drop1 {x y : Addr × HO} : Wk G (y :: x :: M) G (y :: M) := Wk.drop [y]
theorem Wk.drop2 {x y z : Addr × HO} : Wk G (z :: y :: x :: M) G (z :: y :: M) := Wk.drop [z, y]
theorem Wk.frz (M1 : Mem) {M2 : Mem} : Wk G (M1 ++ (p, o) :: M2) (upd G p o) (M1 ++ M2) := fun H h => by
  have hp : H p = some o := h.mu (p, o) (by simp)
  have hg : G p = none := h.dj (p, o) (by simp)
  have h2 := Wk.drop (G := G) M1 (x := (p, o)) (M2 := M2) H h
  refine ⟨fun b u e => ?_, h2.mu, h2.nd, fun x hx => ?_⟩
  · by_cases hb : b = p
    · subst hb; rw [upd_same] at e; cases e; exact hp
    · rw [upd_ne hb] at e; exact h.ex b u e
  · have : x.1 ≠ p := fun z => by
      have nd := h.nd
      rw [List.map_append, List.map_cons, List.nodup_append] at nd
      obtain ⟨n1, n2, n3⟩ := nd
      rcases List.mem_append.mp hx with q | q
      · exact n3 x.1 (List.mem_map.mpr ⟨x, q, rfl⟩) p (by simp) z
      · rw [List.nodup_cons] at n2
        exact n2.1 (by rw [← z]; exact List.mem_map.mpr ⟨x, q, rfl⟩)
    rw [upd_ne this]; exact h2.dj x hx
theorem Wk.frz0 : Wk G ((p, o) :: M) (upd G p o) M := Wk.frz []
theorem Wk.frz1 {y : Addr × HO} : Wk G (y :: (p, o) :: M) (upd G p o) (y :: M) := Wk.frz [y]
theorem Wk.perm {M' : Mem} (e : M'.Perm M) : Wk G M G M' := fun H h =>
  ⟨h.ex, fun x hx => h.mu x (e.mem_iff.mp hx), (e.map _).nodup_iff.mpr h.nd, fun x hx => h.dj x (e.mem_iff.mp hx)⟩
theorem Wk.swap {x y : Addr × HO} : Wk G (x :: y :: M) G (y :: x :: M) := Wk.perm (List.Perm.swap x y M)
/-- less of the frozen part -/
theorem Wk.less {G' : Hp} (e : ∀ a o, G' a = some o → G a = some o) : Wk G M G' M := fun H h =>
  ⟨fun a o q => h.ex a o (e a o q), h.mu, h.nd, fun x hx => by
    cases q : G' x.1 with
    | none => rfl
    | some o => have := h.dj x hx; rw [e _ _ q] at this; cases this⟩
end

/-! ### extension of the frozen part -/
def Ex (G G' : Hp) : Prop := ∀ a o, G a = some o → G' a = some o
theorem Ex.refl {G : Hp} : Ex G G := fun _ _ h => h
theorem Ex.trans {G G1 G2 : Hp} (a : Ex G G1) (b : Ex G1 G2) : Ex G G2 := fun x o h => b x o (a x o h)
theorem Ex.new {G : Hp} {M : Mem} {p : Addr} {o : HO} (h : Fr G M p) : Ex G (upd G p o) := fun a u e => by
  rw [upd_ne (ne_of_none e h.1)]; exact e
theorem Ex.new' {G : Hp} {p : Addr} {o : HO} (h : G p = none) : Ex G (upd G p o) := fun a u e => by
  rw [upd_ne (ne_of_none e h)]; exact e
theorem ex_rd {H H' : Hp} {a : Addr} {u : HO} (e : Ex H H') (h : Rd H a u) : Rd H' a u := by
  rcases h with h | ⟨o, h⟩
  · exact .inl (e a _ h)
  · exact .inr ⟨o, e a _ h⟩
theorem ex_l {K : PySem.W.Frag} {H H' : Hp} {a : Addr} {xs : List V} (e : Ex H H') (h : SqL K H a xs) : SqL K H' a xs := by
  rcases h with h | h
  · exact .inl (ex_rd e h)
  · exact .inr h
theorem ex_t {K : PySem.W.Frag} {H H' : Hp} {a : Addr} {xs : List V} (e : Ex H H') (h : SqT K H a xs) : SqT K H' a xs := by
  rcases h with h | h
  · exact .inl (ex_rd e h)
  · exact .inr h
mutual
theorem ex_d {K : PySem.W.Frag} {H H' : Hp} (e : Ex H H') : ∀ (d : PyData) {v : V}, Dp K H v d → Dp K H' v d
  | _, _, .non => .non
  | _, _, .bl b => .bl b
  | _, _, .int b => .int b
  | _, _, .str b => .str b
  | .list ds, _, .lst s a => .lst (ex_l e s) (ex_ds e ds a)
  | .tuple ds, _, .tup s a => .tup (ex_t e s) (ex_ds e ds a)
theorem ex_ds {K : PySem.W.Frag} {H H' : Hp} (e : Ex H H') : ∀ (ds : List PyData) {vs : List V}, DpAll K H vs ds → DpAll K H' vs ds
  | _, _, .nil => .nil
  | d :: ds, _, .cons a b => .cons (ex_d e d a) (ex_ds e ds b)
end
/-- a list, a tuple that can be read -/
def LstAt (K : PySem.W.Frag) (G : Hp) (M : Mem) (a : Addr) (xs : List V) : Prop := (a, HO.lst xs) ∈ M ∨ SqL K G a xs
def TupAt (K : PySem.W.Frag) (G : Hp) (M : Mem) (a : Addr) (xs : List V) : Prop := SqT K G a xs
def SeqAt' (K : PySem.W.Frag) (G : Hp) (M : Mem) (a : Addr) (xs : List V) : Prop := LstAt K G M a xs ∨ SqT K G a xs
/-- data that can be read -/
def DatAt (K : PySem.W.Frag) (G : Hp) (M : Mem) (v : V) (d : PyData) : Prop := ∀ H, Hv G M H → Dp K H v d
section
variable {K : PySem.W.Frag} {G : Hp} {M : Mem} {H : Hp} {a : Addr} {xs : List V}
theorem Hv.exx (h : Hv G M H) : Ex G H := h.ex
theorem Hv.lst (h : Hv G M H) (q : LstAt K G M a xs) : SqL K H a xs := by
  rcases q with q | q
  · exact .inl (.inl (h.mu _ q))
  · exact ex_l h.exx q
theorem Hv.tup (h : Hv G M H) (q : SqT K G a xs) : SqT K H a xs := ex_t h.exx q
theorem Hv.dat (h : Hv G M H) {v : V} {d : PyData} (q : DatAt K G M v d) : Dp K H v d := q H h
end

/-! ### judgements -/
abbrev KR := V → Hp → Mem → Prop
abbrev KX := Value → Option Addr → Hp → Mem → Prop
abbrev KK (α : Type) := St → Hp → Mem → (α → Hp → Mem → Prop) → KX → Prop
abbrev KE := KK V
abbrev KA := KK (List V)
abbrev KT := KK Bool
def upG {α : Type} (W : WX) (t : KK α) : St → Hp → (α → Hp → Prop) → Prop := fun σ H Q =>
  ∃ G M R E, Hv G M H ∧ t σ G M R E ∧ (∀ v G' M' H', Hv G' M' H' → R v G' M' → Q v H') ∧ (∀ c d G' M' H', Hv G' M' H' → E c d G' M' → W c d σ H')
def JE (X : Cx) (W : WX) (e : Expr) (t : KE) : Prop := PE X e (upG W t)
def JT (X : Cx) (W : WX) (e : Expr) (t : KT) : Prop := PT X e (upG W t)
def JW (X : Cx) (W : WX) (e : Expr) (t : KT) : Prop := PW X e (upG W t)
def JA (X : Cx) (W : WX) (es : List Expr) (t : KA) : Prop := PA X es (upG W t)
theorem pe_mono {X : Cx} {e : Expr} {t t' : TE} (h : PE X e t) (i : ∀ σ H Q, t' σ H Q → t σ H Q) : PE X e t' := ⟨fun pins s σ H Q I q => h.run pins s σ H Q I (i σ H Q q)⟩
theorem pt_mono {X : Cx} {e : Expr} {t t' : TT} (h : PT X e t) (i : ∀ σ H Q, t' σ H Q → t σ H Q) : PT X e t' := ⟨fun pins s σ H Q I q => h.run pins s σ H Q I (i σ H Q q)⟩
theorem pw_mono {X : Cx} {e : Expr} {t t' : TT} (h : PW X e t) (i : ∀ σ H Q, t' σ H Q → t σ H Q) : PW X e t' := ⟨fun wh pins s σ H Q I q => h.run wh pins s σ H Q I (i σ H Q q)⟩
theorem pa_mono {X : Cx} {e : List Expr} {t t' : TA} (h : PA X e t) (i : ∀ σ H Q, t' σ H Q → t σ H Q) : PA X e t' := ⟨fun pos pins s σ H Q I q => h.run pos pins s σ H Q I (i σ H Q q)⟩

section
variable {X : Cx} {W : WX} {pos : Pos}
/-- names, constants -/
def kVar (i : Nat) : KE := fun σ G M R _ => match σ[i]? with
  | some (some v) => R v G M
  | _ => False
def kC (v : V) : KE := fun _ G M R _ => R v G M
theorem je_var (i : Nat) {x : Str} (hN : X.N[i]? = some x := by rfl) (hv : Vis X.env.scope x := by first | exact Or.inl rfl | exact Or.inr (Or.inl rfl) | exact Or.inr (Or.inr rfl)) (hd : (x == ("__debug__" : Str)) = false := by decide)
    (hcd : (x == ("__classdict__" : Str)) = false := by decide) : JE X W (.Name x pos) (kVar i) := pe_mono (pe_var hN hv hd hcd) fun σ H Q ⟨G, M, R, E, hv, h, hR, _⟩ => by
  unfold kVar at h
  split at h
  · rename_i v e
    exact ⟨v, e, hR v G M H hv h⟩
  · exact h.elim
theorem je_c {e : Expr} {v : V} (h : PE X e (tC v)) : JE X W e (kC v) := pe_mono h fun σ H Q ⟨G, M, R, E, hv, h, hR, _⟩ => hR v G M H hv h
theorem je_int {i : Int} {j pos} : JE X W (.Constant (.int i) j pos) (kC (.int i)) := je_c pe_int
theorem je_bl {i : Bool} {j pos} : JE X W (.Constant (.bool i) j pos) (kC (.bl i)) := je_c pe_bl
theorem je_non {j pos} : JE X W (.Constant .none j pos) (kC .non) := je_c pe_non
theorem je_str {i : Str} {j pos} : JE X W (.Constant (.str i) j pos) (kC (.str i)) := je_c pe_str
/-- two in a row -/
def kBin {β : Type} (k : V → V → Hp → Mem → (β → Hp → Mem → Prop) → Prop) (ta tb : KE) : KK β := fun σ G M R E => ta σ G M (fun x G M => tb σ G M (fun y G M => k x y G M R) E) E
abbrev KR2 := V → V → Hp → Mem → KR → Prop
def KOp (X : Cx) (f : Value → Value → Sem Value) (k : KR2) : Prop :=
  ∀ (pins : List (Addr × Obj)) (s : Shared) (σ : St) (H : Hp) (x y : V) (v u : Value) (Q : VK) (G : Hp) (M : Mem) (R : KR), Inv X pins σ H s → RelV x v → RelV y u → Hv G M H → k x y G M R →
    (∀ v G' M' H', Hv G' M' H' → R v G' M' → Q v H') → wpAny (model X.prog X.w) X.A (f v u) (EP X pins σ Q) X.xe s
theorem kop_of {f : Value → Value → Sem Value} {r : R2} {k : KR2} (ho : OpR X f r)
    (s : ∀ x y G M R H Q, Hv G M H → k x y G M R → (∀ v G' M' H', Hv G' M' H' → R v G' M' → Q v H') → r x y H Q) : KOp X f k :=
  fun pins st σ H x y v u Q G M R I rx ry hv h hR => ho pins st σ H x y v u Q I rx ry (s x y G M R H Q hv h hR)
/-- an OpR whose reading is: it holds of k in some knowledge -/
def rUp (k : KR2) : R2 := fun x y H Q => ∃ G M R, Hv G M H ∧ k x y G M R ∧ ∀ v G' M' H', Hv G' M' H' → R v G' M' → Q v H'
theorem KOp.opr {f : Value → Value → Sem Value} {k : KR2} (h : KOp X f k) : OpR X f (rUp k) := fun pins s σ H x y v u Q I rx ry ⟨G, M, R, hv, hk, hR⟩ => h pins s σ H x y v u Q G M R I rx ry hv hk hR
theorem bin_sim {ta tb : KE} {k : KR2} {σ : St} {H : Hp} {Q : VK} (h : upG W (kBin k ta tb) σ H Q) : tOp (rUp k) (upG W ta) (upG W tb) σ H Q := by
  obtain ⟨G, M, R, E, hv, h, hR, hE⟩ := h
  exact ⟨G, M, _, E, hv, h, fun x G1 M1 H1 hv1 h1 => ⟨G1, M1, _, E, hv1, h1, fun y G2 M2 H2 hv2 h2 => ⟨G2, M2, R, hv2, h2, hR⟩, hE⟩, hE⟩
theorem je_op {a b : Expr} {op : Operator} {k : KR2} {ta tb : KE} (ho : KOp X (binaryOp op) k) (ha : JE X W a ta) (hb : JE X W b tb) : JE X W (.BinOp a op b pos) (kBin k ta tb) :=
  pe_mono (pe_op ho.opr ha hb) fun _ _ _ h => bin_sim h
theorem je_cmp {a b : Expr} {op : CmpOp} {k : KR2} {ta tb : KE} (ho : KOp X (compareOp op) k) (ha : JE X W a ta) (hb : JE X W b tb) (hm : behindInMarks op b = false) : JE X W (.Compare a [op] [b] pos) (kBin k ta tb) :=
  pe_mono (pe_cmpR ho.opr ha hb hm) fun _ _ _ h => bin_sim h
/-- a value as a test -/
def asB (R : Bool → Hp → Mem → Prop) : KR := fun v G M => match v with
  | .bl b => R b G M
  | _ => False
def kT (t : KE) : KT := fun σ G M R E => t σ G M (asB R) E
theorem asB_of {R : Bool → Hp → Mem → Prop} {v : V} {G : Hp} {M : Mem} (h : asB R v G M) : ∃ c, v = .bl c ∧ R c G M := by
  cases v <;> first | exact ⟨_, rfl, h⟩ | exact h.elim
theorem t_sim {t : KE} {σ : St} {H : Hp} {Q : Bool → Hp → Prop} (h : upG W (kT t) σ H Q) : tTest (upG W t) σ H Q := by
  obtain ⟨G, M, R, E, hv, h, hR, hE⟩ := h
  refine ⟨G, M, _, E, hv, h, fun v G1 M1 H1 hv1 h1 => ?_, hE⟩
  obtain ⟨c, rfl, h2⟩ := asB_of h1
  exact ⟨c, rfl, hR c G1 M1 H1 hv1 h2⟩
theorem jt_cmp {a b : Expr} {op : CmpOp} {k : KR2} {ta tb : KE} (ho : KOp X (compareOp op) k) (ha : JE X W a ta) (hb : JE X W b tb) (hm : behindInMarks op b = false) : JT X W (.Compare a [op] [b] pos) (kT (kBin k ta tb)) :=
  pt_mono (pt_cmpR ho.opr ha hb hm) fun σ H Q h => by
    have h2 := t_sim h
    exact bin_sim h2
theorem jt_val {e : Expr} {t : KE} (h : JE X W e t) (he : ∀ whole, isTrue e X.env whole = (do let v ← whole; standAt e.pos; holding [v] (truthy v)) := by intro _; rfl) : JT X W e (kT t) :=
  pt_mono (pt_val h he) fun σ H Q h => t_sim h
/-- chains -/
def kChain (k k' : KR2) (ta tb tc : KE) : KE := fun σ G M R E => ta σ G M (fun x G M => tb σ G M (fun y G M => k x y G M (asB fun c G M => if c = true then tc σ G M (fun z G M => k' y z G M R) E else R (.bl false) G M)) E) E
theorem chain_sim {ta tb tc : KE} {k k' : KR2} {σ : St} {H : Hp} {Q : VK} (h : upG W (kChain k k' ta tb tc) σ H Q) : tChain (rUp k) (rUp k') (upG W ta) (upG W tb) (upG W tc) σ H Q := by
  obtain ⟨G, M, R, E, hv, h, hR, hE⟩ := h
  refine ⟨G, M, _, E, hv, h, fun x G1 M1 H1 hv1 h1 => ⟨G1, M1, _, E, hv1, h1, fun y G2 M2 H2 hv2 h2 => ⟨G2, M2, _, hv2, h2, fun v G3 M3 H3 hv3 h3 => ?_⟩, hE⟩, hE⟩
  obtain ⟨c, rfl, h4⟩ := asB_of h3
  refine ⟨c, rfl, ?_⟩
  cases c with
  | true =>
    rw [if_pos rfl] at h4 ⊢
    exact ⟨G3, M3, _, E, hv3, h4, fun z G4 M4 H4 hv4 h5 => ⟨G4, M4, R, hv4, h5, hR⟩, hE⟩
  | false =>
    rw [if_neg Bool.false_ne_true] at h4 ⊢
    exact hR _ G3 M3 H3 hv3 h4
theorem je_chain {a b c : Expr} {op op' : CmpOp} {k k' : KR2} {ta tb tc : KE} (ho : KOp X (compareOp op) k) (ho' : KOp X (compareOp op') k') (ha : JE X W a ta) (hb : JE X W b tb) (hc : JE X W c tc)
    (hm : lastMarks [op, op'] [b, c] = false := by with_unfolding_all rfl) : JE X W (.Compare a [op, op'] [b, c] pos) (kChain k k' ta tb tc) := pe_mono (pe_chain ho.opr ho'.opr ha hb hc hm) fun _ _ _ h => chain_sim h
theorem jt_chain {a b c : Expr} {op op' : CmpOp} {k k' : KR2} {ta tb tc : KE} (ho : KOp X (compareOp op) k) (ho' : KOp X (compareOp op') k') (ha : JE X W a ta) (hb : JE X W b tb) (hc : JE X W c tc)
    (hm : lastMarks [op, op'] [b, c] = false := by with_unfolding_all rfl) : JT X W (.Compare a [op, op'] [b, c] pos) (kT (kChain k k' ta tb tc)) := pt_mono (pt_chain ho.opr ho'.opr ha hb hc hm) fun _ _ _ h => chain_sim (t_sim h)
/-- and, or, not -/
def kAnd (t u : KT) : KT := fun σ G M R E => t σ G M (fun c G M => if c = true then u σ G M R E else R false G M) E
def kOr (t u : KT) : KT := fun σ G M R E => t σ G M (fun c G M => if c = true then R true G M else u σ G M R E) E
def kNot (t : KT) : KT := fun σ G M R E => t σ G M (fun c G M => R (!c) G M) E
def kAndV (t u : KE) : KE := fun σ G M R E => t σ G M (asB fun c G M => if c = true then u σ G M R E else R (.bl false) G M) E
def kOrV (t u : KE) : KE := fun σ G M R E => t σ G M (asB fun c G M => if c = true then R (.bl true) G M else u σ G M R E) E
def kNotV (t : KE) : KE := fun σ G M R E => t σ G M (asB fun c G M => R (.bl (!c)) G M) E
variable {a b : Expr} {rest : List Expr}
theorem jw_and1 {t : KT} (h : JT X W a t) : JW X W (.BoolOp .And [a] pos) t := pw_and1 h
theorem jw_or1 {t : KT} (h : JT X W a t) : JW X W (.BoolOp .Or [a] pos) t := pw_or1 h
theorem jw_and {t u : KT} (ha : JT X W a t) (hb : JW X W (.BoolOp .And (b :: rest) pos) u) : JW X W (.BoolOp .And (a :: b :: rest) pos) (kAnd t u) :=
  pw_mono (pw_and ha hb) fun σ H Q ⟨G, M, R, E, hv, h, hR, hE⟩ => ⟨G, M, _, E, hv, h, fun c G1 M1 H1 hv1 h1 => by
    cases c with
    | true => rw [if_pos rfl] at h1 ⊢; exact ⟨G1, M1, R, E, hv1, h1, hR, hE⟩
    | false => rw [if_neg Bool.false_ne_true] at h1 ⊢; exact hR _ G1 M1 H1 hv1 h1, hE⟩
theorem jw_or {t u : KT} (ha : JT X W a t) (hb : JW X W (.BoolOp .Or (b :: rest) pos) u) : JW X W (.BoolOp .Or (a :: b :: rest) pos) (kOr t u) :=
  pw_mono (pw_or ha hb) fun σ H Q ⟨G, M, R, E, hv, h, hR, hE⟩ => ⟨G, M, _, E, hv, h, fun c G1 M1 H1 hv1 h1 => by
    cases c with
    | true => rw [if_pos rfl] at h1 ⊢; exact hR _ G1 M1 H1 hv1 h1
    | false => rw [if_neg Bool.false_ne_true] at h1 ⊢; exact ⟨G1, M1, R, E, hv1, h1, hR, hE⟩, hE⟩
theorem JW.jt {e : Expr} {t : KT} (h : JW X W e t) : JT X W e t := PW.pt h
theorem jt_not {t : KT} (h : JT X W a t) : JT X W (.UnaryOp .Not a pos) (kNot t) :=
  pt_mono (pt_not h) fun σ H Q ⟨G, M, R, E, hv, h, hR, hE⟩ => ⟨G, M, _, E, hv, h, fun c G1 M1 H1 hv1 h1 => hR _ G1 M1 H1 hv1 h1, hE⟩
theorem je_one {op} {t : KE} (h : JE X W a t) : JE X W (.BoolOp op [a] pos) t := pe_one h
theorem je_and {t u : KE} (ha : JE X W a t) (hb : JE X W (.BoolOp .And (b :: rest) pos) u) : JE X W (.BoolOp .And (a :: b :: rest) pos) (kAndV t u) :=
  pe_mono (pe_and ha hb) fun σ H Q ⟨G, M, R, E, hv, h, hR, hE⟩ => ⟨G, M, _, E, hv, h, fun v G1 M1 H1 hv1 h1 => by
    obtain ⟨c, rfl, h2⟩ := asB_of h1
    refine ⟨c, rfl, ?_⟩
    cases c with
    | true => rw [if_pos rfl] at h2 ⊢; exact ⟨G1, M1, R, E, hv1, h2, hR, hE⟩
    | false => rw [if_neg Bool.false_ne_true] at h2 ⊢; exact hR _ G1 M1 H1 hv1 h2, hE⟩
theorem je_or {t u : KE} (ha : JE X W a t) (hb : JE X W (.BoolOp .Or (b :: rest) pos) u) : JE X W (.BoolOp .Or (a :: b :: rest) pos) (kOrV t u) :=
  pe_mono (pe_or ha hb) fun σ H Q ⟨G, M, R, E, hv, h, hR, hE⟩ => ⟨G, M, _, E, hv, h, fun v G1 M1 H1 hv1 h1 => by
    obtain ⟨c, rfl, h2⟩ := asB_of h1
    refine ⟨c, rfl, ?_⟩
    cases c with
    | true => rw [if_pos rfl] at h2 ⊢; exact hR _ G1 M1 H1 hv1 h2
    | false => rw [if_neg Bool.false_ne_true] at h2 ⊢; exact ⟨G1, M1, R, E, hv1, h2, hR, hE⟩, hE⟩
theorem je_not {t : KE} (h : JE X W a t) : JE X W (.UnaryOp .Not a pos) (kNotV t) :=
  pe_mono (pe_not h) fun σ H Q ⟨G, M, R, E, hv, h, hR, hE⟩ => ⟨G, M, _, E, hv, h, fun v G1 M1 H1 hv1 h1 => by
    obtain ⟨c, rfl, h2⟩ := asB_of h1
    exact ⟨c, rfl, hR _ G1 M1 H1 hv1 h2⟩, hE⟩
/-- a if c else b -/
def kIte (t : KT) (ta tb : KE) : KE := fun σ G M R E => t σ G M (fun c G M => if c = true then ta σ G M R E else tb σ G M R E) E
end
end BT
set_option Elab.async false
set_option linter.all false
set_option maxRecDepth 100000
set_option maxHeartbeats 4000000
namespace BT
open PySem PySem.Spec L2
open PyProof.Rows hiding St
section
variable {X : Cx} {W : WX} {pos : Pos} {a b c e : Expr} {es : List Expr}
theorem je_ite {t : KT} {ta tb : KE} (hc : JT X W c t) (ha : JE X W a ta) (hb : JE X W b tb) : JE X W (.IfExp c a b pos) (kIte t ta tb) :=
  pe_mono (pe_ifExp hc ha hb) fun σ H Q ⟨G, M, R, E, hv, h, hR, hE⟩ => ⟨G, M, _, E, hv, h, fun c G1 M1 H1 hv1 h1 => by
    cases c with
    | true => rw [if_pos rfl] at h1 ⊢; exact ⟨G1, M1, R, E, hv1, h1, hR, hE⟩
    | false => rw [if_neg Bool.false_ne_true] at h1 ⊢; exact ⟨G1, M1, R, E, hv1, h1, hR, hE⟩, hE⟩
/-! ### arguments, displays -/
def kNil : KA := fun _ G M R _ => R [] G M
def kCons (t : KE) (u : KA) : KA := fun σ G M R E => t σ G M (fun x G M => u σ G M (fun xs G M => R (x :: xs) G M) E) E
theorem ja_nil : JA X W [] kNil := pa_mono pa_nil fun σ H Q ⟨G, M, R, E, hv, h, hR, _⟩ => hR _ G M H hv h
theorem ja_cons {t : KE} {u : KA} (ha : JE X W e t) (hr : JA X W es u) (hs : starEach (e :: es) X.env = (false, eval e X.env) :: starEach es X.env := by rfl) : JA X W (e :: es) (kCons t u) :=
  pa_mono (pa_cons ha hr hs) fun σ H Q ⟨G, M, R, E, hv, h, hR, hE⟩ => ⟨G, M, _, E, hv, h, fun x G1 M1 H1 hv1 h1 => ⟨G1, M1, _, E, hv1, h1, fun xs G2 M2 H2 hv2 h2 => hR _ G2 M2 H2 hv2 h2, hE⟩, hE⟩
def kLst (t : KA) : KE := fun σ G M R E => t σ G M (fun xs G M => xs.length ≤ sizeLine ∧ ∀ p, Fr G M p → R (.ref p) G ((p, .lst xs) :: M)) E
def kTup (t : KA) : KE := fun σ G M R E => t σ G M (fun xs G M => xs.length ≤ sizeLine ∧ ∀ p, Fr G M p → R (.ref p) (upd G p (.tup xs)) M) E
theorem je_lst {t : KA} (h : JA X W es t) : JE X W (.List es pos) (kLst t) :=
  pe_mono (pe_lst h) fun σ H Q ⟨G, M, R, E, hv, h, hR, hE⟩ => ⟨G, M, _, E, hv, h, fun xs G1 M1 H1 hv1 h1 => ⟨h1.1, fun p hp => hR _ G1 _ _ (hv1.newM hp) (h1.2 p (hv1.fr hp))⟩, hE⟩
theorem je_tup {t : KA} {k : Nat} (h : JA X W es t) : JE X W (.Tuple es k pos) (kTup t) :=
  pe_mono (pe_tup h) fun σ H Q ⟨G, M, R, E, hv, h, hR, hE⟩ => ⟨G, M, _, E, hv, h, fun xs G1 M1 H1 hv1 h1 => ⟨h1.1, fun p hp => hR _ _ M1 _ (hv1.newG hp) (h1.2 p (hv1.fr hp))⟩, hE⟩
/-! ### operators -/
def kAdd : KR2 := fun x y G M R => match x, y with
  | .int i, .int j => R (.int (i + j)) G M
  | .str i, .str j => i.length + j.length ≤ sizeLine ∧ R (.str (i ++ j)) G M
  | .ref a, .ref b => ∃ xs ys, At G M a (.lst xs) ∧ At G M b (.lst ys) ∧ xs.length + ys.length ≤ sizeLine ∧ ∀ p, Fr G M p → R (.ref p) G ((p, .lst (xs ++ ys)) :: M)
  | _, _ => False
theorem kop_add : KOp X (binaryOp .Add) kAdd := fun pins s σ H x y v u Q G M R I rx ry hv h hR => by
  cases x <;> cases y <;> first
    | exact op_add pins s σ H _ _ v u Q I rx ry ⟨_, _, rfl, rfl, hR _ G M H hv h⟩
    | exact op_add_str pins s σ H _ _ v u Q I rx ry ⟨_, _, rfl, rfl, h.1, hR _ G M H hv h.2⟩
    | (obtain ⟨xs, ys, h1, h2, h3, h4⟩ := h
       exact op_cat pins s σ H _ _ v u Q I rx ry ⟨_, _, xs, ys, rfl, rfl, hv.at h1, hv.at h2, h3, fun p hp => hR _ G _ _ (hv.newM hp) (h4 p (hv.fr hp))⟩)
    | exact h.elim
def kI (C : Int → Int → Prop) (g : Int → Int → V) : KR2 := fun x y G M R => match x, y with
  | .int i, .int j => C i j ∧ R (g i j) G M
  | _, _ => False
def kI0 (g : Int → Int → V) : KR2 := fun x y G M R => match x, y with
  | .int i, .int j => R (g i j) G M
  | _, _ => False
theorem kop_I {f : Value → Value → Sem Value} {C : Int → Int → Prop} {g : Int → Int → V} (h : OpR X f (rI C g)) : KOp X f (kI C g) := kop_of h fun x y G M R H Q hv h hR => by
  cases x <;> cases y <;> first
    | exact ⟨_, _, rfl, rfl, h.1, hR _ G M H hv h.2⟩
    | exact h.elim
theorem kop_I0 {f : Value → Value → Sem Value} {g : Int → Int → V} (h : OpR X f (rI0 g)) : KOp X f (kI0 g) := kop_of h fun x y G M R H Q hv h hR => by
  cases x <;> cases y <;> first
    | exact ⟨_, _, rfl, rfl, hR _ G M H hv h⟩
    | exact h.elim
/-- sizes of products, quotients -/
def MulOk (i j : Int) : Prop := CMul i j ∨ CMulW i j
theorem kop_sub : KOp X (binaryOp .Sub) (kI0 fun i j => .int (i - j)) := kop_I0 op_sub
/-- a product of ints, a list repeated -/
def kMul : KR2 := fun x y G M R => match x, y with
  | .int i, .int j => MulOk i j ∧ R (.int (i * j)) G M
  | .ref a, .int k => ∃ xs, At G M a (.lst xs) ∧ -(2 ^ 63) ≤ k ∧ k < 2 ^ 63 ∧ xs.length * k.toNat ≤ sizeLine ∧ ∀ p, Fr G M p → R (.ref p) G ((p, .lst (List.replicate k.toNat xs).flatten) :: M)
  | _, _ => False
theorem kop_mul : KOp X (binaryOp .Mult) kMul := fun pins s σ H x y v u Q G M R I rx ry hv h hR => by
  cases x <;> cases y <;> first
    | (obtain ⟨hc, h⟩ := h
       rcases hc with hc | hc
       · exact op_mul pins s σ H _ _ v u Q I rx ry ⟨_, _, rfl, rfl, hc, hR _ G M H hv h⟩
       · exact op_mulW pins s σ H _ _ v u Q I rx ry ⟨_, _, rfl, rfl, hc, hR _ G M H hv h⟩)
    | (obtain ⟨xs, h1, h2, h3, h4, h5⟩ := h
       exact op_rep pins s σ H _ _ v u Q I rx ry ⟨_, _, xs, rfl, rfl, hv.at h1, h2, h3, h4, fun p hp => hR _ G _ _ (hv.newM hp) (h5 p (hv.fr hp))⟩)
    | exact h.elim
theorem kop_mod : KOp X (binaryOp .Mod) (kI (fun _ j => 0 < j) fun i j => .int (i % j)) := kop_I op_mod
theorem kop_fdiv : KOp X (binaryOp .FloorDiv) (kI CDivW fun i j => .int (i / j)) := kop_I op_fdivW
theorem kop_pow : KOp X (binaryOp .Pow) (kI CPow fun i j => .int (i ^ j.toNat)) := kop_I op_pow
theorem kop_shl : KOp X (binaryOp .LShift) (kI CPow fun i j => .int (i * 2 ^ j.toNat)) := kop_I op_shl
theorem kop_shr : KOp X (binaryOp .RShift) (kI (fun _ j => 0 ≤ j) fun i j => .int (i / 2 ^ j.toNat)) := kop_I op_shr
theorem kop_lt : KOp X (compareOp .Lt) (kI0 fun i j => .bl (decide (i < j))) := kop_I0 op_lt
theorem kop_le : KOp X (compareOp .LtE) (kI0 fun i j => .bl (decide (i ≤ j))) := kop_I0 op_le
theorem kop_gt : KOp X (compareOp .Gt) (kI0 fun i j => .bl (decide (j < i))) := kop_I0 op_gt
theorem kop_ge : KOp X (compareOp .GtE) (kI0 fun i j => .bl (decide (j ≤ i))) := kop_I0 op_ge
/-- equality: of plain values at once, of data by what they hold -/
def kEqv (neg : Bool) (K : PySem.W.Frag) : KR2 := fun x y G M R =>
  match scal x y with
  | true => R (.bl (if neg then !decide (x = y) else decide (x = y))) G M
  | false => ∃ d e, DatAt K G M x d ∧ DatAt K G M y e ∧ SeqAt.shaped d = true ∧ SeqAt.shaped e = true ∧ R (.bl (if neg then !PyData.eqv d e else PyData.eqv d e)) G M
theorem kop_eq (hu : X.A.units + 64 < cLine) : KOp X (compareOp .Eq) (kEqv false X.K) := fun pins s σ H x y v u Q G M R I rx ry hv h hR => by
  unfold kEqv at h
  split at h
  · rename_i e
    exact op_eq pins s σ H _ _ v u Q I rx ry ⟨e, hR _ G M H hv h⟩
  · obtain ⟨d, e, h1, h2, h3, h4, h5⟩ := h
    exact op_eqD hu pins s σ H _ _ v u Q I rx ry ⟨d, e, hv.dat h1, hv.dat h2, h3, h4, hR _ G M H hv h5⟩
theorem kop_ne (hu : X.A.units + 64 < cLine) : KOp X (compareOp .NotEq) (kEqv true X.K) := fun pins s σ H x y v u Q G M R I rx ry hv h hR => by
  unfold kEqv at h
  split at h
  · rename_i e
    exact op_ne pins s σ H _ _ v u Q I rx ry ⟨e, hR _ G M H hv h⟩
  · obtain ⟨d, e, h1, h2, h3, h4, h5⟩ := h
    exact op_neD hu pins s σ H _ _ v u Q I rx ry ⟨d, e, hv.dat h1, hv.dat h2, h3, h4, hR _ G M H hv h5⟩
def kIs (neg : Bool) : KR2 := fun x y G M R => match y with
  | .non => R (.bl (if neg then !decide (x = .non) else decide (x = .non))) G M
  | _ => False
theorem kop_is : KOp X (compareOp .Is) (kIs false) := kop_of op_isN fun x y G M R H Q hv h hR => by
  cases y <;> first
    | exact ⟨rfl, hR _ G M H hv h⟩
    | exact h.elim
theorem kop_isnot : KOp X (compareOp .IsNot) (kIs true) := kop_of op_notN fun x y G M R H Q hv h hR => by
  cases y <;> first
    | exact ⟨rfl, hR _ G M H hv h⟩
    | exact h.elim
def kUn (k : V → Hp → Mem → KR → Prop) (t : KE) : KE := fun σ G M R E => t σ G M (fun x G M => k x G M R) E
def kNeg : V → Hp → Mem → KR → Prop := fun x G M R => match x with
  | .int i => R (.int (-i)) G M
  | _ => False
theorem je_neg {t : KE} (h : JE X W a t) : JE X W (.UnaryOp .USub a pos) (kUn kNeg t) :=
  pe_mono (pe_un un_neg h) fun σ H Q ⟨G, M, R, E, hv, h, hR, hE⟩ => ⟨G, M, _, E, hv, h, fun x G1 M1 H1 hv1 h1 => by
    cases x <;> first
      | exact ⟨_, rfl, hR _ G1 M1 H1 hv1 h1⟩
      | exact h1.elim, hE⟩
/-! ### subscripts, slices -/
def kIx (K : PySem.W.Frag) : KR2 := fun x y G M R => match x, y with
  | .ref a, .int i => ∃ xs v, SeqAt' K G M a xs ∧ atI xs i = some v ∧ R v G M
  | .str z, .int i => ∃ c, z.length ≤ sizeLine ∧ atI z.cps.toList i = some c ∧ R (.str ⟨#[c]⟩) G M
  | _, _ => False
theorem ix_k : IxR X (rUp (kIx X.K)) := fun value slice pins s σ H x y v u Q I rx ry ⟨G, M, R, hv, h, hR⟩ hs => by
  cases x <;> cases y <;> first
    | (obtain ⟨xs, w, h1, h2, h3⟩ := h
       rcases h1 with h1 | h1
       · exact ix_list value slice pins s σ H _ _ v u Q I rx ry ⟨_, xs, _, w, rfl, rfl, hv.lst h1, h2, hR _ G M H hv h3⟩ hs
       · exact ix_tup value slice pins s σ H _ _ v u Q I rx ry ⟨_, xs, _, w, rfl, rfl, hv.tup h1, h2, hR _ G M H hv h3⟩ hs)
    | (obtain ⟨c, h1, h2, h3⟩ := h
       exact ix_str value slice pins s σ H _ _ v u Q I rx ry ⟨_, _, c, rfl, rfl, h1, h2, hR _ G M H hv h3⟩ hs)
    | exact h.elim
theorem je_ix {ta tb : KE} (ha : JE X W a ta) (hb : JE X W b tb) (hs : PlainIx b := by exact fun _ _ => rfl) : JE X W (.Subscript a b pos) (kBin (kIx X.K) ta tb) :=
  pe_mono (pe_ix ix_k ha hb hs) fun _ _ _ h => bin_sim h
abbrev KO := KK (Option Int)
def JO (X : Cx) (W : WX) (e : Option Expr) (t : KO) : Prop := PO X e (upG W t)
theorem po_mono {X : Cx} {e : Option Expr} {t t' : TO} (h : PO X e t) (i : ∀ σ H Q, t' σ H Q → t σ H Q) : PO X e t' := ⟨fun pins s σ H Q I q => h.run pins s σ H Q I (i σ H Q q)⟩
def kNoP : KO := fun _ G M R _ => R none G M
def asI (R : Option Int → Hp → Mem → Prop) : KR := fun v G M => match v with
  | .int i => R (some i) G M
  | _ => False
def kPart (t : KE) : KO := fun σ G M R E => t σ G M (asI R) E
theorem jo_none : JO X W none kNoP := po_mono po_none fun σ H Q ⟨G, M, R, E, hv, h, hR, _⟩ => hR _ G M H hv h
theorem jo_some {t : KE} (h : JE X W e t) : JO X W (some e) (kPart t) := po_mono (po_some h) fun σ H Q ⟨G, M, R, E, hv, h, hR, hE⟩ => ⟨G, M, _, E, hv, h, fun v G1 M1 H1 hv1 h1 => by
    cases v <;> first
      | exact ⟨_, rfl, hR _ G1 M1 H1 hv1 h1⟩
      | exact h1.elim, hE⟩
/-- xs[lo:hi] of a list -/
def kSl (K : PySem.W.Frag) (t : KE) (tl th : KO) : KE := fun σ G M R E => t σ G M (fun x G M => tl σ G M (fun l G M => th σ G M (fun u G M => match x with
  | .ref a => ∃ xs, LstAt K G M a xs ∧ ∀ p, Fr G M p → R (.ref p) G ((p, .lst (cutV xs l u)) :: M)
  | _ => False) E) E) E
theorem je_slice {t : KE} {lo hi : Option Expr} {tl th : KO} {p2 : Pos} (he : JE X W e t) (hl : JO X W lo tl) (hu : JO X W hi th) : JE X W (.Subscript e (.Slice lo hi none p2) pos) (kSl X.K t tl th) :=
  pe_mono (pe_slice sl_list he hl hu) fun σ H Q ⟨G, M, R, E, hv, h, hR, hE⟩ => ⟨G, M, _, E, hv, h, fun x G1 M1 H1 hv1 h1 => ⟨G1, M1, _, E, hv1, h1, fun l G2 M2 H2 hv2 h2 => ⟨G2, M2, _, E, hv2, h2, fun u G3 M3 H3 hv3 h3 => by
    cases x <;> first
      | (obtain ⟨xs, q1, q2⟩ := h3
         exact ⟨_, xs, rfl, hv3.lst q1, fun p hp => hR _ G3 _ _ (hv3.newM hp) (q2 p (hv3.fr hp))⟩)
      | exact h3.elim, hE⟩, hE⟩, hE⟩
/-! ### calls of built-ins -/
abbrev KC := List V → Hp → Mem → KR → Prop
def rUpC (k : KC) : List V → Hp → VK → Prop := fun vs H Q => ∃ G M R, Hv G M H ∧ k vs G M R ∧ ∀ v G' M' H', Hv G' M' H' → R v G' M' → Q v H'
def kCB (k : KC) (t : KA) : KE := fun σ G M R E => t σ G M (fun vs G M => k vs G M R) E
def KCall (X : Cx) (f : Value) (k : KC) : Prop := CallR X f (rUpC k)
theorem kcall_of {f : Value} {r : List V → Hp → VK → Prop} {k : KC} (h : CallR X f r)
    (s : ∀ vs G M R H Q, Hv G M H → k vs G M R → (∀ v G' M' H', Hv G' M' H' → R v G' M' → Q v H') → r vs H Q) : KCall X f k :=
  fun pins st σ H xs us Q I rv ⟨G, M, R, hv, hk, hR⟩ => h pins st σ H xs us Q I rv (s xs G M R H Q hv hk hR)
theorem cb_sim {t : KA} {k : KC} {σ : St} {H : Hp} {Q : VK} (h : upG W (kCB k t) σ H Q) : tCB (rUpC k) (upG W t) σ H Q := by
  obtain ⟨G, M, R, E, hv, h, hR, hE⟩ := h
  exact ⟨G, M, _, E, hv, h, fun vs G1 M1 H1 hv1 h1 => ⟨G1, M1, R, hv1, h1, hR⟩, hE⟩
variable {x : Str} {p : Pos} {id T : String}
theorem je_callB {k : KC} {t : KA} (hc : KCall X (.builtin id) k) (hm : X.mg x = none) (ha : JA X W (e :: es) t) (hv : bootBuiltins x = some (.builtin id) := by decide +kernel) (hg : Gl X x := by rfl) (hn : x ≠ "__name__" := by decide) (hdb : (x == ("__debug__" : Str)) = false := by decide)
    (he : starEach (e :: es) X.env = (false, eval e X.env) :: starEach es X.env := by rfl) (hpl : (backTo pos (starEach es X.env)).any (·.1) = false := by rfl) : JE X W (.Call (.Name x p) (e :: es) [] pos) (kCB k t) :=
  pe_mono (pe_callB hc hg hm hv ha hn hdb he hpl) fun _ _ _ h => cb_sim h
theorem je_callTy {k : KC} {t : KA} (hc : KCall X (.type T) k) (hm : X.mg x = none) (ha : JA X W (e :: es) t) (hv : bootBuiltins x = some (.type T) := by decide +kernel) (hg : Gl X x := by rfl) (hn : x ≠ "__name__" := by decide) (hdb : (x == ("__debug__" : Str)) = false := by decide)
    (he : starEach (e :: es) X.env = (false, eval e X.env) :: starEach es X.env := by rfl) (hpl : (backTo pos (starEach es X.env)).any (·.1) = false := by rfl) : JE X W (.Call (.Name x p) (e :: es) [] pos) (kCB k t) :=
  pe_mono (pe_callTy hc hg hm hv ha hn hdb he hpl) fun _ _ _ h => cb_sim h
/-- a built-in type's name as a value -/
theorem je_ty {T : String} {x : Str} {pos : Pos} (hm : X.mg x = none) (hv : bootBuiltins x = some (.type T) := by decide +kernel) (hg : Gl X x := by rfl) (hn : x ≠ "__name__" := by decide) (hd : (x == ("__debug__" : Str)) = false := by decide) : JE X W (.Name x pos) (kC (.ty T)) :=
  je_c (pe_bltn hg hm hv rfl hn hd)
/-- a module's constant -/
theorem je_glob {x : Str} {v : V} {u : Value} {pos : Pos} (hm : X.mg x = some u) (r : RelV v u) (hg : Gl X x := by rfl) (hd : (x == ("__debug__" : Str)) = false := by decide) : JE X W (.Name x pos) (kC v) := je_c (pe_glob hg hm r hd)
def kLen (K : PySem.W.Frag) : KC := fun vs G M R => match vs with
  | [.ref a] => ∃ xs, SeqAt' K G M a xs ∧ R (.int xs.length) G M
  | _ => False
theorem kc_len : KCall X (.builtin "len") (kLen X.K) := kcall_of call_len_seq fun vs G M R H Q hv h hR => by
  match vs, h with
  | [.ref a], ⟨xs, h1, h2⟩ => exact ⟨a, xs, rfl, h1.elim (fun q => .inl (hv.lst q)) (fun q => .inr (hv.tup q)), hR _ G M H hv h2⟩
def kList (K : PySem.W.Frag) : KC := fun vs G M R => match vs with
  | [.ref a] => ∃ xs, SeqAt' K G M a xs ∧ ∀ p, Fr G M p → R (.ref p) G ((p, .lst xs) :: M)
  | _ => False
theorem kc_list : KCall X (.type "list") (kList X.K) := kcall_of call_list_of fun vs G M R H Q hv h hR => by
  match vs, h with
  | [.ref a], ⟨xs, h1, h2⟩ => exact ⟨a, xs, rfl, h1.elim (fun q => .inl (hv.lst q)) (fun q => .inr (hv.tup q)), fun p hp => hR _ G _ _ (hv.newM hp) (h2 p (hv.fr hp))⟩
def kMin2 : KC := fun vs G M R => match vs with
  | [.int i, .int j] => R (.int (min i j)) G M
  | _ => False
def kMax2 : KC := fun vs G M R => match vs with
  | [.int i, .int j] => R (.int (max i j)) G M
  | _ => False
theorem kc_min2 (hc : X.calm = true := by rfl) : KCall X (.builtin "min") kMin2 := kcall_of (call_min2 hc) fun vs G M R H Q hv h hR => by
  match vs, h with
  | [.int i, .int j], h =>
    refine ⟨i, j, rfl, ?_⟩
    have e : (if j < i then j else i) = min i j := by split <;> omega
    rw [e]
    exact hR _ G M H hv h
theorem kc_max2 (hc : X.calm = true := by rfl) : KCall X (.builtin "max") kMax2 := kcall_of (call_max2 hc) fun vs G M R H Q hv h hR => by
  match vs, h with
  | [.int i, .int j], h =>
    refine ⟨i, j, rfl, ?_⟩
    have e : (if j > i then j else i) = max i j := by split <;> omega
    rw [e]
    exact hR _ G M H hv h
def kInt : KC := fun vs G M R => match vs with
  | [.int i] => R (.int i) G M
  | [.bl k] => R (.int (if k then 1 else 0)) G M
  | _ => False
theorem kc_int : KCall X (.type "int") kInt := kcall_of call_int1 fun vs G M R H Q hv h hR => by
  match vs, h with
  | [.int i], h => exact .inl ⟨i, rfl, hR _ G M H hv h⟩
  | [.bl i], h => exact .inr ⟨i, rfl, hR _ G M H hv h⟩
/-- min(xs), max(xs) of ints -/
def kMinL (K : PySem.W.Frag) : KC := fun vs G M R => match vs with
  | [.ref a] => ∃ ns : List Int, LstAt K G M a (ns.map V.int) ∧ 0 < ns.length ∧ ∀ m, m ∈ ns → (∀ y, y ∈ ns → m ≤ y) → R (.int m) G M
  | _ => False
def kMaxL (K : PySem.W.Frag) : KC := fun vs G M R => match vs with
  | [.ref a] => ∃ ns : List Int, LstAt K G M a (ns.map V.int) ∧ 0 < ns.length ∧ ∀ m, m ∈ ns → (∀ y, y ∈ ns → y ≤ m) → R (.int m) G M
  | _ => False
theorem kc_minL (hc : X.calm = true := by rfl) : KCall X (.builtin "min") (kMinL X.K) := kcall_of (cr_min hc) fun vs G M R H Q hv h hR => by
  match vs, h with
  | [.ref a], ⟨ns, h1, h2, h3⟩ => exact ⟨a, ns, rfl, hv.lst h1, h2, fun m q1 q2 => hR _ G M H hv (h3 m q1 q2)⟩
theorem kc_maxL (hc : X.calm = true := by rfl) : KCall X (.builtin "max") (kMaxL X.K) := kcall_of (cr_max hc) fun vs G M R H Q hv h hR => by
  match vs, h with
  | [.ref a], ⟨ns, h1, h2, h3⟩ => exact ⟨a, ns, rfl, hv.lst h1, h2, fun m q1 q2 => hR _ G M H hv (h3 m q1 q2)⟩
def kAll (K : PySem.W.Frag) : KC := fun vs G M R => match vs with
  | [.ref a] => ∃ bs : List Bool, LstAt K G M a (bs.map V.bl) ∧ R (.bl (bs.all _root_.id)) G M
  | _ => False
theorem kc_all (hc : X.calm = true := by rfl) : KCall X (.builtin "all") (kAll X.K) := kcall_of (cr_all hc) fun vs G M R H Q hv h hR => by
  match vs, h with
  | [.ref a], ⟨ns, h1, h2⟩ => exact ⟨a, ns, rfl, hv.lst h1, hR _ G M H hv h2⟩
def kSum (K : PySem.W.Frag) : KC := fun vs G M R => match vs with
  | [.ref a] => ∃ ns : List Int, LstAt K G M a (ns.map V.int) ∧ R (.int ns.sum) G M
  | _ => False
theorem kc_sum (hc : X.calm = true := by rfl) : KCall X (.builtin "sum") (kSum X.K) := kcall_of (cr_sum hc) fun vs G M R H Q hv h hR => by
  match vs, h with
  | [.ref a], ⟨ns, h1, h2⟩ => exact ⟨a, ns, rfl, hv.lst h1, hR _ G M H hv h2⟩
/-- isinstance(x, c) -/
def kIsi (K : PySem.W.Frag) : KC := fun vs G M R => match vs with
  | [x, c] => ∃ (t u : Value) (b : Bool), ClsV c u ∧ (∀ H, Hv G M H → TyX K H x t) ∧ PySem.W.kitOne K t u = some b ∧ R (.bl b) G M
  | _ => False
theorem kc_isi : KCall X (.builtin "isinstance") (kIsi X.K) := kcall_of call_isi fun vs G M R H Q hv h hR => by
  match vs, h with
  | [x, c], ⟨t, u, b, h1, h2, h3, h4⟩ => exact ⟨x, c, t, u, b, rfl, h1, h2 H hv, h3, hR _ G M H hv h4⟩
/-! ### methods of built-in types -/
abbrev KM := V → List V → Hp → Mem → KR → Prop
def rUpM (k : KM) : V → List V → Hp → VK → Prop := fun x vs H Q => ∃ G M R, Hv G M H ∧ k x vs G M R ∧ ∀ v G' M' H', Hv G' M' H' → R v G' M' → Q v H'
def KMt (X : Cx) (id : String) (k : KM) : Prop := MtR X id (rUpM k)
theorem kmt_of {r : V → List V → Hp → VK → Prop} {k : KM} (h : MtR X id r)
    (s : ∀ x vs G M R H Q, Hv G M H → k x vs G M R → (∀ v G' M' H', Hv G' M' H' → R v G' M' → Q v H') → r x vs H Q) : KMt X id k :=
  fun pins st σ H x xs v us Q I rx rv ⟨G, M, R, hv, hk, hR⟩ => h pins st σ H x xs v us Q I rx rv (s x xs G M R H Q hv hk hR)
def kBM (K : PySem.W.Frag) (T : String) (k : KM) (to : KE) (t : KA) : KE := fun σ G M R E => to σ G M (fun x G M => (∀ H, Hv G M H → tyV K T x H) ∧ t σ G M (fun vs G M => k x vs G M R) E) E
def kBM0 (K : PySem.W.Frag) (T : String) (k : KM) (to : KE) : KE := fun σ G M R E => to σ G M (fun x G M => (∀ H, Hv G M H → tyV K T x H) ∧ k x [] G M R) E
variable {o : Expr} {name : Str} {apos cpos : Pos}
theorem je_bm {k : KM} {to : KE} {t : KA} (pa : PlainAttrs T) (slot : Slot T name id) (hty : typeOf (.builtin id) = pure (.type "method_descriptor")) (hm : KMt X id k) (ho : JE X W o to) (ha : JA X W (e :: es) t)
    (hbase : attributeBase o name X.env (eval o X.env) = eval o X.env := by rfl)
    (hfew : ((backTo cpos (starEach (e :: es) X.env)).all (fun x => !x.1) && (backToKw cpos (keywordEach [] X.env)).all (fun x => x.1.isSome)
      && decide ((e :: es).length + ([] : List Keyword).length + (if ([] : List Keyword).isEmpty then 0 else 1) < 30)) = true := by rfl)
    (hline : (apos.endLine == cpos.line) = true := by rfl) (hs : starEach (e :: es) X.env = (false, eval e X.env) :: starEach es X.env := by rfl) (hplain : (backTo cpos (starEach es X.env)).any (·.1) = false := by rfl) :
    JE X W (.Call (.Attribute o name apos) (e :: es) [] cpos) (kBM X.K T k to t) :=
  pe_mono (pe_bm pa slot hty hm ho ha hbase hfew hline hs hplain) fun σ H Q ⟨G, M, R, E, hv, h, hR, hE⟩ => ⟨G, M, _, E, hv, h, fun x G1 M1 H1 hv1 h1 => ⟨h1.1 H1 hv1, G1, M1, _, E, hv1, h1.2, fun vs G2 M2 H2 hv2 h2 => ⟨G2, M2, R, hv2, h2, hR⟩, hE⟩, hE⟩
theorem je_bm0 {k : KM} {to : KE} (pa : PlainAttrs T) (slot : Slot T name id) (hty : typeOf (.builtin id) = pure (.type "method_descriptor")) (hm : KMt X id k) (ho : JE X W o to)
    (hbase : attributeBase o name X.env (eval o X.env) = eval o X.env := by rfl) (hline : (apos.endLine == cpos.line) = true := by rfl) : JE X W (.Call (.Attribute o name apos) [] [] cpos) (kBM0 X.K T k to) :=
  pe_mono (pe_bm0 pa slot hty hm ho hbase hline) fun σ H Q ⟨G, M, R, E, hv, h, hR, hE⟩ => ⟨G, M, _, E, hv, h, fun x G1 M1 H1 hv1 h1 => ⟨h1.1 H1 hv1, G1, M1, R, hv1, h1.2, hR⟩, hE⟩
def kAppend : KM := fun x vs G M R => match x, vs with
  | .ref a, [y] => ∃ n xs, M[n]? = some (a, .lst xs) ∧ xs.length < sizeLine ∧ R .non G (M.set n (a, .lst (xs ++ [y])))
  | _, _ => False
theorem km_append : KMt X "list.append" kAppend := kmt_of mt_append fun x vs G M R H Q hv h hR => by
  match x, vs, h with
  | .ref a, [y], ⟨n, xs, h1, h2, h3⟩ => exact ⟨a, xs, y, rfl, rfl, hv.get h1, h2, hR _ G _ _ (hv.set h1) h3⟩
def kExtend : KM := fun x vs G M R => match x, vs with
  | .ref a, [.ref b] => ∃ n xs ys, M[n]? = some (a, .lst xs) ∧ At G M b (.lst ys) ∧ xs.length + ys.length ≤ sizeLine ∧ R .non G (M.set n (a, .lst (xs ++ ys)))
  | _, _ => False
theorem km_extend : KMt X "list.extend" kExtend := kmt_of mt_extend fun x vs G M R H Q hv h hR => by
  match x, vs, h with
  | .ref a, [.ref b], ⟨n, xs, ys, h1, h2, h3, h4⟩ => exact ⟨a, b, xs, ys, rfl, rfl, hv.get h1, hv.at h2, h3, hR _ G _ _ (hv.set h1) h4⟩
def kReverse : KM := fun x vs G M R => match x, vs with
  | .ref a, [] => ∃ n xs, M[n]? = some (a, .lst xs) ∧ R .non G (M.set n (a, .lst xs.reverse))
  | _, _ => False
theorem km_reverse : KMt X "list.reverse" kReverse := kmt_of mt_reverse fun x vs G M R H Q hv h hR => by
  match x, vs, h with
  | .ref a, [], ⟨n, xs, h1, h3⟩ => exact ⟨a, xs, rfl, rfl, hv.get h1, hR _ G _ _ (hv.set h1) h3⟩
end
/-! ### defs -/
abbrev KSp := List V → Hp → Mem → KR → KX → Prop
def lift (S : KSp) : Sp := fun vs H Q E => ∃ G M R X, Hv G M H ∧ S vs G M R X ∧ (∀ v G' M' H', Hv G' M' H' → R v G' M' → Q v H') ∧ (∀ c d G' M' H', Hv G' M' H' → X c d G' M' → E c d H')
def kCall (S : KSp) (t : KA) : KE := fun σ G M R E => t σ G M (fun vs G M => S vs G M R E) E
section
variable {X : Cx} {W : WX} {pos p : Pos} {e : Expr} {es : List Expr} {x : Str} {k : Nat} {f : Addr} {fd : FuncData} {ps : List Str} {S : KSp} {t : KA}
theorem je_call (F : FnOk X.prog X.w X.K X.mg X.base (L2.CX X.prog X.w) k f fd ps (lift S)) (hr : Room k X.A) (tk : Takes X W) (hm : X.mg x = some (.ref f)) (hk : PySem.W.keepIn X.K (.ref f) = true) (hb : Binds X.K fd ps []) (ha : JA X W (e :: es) t) (hg : Gl X x := by rfl)
    (hdb : (x == ("__debug__" : Str)) = false := by decide) (he : starEach (e :: es) X.env = (false, eval e X.env) :: starEach es X.env := by rfl) (hpl : (backTo pos (starEach es X.env)).any (·.1) = false := by rfl) :
    JE X W (.Call (.Name x p) (e :: es) [] pos) (kCall S t) :=
  pe_mono (pe_callS F hr hg hm hk hb (passAt tk) ha hdb he hpl) fun σ H Q ⟨G, M, R, E, hv, h, hR, hE⟩ =>
    ⟨G, M, _, E, hv, h, fun vs G1 M1 H1 hv1 h1 => ⟨G1, M1, R, E, hv1, h1, hR, hE⟩, hE⟩
end
end BT
set_option Elab.async false
set_option linter.all false
set_option maxRecDepth 100000
set_option maxHeartbeats 4000000
namespace BT
open PySem PySem.Spec L2
open PyProof.Rows hiding St
/-! ### statements -/
structure Kd where
  nx : St → Hp → Mem → Prop
  rt : KR
  bk : St → Hp → Mem → Prop := fun _ _ _ => False
  ct : St → Hp → Mem → Prop := fun _ _ _ => False
  xc : Value → Option Addr → St → Hp → Mem → Prop := fun _ _ _ _ _ => False
abbrev KS := Kd → St → Hp → Mem → Prop
structure EndsTo (W : WX) (d : Kd) (D : Ends) : Prop where
  nx : ∀ σ G M H, Hv G M H → d.nx σ G M → D.nx σ H
  rt : ∀ v G M H, Hv G M H → d.rt v G M → D.rt v H
  bk : ∀ σ G M H, Hv G M H → d.bk σ G M → D.bk σ H
  ct : ∀ σ G M H, Hv G M H → d.ct σ G M → D.ct σ H
  xc : ∀ c a σ G M H, Hv G M H → d.xc c a σ G M → W c a σ H
def upS (W : WX) (t : KS) : TS := fun D σ H => ∃ G M d, Hv G M H ∧ t d σ G M ∧ EndsTo W d D
def JS (X : Cx) (W : WX) (s : Stmt) (t : KS) : Prop := PS X s (upS W t)
def JSs (X : Cx) (W : WX) (s : List Stmt) (t : KS) : Prop := PSs X s (upS W t)
theorem ps_mono {X : Cx} {s : Stmt} {t t' : TS} (h : PS X s t) (i : ∀ D σ H, t' D σ H → t D σ H) : PS X s t' := ⟨fun pins st σ H D I q => h.run pins st σ H D I (i D σ H q)⟩
theorem pss_mono {X : Cx} {s : List Stmt} {t t' : TS} (h : PSs X s t) (i : ∀ D σ H, t' D σ H → t D σ H) : PSs X s t' := ⟨fun pins st σ H D I q => h.run pins st σ H D I (i D σ H q)⟩
def Kd.x (d : Kd) (σ : St) : KX := fun c a G M => d.xc c a σ G M
section
variable {X : Cx} {W : WX} {pos : Pos} {s : Stmt} {ss : List Stmt} {e : Expr} {t u : KS}
def kNext : KS := fun D σ G M => D.nx σ G M
def kSeq (t u : KS) : KS := fun D σ G M => ∃ G' M', Wk G M G' M' ∧ t { D with nx := u D } σ G' M'
def kNever : KS := fun _ _ _ _ => False
theorem jss_nil : JSs X W [] kNext := pss_mono pss_nil fun D σ H ⟨G, M, d, hv, h, en⟩ => en.nx σ G M H hv h
theorem jss_cons (h1 : JS X W s t) (h2 : JSs X W ss u) : JSs X W (s :: ss) (kSeq t u) := pss_mono (pss_cons h1 h2) fun D σ H ⟨G, M, d, hv, ⟨G', M', wk, h⟩, en⟩ =>
  ⟨G', M', _, wk H hv, h, ⟨fun σ' G2 M2 H2 hv2 q => ⟨G2, M2, d, hv2, q, en⟩, en.rt, en.bk, en.ct, en.xc⟩⟩
theorem js_never : JS X W s kNever := ps_mono ps_never fun D σ H ⟨G, M, d, hv, h, en⟩ => h
theorem js_pass : JS X W (.Pass pos) kNext := ps_mono ps_pass fun D σ H ⟨G, M, d, hv, h, en⟩ => en.nx σ G M H hv h
def kSet (i : Nat) (t : KE) : KS := fun D σ G M => t σ G M (fun v G M => D.nx (σ.set i (some v)) G M) (D.x σ)
theorem js_set {i : Nat} {x : Str} {t : KE} {pos' : Pos} (he : JE X W e t) (hN : X.N.Nodup) (hi : X.N[i]? = some x := by rfl) (hx : Loc X.env.scope x := by first | exact Or.inl rfl | exact Or.inr rfl)
    (hs : swapsWith e (some (.Name x pos')) pos.line X.env = pure false := by rfl) (hf : X.fn x = true ∨ X.env.scope.names.lookup x = some .local := by first | exact .inl rfl | exact .inr rfl | assumption) :
    JS X W (.Assign [.Name x pos'] e pos) (kSet i t) := ps_mono (ps_set hN hi hx he hs hf) fun D σ H ⟨G, M, d, hv, h, en⟩ =>
  ⟨G, M, _, _, hv, h, fun v G' M' H' hv' q => en.nx _ G' M' H' hv' q, fun c a G' M' H' hv' q => en.xc c a σ G' M' H' hv' q⟩
def kExpr (t : KE) : KS := fun D σ G M => t σ G M (fun _ G M => D.nx σ G M) (D.x σ)
theorem js_expr {t : KE} (he : JE X W e t) (hs : swapsWith e none pos.line X.env = pure false := by rfl) : JS X W (.Expr e pos) (kExpr t) := ps_mono (ps_expr he hs) fun D σ H ⟨G, M, d, hv, h, en⟩ =>
  ⟨G, M, _, _, hv, h, fun v G' M' H' hv' q => en.nx _ G' M' H' hv' q, fun c a G' M' H' hv' q => en.xc c a σ G' M' H' hv' q⟩
def kRet (t : KE) : KS := fun D σ G M => t σ G M D.rt (D.x σ)
theorem js_ret {t : KE} (he : JE X W e t) : JS X W (.Return (some e) pos) (kRet t) := ps_mono (ps_ret he) fun D σ H ⟨G, M, d, hv, h, en⟩ =>
  ⟨G, M, _, _, hv, h, fun v G' M' H' hv' q => en.rt _ G' M' H' hv' q, fun c a G' M' H' hv' q => en.xc c a σ G' M' H' hv' q⟩
def kRetN : KS := fun D σ G M => D.rt .non G M
theorem js_retN : JS X W (.Return none pos) kRetN := ps_mono ps_retN fun D σ H ⟨G, M, d, hv, h, en⟩ => en.rt _ G M H hv h
def kIf (c : KT) (t u : KS) : KS := fun D σ G M => c σ G M (fun b G M => if b = true then t D σ G M else u D σ G M) (D.x σ)
theorem js_if {c : Expr} {a b : List Stmt} {tc : KT} (hc : JT X W c tc) (ha : JSs X W a t) (hb : JSs X W b u) : JS X W (.If c a b pos) (kIf tc t u) := ps_mono (ps_if hc ha hb) fun D σ H ⟨G, M, d, hv, h, en⟩ =>
  ⟨G, M, _, _, hv, h, fun v G' M' H' hv' q => by
    cases v with
    | true => rw [if_pos rfl] at q ⊢; exact ⟨G', M', d, hv', q, en⟩
    | false => rw [if_neg Bool.false_ne_true] at q ⊢; exact ⟨G', M', d, hv', q, en⟩, fun c a G' M' H' hv' q => en.xc c a σ G' M' H' hv' q⟩
/-! ### targets -/
structure KG where
  val : V → St → Hp → Mem → (St → Hp → Mem → Prop) → Prop
  tup : List V → St → Hp → Mem → (St → Hp → Mem → Prop) → Prop
structure JG (X : Cx) (tg : Expr) (g : KG) (gr : TG) : Prop where
  pg : PG X tg gr
  val : ∀ v σ G M R H Q, Hv G M H → g.val v σ G M R → (∀ σ' G' M' H', Hv G' M' H' → R σ' G' M' → Q σ' H') → gr v σ H Q
  tup : ∀ T vs σ G M R H Q, Hv G M H → H T = none → g.tup vs σ G M R → (∀ σ' G' M' H', Hv G' M' H' → R σ' G' M' → Q σ' H') → gr (.ref T) σ (upd H T (.tup vs)) Q
def kgName (i : Nat) : KG := ⟨fun v σ G M R => R (σ.set i (some v)) G M, fun vs σ G M R => ∀ T, Fr G M T → R (σ.set i (some (.ref T))) (upd G T (.tup vs)) M⟩
theorem jg_name {i : Nat} {x : Str} (hN : X.N.Nodup) (hi : X.N[i]? = some x := by rfl) (hx : Loc X.env.scope x := by first | exact Or.inl rfl | exact Or.inr rfl) (hf : X.fn x = true ∨ X.env.scope.names.lookup x = some .local := by first | exact .inl rfl | exact .inr rfl | assumption) : JG X (.Name x pos) (kgName i) (gName i) :=
  ⟨pg_name hN hi hx hf, fun v σ G M R H Q hv h hR => hR _ G M H hv h, fun T vs σ G M R H Q hv hT h hR => hR _ _ M _ (hv.newG hT) (h T (hv.fr hT))⟩
/-- several targets at once -/
abbrev KGs := List V → St → Hp → Mem → (St → Hp → Mem → Prop) → Prop
def kgsNil : KGs := fun vs σ G M R => match vs with
  | [] => R σ G M
  | _ => False
def kgsCons (g : KG) (r : KGs) : KGs := fun vs σ G M R => match vs with
  | v :: vs => g.val v σ G M (fun σ G M => r vs σ G M R)
  | [] => False
structure JGs (X : Cx) (ts : List Expr) (g : KGs) (gr : TGs) : Prop where
  pgs : PGs X ts gr
  sim : ∀ vs σ G M R H Q, Hv G M H → g vs σ G M R → (∀ σ' G' M' H', Hv G' M' H' → R σ' G' M' → Q σ' H') → gr vs σ H Q
theorem jgs_nil : JGs X [] kgsNil gNil := ⟨pgs_nil, fun vs σ G M R H Q hv h hR => by
  match vs, h with
  | [], h => exact ⟨rfl, hR _ G M H hv h⟩⟩
theorem jgs_cons {tg : Expr} {ts : List Expr} {g : KG} {r : KGs} {gr : TG} {gs : TGs} (h1 : JG X tg g gr) (hr : JGs X ts r gs)
    (hs : (assignEach (tg :: ts) X.env).map (·.2) = assign tg X.env :: (assignEach ts X.env).map (·.2) := by rfl) : JGs X (tg :: ts) (kgsCons g r) (gCons gr gs) :=
  ⟨pgs_cons h1.pg hr.pgs hs, fun vs σ G M R H Q hv h hR => by
    match vs, h with
    | v :: vs, h => exact ⟨v, vs, rfl, h1.val v σ G M _ H _ hv h fun σ' G' M' H' hv' q => hr.sim vs σ' G' M' R H' Q hv' q hR⟩⟩
def onLen (n : Nat) (g : KGs) : KGs := fun vs σ G M R => match vs.length == n with
  | true => g vs σ G M R
  | false => False
theorem onLen_of {n : Nat} {g : KGs} {vs : List V} {σ : St} {G : Hp} {M : Mem} {R : St → Hp → Mem → Prop} (h : onLen n g vs σ G M R) : vs.length = n ∧ g vs σ G M R := by
  unfold onLen at h
  split at h
  · rename_i e; exact ⟨beq_iff_eq.mp e, h⟩
  · exact h.elim
def kgTup (K : PySem.W.Frag) (n : Nat) (g : KGs) : KG := ⟨fun v σ G M R => match v with
    | .ref a => ∃ xs, SqT K G a xs ∧ onLen n g xs σ G M R
    | _ => False, onLen n g⟩
theorem jg_tup {K : PySem.W.Frag} {ts : List Expr} {g : KGs} {gs : TGs} {n k : Nat} (hc : X.calm = true) (h : JGs X ts g gs) (hK : X.K = K := by rfl) (hn : (assignEach ts X.env).length = n := by rfl) (hst : (assignEach ts X.env).findIdx? (·.1) = none := by rfl) :
    JG X (.Tuple ts k pos) (kgTup K n g) (gTup K n gs) := by
  subst hK
  exact ⟨pg_tup hc h.pgs hn hst, fun v σ G M R H Q hv q hR => by
    match v, q with
    | .ref a, ⟨xs, q1, q2⟩ =>
      obtain ⟨e, q3⟩ := onLen_of q2
      exact ⟨a, xs, rfl, hv.tup q1, e, h.sim xs σ G M R H Q hv q3 hR⟩,
   fun T vs σ G M R H Q hv hT q hR => by
    obtain ⟨e, q3⟩ := onLen_of q
    exact ⟨T, vs, rfl, .inl (.inl upd_same), e, h.sim vs σ G M R _ Q (hv.junk hT) q3 hR⟩⟩
/-- nothing is raised -/
def W0 : WX := fun _ _ _ _ => False
/-- a place of a list as a target -/
def setL (o i v : V) (G : Hp) (M : Mem) (R : Hp → Mem → Prop) : Prop := match o, i with
  | .ref a, .int k => ∃ n xs j, M[n]? = some (a, .lst xs) ∧ ixN xs.length k = some j ∧ R G (M.set n (a, .lst (xs.set j v)))
  | _, _ => False
def kgIx (to ti : KE) : KG := ⟨fun v σ G M R => to σ G M (fun o G M => ti σ G M (fun i G M => setL o i v G M (fun G M => R σ G M)) (fun _ _ _ _ => False)) (fun _ _ _ _ => False), fun _ _ _ _ _ => False⟩
theorem jg_ix {o i : Expr} {to ti : KE} (ho : JE X W0 o to) (hi : JE X W0 i ti)
    (ha : ∀ v, assign (.Subscript o i pos) X.env v = (do
      let ov ← holding [v] (eval o X.env)
      let iv ← holding [v, ov] (eval i X.env)
      standAt pos
      holding [v, ov, iv] (setItem ov iv v)
      release [v, ov, iv] []) := by intro _; rfl) : JG X (.Subscript o i pos) (kgIx to ti) (gSub (upG W0 to) (upG W0 ti) rSetL) :=
  ⟨pg_sub ho hi set_list ha, fun v σ G M R H Q hv q hR => ⟨G, M, _, _, hv, q, fun ov G2 M2 H2 hv2 q2 => ⟨G2, M2, _, _, hv2, q2, fun iv G3 M3 H3 hv3 q3 => by
    match ov, iv, q3 with
    | .ref a, .int k, ⟨n, xs, j, e1, e2, q⟩ => exact ⟨a, xs, k, j, rfl, rfl, hv3.get e1, e2, hR σ G3 _ _ (hv3.set e1) q⟩, fun _ _ _ _ _ _ z => z.elim⟩, fun _ _ _ _ _ _ z => z.elim⟩,
   fun _ _ _ _ _ _ _ _ _ _ z => z.elim⟩
/-- a target of an assignment -/
def kAsg (t : KE) (g : KG) : KS := fun D σ G M => t σ G M (fun v G M => g.val v σ G M D.nx) (D.x σ)
theorem js_asg {tg : Expr} {t : KE} {g : KG} {gr : TG} (he : JE X W e t) (hg : JG X tg g gr) (hs : swapsWithSole [tg] e pos.line X.env = pure false := by rfl) (hw : swappedStores [tg] e X.env = pure none := by rfl)
    (h1 : (assignEach [tg] X.env).map (·.2) = [assign tg X.env] := by rfl) : JS X W (.Assign [tg] e pos) (kAsg t g) := ps_mono (ps_asg he hg.pg hs hw h1) fun D σ H ⟨G, M, d, hv, h, en⟩ =>
  ⟨G, M, _, _, hv, h, fun v G' M' H' hv' q => hg.val v σ G' M' _ H' _ hv' q fun σ' G2 M2 H2 hv2 q2 => en.nx _ G2 M2 H2 hv2 q2, fun c a G' M' H' hv' q => en.xc c a σ G' M' H' hv' q⟩
end
end BT
set_option Elab.async false
set_option linter.all false
set_option maxRecDepth 100000
set_option maxHeartbeats 4000000
namespace BT
open PySem PySem.Spec L2
open PyProof.Rows hiding St
/-! ### what is walked -/
structure Src where
  n : Nat
  get : Nat → V ⊕ List V
  ok : Hp → Mem → Prop
abbrev KI := KK Src
/-- an iterator that gives what the source says -/
structure Goes (src : Src) (J : It) : Prop where
  go : ∀ i G M H, Hv G M H → src.ok G M → i < src.n → J.go i H
  stop : ∀ i G M H, Hv G M H → src.ok G M → src.n ≤ i → J.stop i H
  yld : ∀ i G M H x H', Hv G M H → src.ok G M → i < src.n → J.yld i H x H' → match src.get i with
    | .inl v => x = v ∧ H' = H
    | .inr vs => ∃ T, x = .ref T ∧ H T = none ∧ H' = upd H T (.tup vs)
def upI (W : WX) (t : KI) : TI := fun σ H Q => ∃ G M R E, Hv G M H ∧ t σ G M R E ∧ (∀ src G' M' H', Hv G' M' H' → R src G' M' → ∀ J, Goes src J → Q J H') ∧ (∀ c d G' M' H', Hv G' M' H' → E c d G' M' → W c d σ H')
def JI (X : Cx) (W : WX) (tg it : Expr) (t : KI) : Prop := PI X tg it (upI W t)
theorem pi_mono {X : Cx} {tg it : Expr} {t t' : TI} (h : PI X tg it t) (i : ∀ σ H Q, t' σ H Q → t σ H Q) : PI X tg it t' := ⟨fun pins s σ H Q I q => h.run pins s σ H Q I (i σ H Q q)⟩
def srcL (K : PySem.W.Frag) (a : Addr) (xs : List V) : Src := ⟨xs.length, fun i => .inl (xs.getD i .non), fun G M => LstAt K G M a xs⟩
def srcT (K : PySem.W.Frag) (a : Addr) (xs : List V) : Src := ⟨xs.length, fun i => .inl (xs.getD i .non), fun G M => SqT K G a xs⟩
def srcR (lo : Int) (n : Nat) : Src := ⟨n, fun i => .inl (.int (lo + i)), fun _ _ => True⟩
def srcC (lo c : Int) (n : Nat) : Src := ⟨n, fun i => .inl (.int (lo + (i : Nat) * c)), fun _ _ => True⟩
def srcE (K : PySem.W.Frag) (a : Addr) (xs : List V) : Src := ⟨xs.length, fun i => .inr [.int i, xs.getD i .non], fun G M => LstAt K G M a xs⟩
def srcZ (K : PySem.W.Frag) (a b : Addr) (xs ys : List V) : Src := ⟨min xs.length ys.length, fun i => .inr [xs.getD i .non, ys.getD i .non], fun G M => LstAt K G M a xs ∧ LstAt K G M b ys⟩
def srcV (K : PySem.W.Frag) (a : Addr) (xs : List V) : Src := ⟨xs.length, fun i => .inl (xs.getD (xs.length - 1 - i) .non), fun G M => LstAt K G M a xs⟩
theorem getD_of {xs : List V} {i : Nat} {x : V} (h : xs[i]? = some x) : xs.getD i .non = x := by
  rw [List.getD_eq_getElem?_getD, h]; rfl
theorem get_lt {xs : List V} {i : Nat} (h : i < xs.length) : xs[i]? = some (xs.getD i .non) := by
  rw [List.getD_eq_getElem?_getD, List.getElem?_eq_getElem h]; rfl
theorem goes_L {K : PySem.W.Frag} {a : Addr} {xs : List V} : Goes (srcL K a xs) (Itl K a) where
  go := fun i G M H hv ok hi => ⟨xs, _, hv.lst ok, get_lt hi⟩
  stop := fun i G M H hv ok hi => ⟨xs, hv.lst ok, hi⟩
  yld := fun i G M H x H' hv ok hi y => ⟨(getD_of (y.2 xs (hv.lst ok))).symm, y.1⟩
theorem goes_T {K : PySem.W.Frag} {a : Addr} {xs : List V} : Goes (srcT K a xs) (Itt K a) where
  go := fun i G M H hv ok hi => ⟨xs, _, hv.tup ok, get_lt hi⟩
  stop := fun i G M H hv ok hi => ⟨xs, hv.tup ok, hi⟩
  yld := fun i G M H x H' hv ok hi y => ⟨(getD_of (y.2 xs (hv.tup ok))).symm, y.1⟩
theorem goes_R {lo : Int} {n : Nat} : Goes (srcR lo n) (Itr lo n) where
  go := fun i G M H hv ok hi => hi
  stop := fun i G M H hv ok hi => hi
  yld := fun i G M H x H' hv ok hi y => ⟨y.2, y.1⟩
theorem goes_C {lo c : Int} {n : Nat} : Goes (srcC lo c n) (Itc lo c n) where
  go := fun i G M H hv ok hi => hi
  stop := fun i G M H hv ok hi => hi
  yld := fun i G M H x H' hv ok hi y => ⟨y.2, y.1⟩
theorem goes_E {K : PySem.W.Frag} {a : Addr} {xs : List V} : Goes (srcE K a xs) (Ite K a) where
  go := fun i G M H hv ok hi => ⟨xs, _, hv.lst ok, get_lt hi⟩
  stop := fun i G M H hv ok hi => ⟨xs, hv.lst ok, hi⟩
  yld := fun i G M H x H' hv ok hi y => by
    obtain ⟨T, z, e1, e2, e3, e4⟩ := y
    have e5 := getD_of (e4 xs (hv.lst ok))
    exact ⟨T, e1, e2, by rw [e3, ← e5]⟩
theorem goes_Z {K : PySem.W.Frag} {a b : Addr} {xs ys : List V} : Goes (srcZ K a b xs ys) (Itz K a b) where
  go := fun i G M H hv ok hi => ⟨xs, ys, _, _, hv.lst ok.1, hv.lst ok.2, get_lt (Nat.lt_of_lt_of_le hi (Nat.min_le_left _ _)), get_lt (Nat.lt_of_lt_of_le hi (Nat.min_le_right _ _))⟩
  stop := fun i G M H hv ok hi => ⟨xs, ys, hv.lst ok.1, hv.lst ok.2, by
    have hi : min xs.length ys.length ≤ i := hi
    omega⟩
  yld := fun i G M H x H' hv ok hi y => by
    obtain ⟨T, z, w, e1, e2, e3, e4, e5⟩ := y
    have e6 := getD_of (e4 xs (hv.lst ok.1))
    have e7 := getD_of (e5 ys (hv.lst ok.2))
    exact ⟨T, e1, e2, by rw [e3, ← e6, ← e7]⟩
theorem goes_V {K : PySem.W.Frag} {a : Addr} {xs : List V} : Goes (srcV K a xs) (Itv K a xs.length) where
  go := fun i G M H hv ok hi => ⟨hi, xs, _, hv.lst ok, get_lt (by have hi : i < xs.length := hi; omega)⟩
  stop := fun i G M H hv ok hi => hi
  yld := fun i G M H x H' hv ok hi y => ⟨(getD_of (y.2 xs (hv.lst ok))).symm, y.1⟩
section
variable {X : Cx} {W : WX} {pos p tpos : Pos} {e e2 a b c : Expr} {es : List Expr} {tg : Expr}
def kiSeq (K : PySem.W.Frag) (t : KE) : KI := fun σ G M R E => t σ G M (fun x G M => match x with
  | .ref a => ∃ xs, LstAt K G M a xs ∧ R (srcL K a xs) G M
  | _ => False) E
def kiTup (K : PySem.W.Frag) (t : KE) : KI := fun σ G M R E => t σ G M (fun x G M => match x with
  | .ref a => ∃ xs, SqT K G a xs ∧ R (srcT K a xs) G M
  | _ => False) E
theorem ji_list {t : KE} (h : JE X W e t) : JI X W tg e (kiSeq X.K t) := pi_mono (pi_list h) fun σ H Q ⟨G, M, R, E, hv, h, hR, hE⟩ => ⟨G, M, _, E, hv, h, fun x G1 M1 H1 hv1 q => by
    match x, q with
    | .ref a, ⟨xs, q1, q2⟩ => exact ⟨a, rfl, ⟨xs, hv1.lst q1⟩, hR _ G1 M1 H1 hv1 q2 _ goes_L⟩, hE⟩
theorem ji_tup {t : KE} (h : JE X W e t) : JI X W tg e (kiTup X.K t) := pi_mono (pi_tup h) fun σ H Q ⟨G, M, R, E, hv, h, hR, hE⟩ => ⟨G, M, _, E, hv, h, fun x G1 M1 H1 hv1 q => by
    match x, q with
    | .ref a, ⟨xs, q1, q2⟩ => exact ⟨a, rfl, ⟨xs, hv1.tup q1⟩, hR _ G1 M1 H1 hv1 q2 _ goes_T⟩, hE⟩
/-- range(n), range(a, b), range(a, b, c) -/
def kiR1 (t : KA) : KI := fun σ G M R E => t σ G M (fun vs G M => match vs with
  | [.int j] => (-(2 ^ 62) ≤ j ∧ j < 2 ^ 62) ∧ R (srcR 0 j.toNat) G M
  | _ => False) E
def kiR2 (t : KA) : KI := fun σ G M R E => t σ G M (fun vs G M => match vs with
  | [.int i, .int j] => (-(2 ^ 62) ≤ i ∧ i < 2 ^ 62 ∧ -(2 ^ 62) ≤ j ∧ j < 2 ^ 62) ∧ R (srcR i (j - i).toNat) G M
  | _ => False) E
def kiR3 (t : KA) : KI := fun σ G M R E => t σ G M (fun vs G M => match vs with
  | [.int i, .int j, .int c] => ∃ n, RgC i j c n ∧ R (srcC i c n) G M
  | _ => False) E
theorem ji_range1 {t : KA} (hm : X.mg "range" = none) (ha : JA X W [a] t) (hg : Gl X "range" := by rfl) (hs : starEach [a] X.env = [(false, eval a X.env)] := by rfl) : JI X W tg (.Call (.Name "range" p) [a] [] pos) (kiR1 t) :=
  pi_mono (pi_range1 hg hm ha hs) fun σ H Q ⟨G, M, R, E, hv, h, hR, hE⟩ => ⟨G, M, _, E, hv, h, fun vs G1 M1 H1 hv1 q => by
    match vs, q with
    | [.int j], ⟨⟨q1, q2⟩, q3⟩ => exact ⟨j, rfl, q1, q2, hR _ G1 M1 H1 hv1 q3 _ goes_R⟩, hE⟩
theorem ji_range2 {t : KA} (hm : X.mg "range" = none) (ha : JA X W [a, b] t) (hg : Gl X "range" := by rfl) (hs : starEach [a, b] X.env = [(false, eval a X.env), (false, eval b X.env)] := by rfl) (hs2 : starEach [b] X.env = [(false, eval b X.env)] := by rfl) : JI X W tg (.Call (.Name "range" p) [a, b] [] pos) (kiR2 t) :=
  pi_mono (pi_range2 hg hm ha hs hs2) fun σ H Q ⟨G, M, R, E, hv, h, hR, hE⟩ => ⟨G, M, _, E, hv, h, fun vs G1 M1 H1 hv1 q => by
    match vs, q with
    | [.int i, .int j], ⟨q1, q3⟩ => exact ⟨i, j, rfl, q1, hR _ G1 M1 H1 hv1 q3 _ goes_R⟩, hE⟩
theorem ji_range3 {t : KA} (hm : X.mg "range" = none) (ha : JA X W [a, b, c] t) (hg : Gl X "range" := by rfl) (hs : starEach [a, b, c] X.env = (false, eval a X.env) :: starEach [b, c] X.env := by rfl) (hpl : (backTo pos (starEach [b, c] X.env)).any (·.1) = false := by rfl) : JI X W tg (.Call (.Name "range" p) [a, b, c] [] pos) (kiR3 t) :=
  pi_mono (pi_range3 hg hm ha hs hpl) fun σ H Q ⟨G, M, R, E, hv, h, hR, hE⟩ => ⟨G, M, _, E, hv, h, fun vs G1 M1 H1 hv1 q => by
    match vs, q with
    | [.int i, .int j, .int c], ⟨n, q1, q3⟩ => exact ⟨i, j, c, n, rfl, q1, hR _ G1 M1 H1 hv1 q3 _ goes_C⟩, hE⟩
def kiEnum (K : PySem.W.Frag) (t : KA) : KI := fun σ G M R E => t σ G M (fun vs G M => match vs with
  | [.ref a] => ∃ xs, LstAt K G M a xs ∧ R (srcE K a xs) G M
  | _ => False) E
def kiRev (K : PySem.W.Frag) (t : KA) : KI := fun σ G M R E => t σ G M (fun vs G M => match vs with
  | [.ref a] => ∃ xs, LstAt K G M a xs ∧ R (srcV K a xs) G M
  | _ => False) E
def kiZip (K : PySem.W.Frag) (t : KA) : KI := fun σ G M R E => t σ G M (fun vs G M => match vs with
  | [.ref a, .ref b] => ∃ xs ys, LstAt K G M a xs ∧ LstAt K G M b ys ∧ R (srcZ K a b xs ys) G M
  | _ => False) E
variable {elts : List Expr} {kk : Nat}
theorem ji_enum {t : KA} (hm : X.mg "enumerate" = none) (ha : JA X W [e] t) (hg : Gl X "enumerate" := by rfl) (hs : starEach [e] X.env = [(false, eval e X.env)] := by rfl) : JI X W (.Tuple elts kk tpos) (.Call (.Name "enumerate" p) [e] [] pos) (kiEnum X.K t) :=
  pi_mono (pi_enum hg hm ha hs) fun σ H Q ⟨G, M, R, E, hv, h, hR, hE⟩ => ⟨G, M, _, E, hv, h, fun vs G1 M1 H1 hv1 q => by
    match vs, q with
    | [.ref a], ⟨xs, q1, q3⟩ => exact ⟨a, xs, rfl, hv1.lst q1, hR _ G1 M1 H1 hv1 q3 _ goes_E⟩, hE⟩
theorem ji_rev {t : KA} (hm : X.mg "reversed" = none) (ha : JA X W [e] t) (hg : Gl X "reversed" := by rfl) (hs : starEach [e] X.env = [(false, eval e X.env)] := by rfl) : JI X W tg (.Call (.Name "reversed" p) [e] [] pos) (kiRev X.K t) :=
  pi_mono (pi_reversed hg hm ha hs) fun σ H Q ⟨G, M, R, E, hv, h, hR, hE⟩ => ⟨G, M, _, E, hv, h, fun vs G1 M1 H1 hv1 q => by
    match vs, q with
    | [.ref a], ⟨xs, q1, q3⟩ => exact ⟨a, xs, rfl, hv1.lst q1, hR _ G1 M1 H1 hv1 q3 _ goes_V⟩, hE⟩
theorem ji_zip {t : KA} (hm : X.mg "zip" = none) (ha : JA X W [e, e2] t) (hg : Gl X "zip" := by rfl) (hs : starEach [e, e2] X.env = (false, eval e X.env) :: starEach [e2] X.env := by rfl) (hpl : (backTo pos (starEach [e2] X.env)).any (·.1) = false := by rfl) :
    JI X W (.Tuple elts kk tpos) (.Call (.Name "zip" p) [e, e2] [] pos) (kiZip X.K t) :=
  pi_mono (pi_zip hg hm ha hs hpl) fun σ H Q ⟨G, M, R, E, hv, h, hR, hE⟩ => ⟨G, M, _, E, hv, h, fun vs G1 M1 H1 hv1 q => by
    match vs, q with
    | [.ref a, .ref b], ⟨xs, ys, q1, q2, q3⟩ => exact ⟨a, b, xs, ys, rfl, hv1.lst q1, hv1.lst q2, hR _ G1 M1 H1 hv1 q3 _ goes_Z⟩, hE⟩
/-! ### for -/
def asg (g : KG) (w : V ⊕ List V) : St → Hp → Mem → (St → Hp → Mem → Prop) → Prop := match w with
  | .inl v => g.val v
  | .inr vs => g.tup vs
def wk1 (Pv : St → Hp → Mem → Prop) : St → Hp → Mem → Prop := fun σ G M => ∃ G' M', Wk G M G' M' ∧ Pv σ G' M'
def kFor (ti : KI) (g : KG) (tb : KS) : KS := fun D σ G M => ti σ G M (fun src G M => ∃ Pv : Nat → St → Hp → Mem → Prop, Pv 0 σ G M ∧ (∀ i σ G M, i ≤ src.n → Pv i σ G M → src.ok G M) ∧
  (∀ i σ G M, i < src.n → Pv i σ G M → asg g (src.get i) σ G M (fun σ G M => tb { D with nx := wk1 (Pv (i + 1)), ct := wk1 (Pv (i + 1)), bk := D.nx } σ G M)) ∧ (∀ σ G M, Pv src.n σ G M → D.nx σ G M)) (D.x σ)
theorem asg_sim {g : KG} {gr : TG} (hg : JG X tg g gr) {w : V ⊕ List V} {σ : St} {G : Hp} {M : Mem} {R : St → Hp → Mem → Prop} {H H' : Hp} {x : V} {Q : St → Hp → Prop} (hv : Hv G M H)
    (y : match w with | .inl v => x = v ∧ H' = H | .inr vs => ∃ T, x = .ref T ∧ H T = none ∧ H' = upd H T (.tup vs)) (h : asg g w σ G M R) (hR : ∀ σ' G' M' H', Hv G' M' H' → R σ' G' M' → Q σ' H') : gr x σ H' Q := by
  cases w with
  | inl v =>
    obtain ⟨rfl, rfl⟩ := y
    exact hg.val _ σ G M R _ Q hv h hR
  | inr vs =>
    obtain ⟨T, rfl, hT, rfl⟩ := y
    exact hg.tup T vs σ G M R H Q hv hT h hR
theorem js_for {it : Expr} {body : List Stmt} {ti : KI} {g : KG} {gr : TG} {tb : KS} (hp : PassesOwn (model X.prog X.w) X.A X.env X.xe) (hc : X.calm = true) (hi : JI X W tg it ti) (hg : JG X tg g gr) (hb : JSs X W body tb)
    (hs : ∀ x, foldedSetIterable it X.env x = pure x := by intro _; rfl) : JS X W (.For tg it body [] pos) (kFor ti g tb) := ps_mono (ps_for hp hc hi hg.pg hb hs) fun D σ H ⟨G, M, d, hv, h, en⟩ => by
  refine ⟨G, M, _, _, hv, h, fun src G1 M1 H1 hv1 q J go => ?_, fun c a G' M' H' hv' q => en.xc c a σ G' M' H' hv' q⟩
  obtain ⟨Pv, p0, pok, pst, pend⟩ := q
  refine ⟨fun i m σ H => m = src.n - i ∧ i ≤ src.n ∧ ∃ G M, Hv G M H ∧ Pv i σ G M, ⟨src.n, by simp, Nat.zero_le _, G1, M1, hv1, p0⟩, ?_⟩
  rintro i m σ2 H2 ⟨rfl, hi2, G2, M2, hv2, p2⟩
  have ok := pok i σ2 G2 M2 hi2 p2
  by_cases hlt : i < src.n
  · refine .inr ⟨go.go i G2 M2 H2 hv2 ok hlt, fun σ' H' => ∃ G M, Hv G M H' ∧ Pv (i + 1) σ' G M, fun σ' H' ⟨G3, M3, hv3, p3⟩ => ⟨src.n - (i + 1), by omega, rfl, hlt, G3, M3, hv3, p3⟩, fun x H' y => ?_⟩
    refine asg_sim hg hv2 (go.yld i G2 M2 H2 x H' hv2 ok hlt y) (pst i σ2 G2 M2 hlt p2) fun σ3 G3 M3 H3 hv3 q3 => ?_
    have e1 : ∀ σ G M H, Hv G M H → wk1 (Pv (i + 1)) σ G M → ∃ G M, Hv G M H ∧ Pv (i + 1) σ G M := fun σ G M H hv ⟨G', M', wk, q⟩ => ⟨G', M', wk H hv, q⟩
    exact ⟨G3, M3, _, hv3, q3, ⟨e1, en.rt, en.nx, e1, en.xc⟩⟩
  · have e : i = src.n := by omega
    subst e
    exact .inl ⟨go.stop _ G2 M2 H2 hv2 ok (Nat.le_refl _), en.nx _ G2 M2 H2 hv2 (pend σ2 G2 M2 p2)⟩
/-! ### while -/
def kWhile (c : KT) (tb : KS) : KS := fun D σ G M => ∃ Pv : Nat → St → Hp → Mem → Prop, (∃ m, Pv m σ G M) ∧ ∀ m σ G M, Pv m σ G M →
  c σ G M (fun b G M => if b = true then tb { D with nx := fun σ G M => ∃ m', m' < m ∧ wk1 (Pv m') σ G M, ct := fun σ G M => ∃ m', m' < m ∧ wk1 (Pv m') σ G M, bk := D.nx } σ G M else D.nx σ G M) (D.x σ)
theorem js_while {c : Expr} {body : List Stmt} {tc : KT} {tb : KS} (hp : PassesOwn (model X.prog X.w) X.A X.env X.xe) (hc : JT X W c tc) (hb : JSs X W body tb) : JS X W (.While c body [] pos) (kWhile tc tb) := ps_mono (ps_while hp hc hb) fun D σ H ⟨G, M, d, hv, ⟨Pv, ⟨m0, p0⟩, st⟩, en⟩ => by
  refine ⟨fun m σ H => ∃ G M, Hv G M H ∧ Pv m σ G M, ⟨m0, G, M, hv, p0⟩, ?_⟩
  rintro m σ1 H1 ⟨G1, M1, hv1, p1⟩
  refine ⟨G1, M1, _, _, hv1, st m σ1 G1 M1 p1, fun b G2 M2 H2 hv2 q2 => ?_, fun c a G' M' H' hv' q => en.xc c a σ1 G' M' H' hv' q⟩
  cases b with
  | true =>
    rw [if_pos rfl] at q2 ⊢
    refine ⟨fun σ' H' => ∃ m', m' < m ∧ ∃ G M, Hv G M H' ∧ Pv m' σ' G M, fun σ' H' h => h, ?_⟩
    have e1 : ∀ σ G M H, Hv G M H → (∃ m', m' < m ∧ wk1 (Pv m') σ G M) → ∃ m', m' < m ∧ ∃ G M, Hv G M H ∧ Pv m' σ G M := fun σ G M H hv ⟨m', l, G', M', wk, q⟩ => ⟨m', l, G', M', wk H hv, q⟩
    exact ⟨G2, M2, _, hv2, q2, ⟨e1, en.rt, en.nx, e1, en.xc⟩⟩
  | false =>
    rw [if_neg Bool.false_ne_true] at q2 ⊢
    exact en.nx _ G2 M2 H2 hv2 q2
/-! ### list comprehensions -/
def E0 : KX := fun _ _ _ _ => False
def kYes : KT := fun _ G M R _ => R true G M
def JTs (X : Cx) (W : WX) (es : List Expr) (t : KT) : Prop := PTs X es (upG W t)
theorem jts_nil : JTs X W [] kYes := ⟨fun pins s σ H Q I ⟨G, M, R, E, hv, h, hR, _⟩ => pts_nil.run pins s σ H Q I (hR _ G M H hv h)⟩
theorem jts_one {t : KT} (h : JT X W c t) : JTs X W [c] t := pts_one h
def kComp (ti : KI) (g : KG) (tt : KT) (te : KE) (own : List Nat) : KE := fun σ G M R E => ti σ G M (fun src G M => src.n ≤ sizeLine ∧ ∃ Pv : Nat → List V → Hp → Mem → Prop, Pv 0 [] G M ∧ (∀ i acc G M, i ≤ src.n → Pv i acc G M → src.ok G M) ∧
  (∀ i acc G M D, i < src.n → acc.length ≤ i → Pv i acc G M → Fr G M D → asg g (src.get i) (wipe σ own) G ((D, .lst acc) :: M) (fun σ2 G M => wipe σ2 own = wipe σ own ∧ tt σ2 G M (fun b G M =>
    if b = true then te σ2 G M (fun y G M => ∃ G' M', Wk G M G' ((D, .lst acc) :: M') ∧ Pv (i + 1) (acc ++ [y]) G' M') E0 else ∃ G' M', Wk G M G' ((D, .lst acc) :: M') ∧ Pv (i + 1) acc G' M') E0)) ∧
  (∀ acc G M p, Pv src.n acc G M → acc.length ≤ src.n → Fr G M p → R (.ref p) G ((p, .lst acc) :: M))) E
theorem comp_sim {K : PySem.W.Frag} {ti : KI} {g : KG} {gr : TG} {tt : KT} {te : KE} {own : List Nat} {σ : St} {H : Hp} {Q : VK}
    (hgv : ∀ v σ G M R H Q, Hv G M H → g.val v σ G M R → (∀ σ' G' M' H', Hv G' M' H' → R σ' G' M' → Q σ' H') → gr v σ H Q)
    (hgt : ∀ T vs σ G M R H Q, Hv G M H → H T = none → g.tup vs σ G M R → (∀ σ' G' M' H', Hv G' M' H' → R σ' G' M' → Q σ' H') → gr (.ref T) σ (upd H T (.tup vs)) Q)
    (h : upG W (kComp ti g tt te own) σ H Q) : tLc (upI W ti) gr (upG W0 tt) (upG W0 te) own σ H Q := by
  obtain ⟨G, M, R, E, hv, h, hR, hE⟩ := h
  refine ⟨G, M, _, E, hv, h, fun src G1 M1 H1 hv1 q J go => ?_, hE⟩
  obtain ⟨hn, Pv, p0, pok, pst, pend⟩ := q
  intro D hD
  refine ⟨fun i m H => m = src.n - i ∧ i ≤ src.n ∧ ∃ acc G M, acc.length ≤ i ∧ Hv G ((D, .lst acc) :: M) H ∧ Pv i acc G M, ⟨src.n, by simp, Nat.zero_le _, [], G1, M1, Nat.le_refl _, hv1.newM hD, p0⟩, ?_⟩
  rintro i m H2 ⟨rfl, hi2, acc, G2, M2, hacc, hv2, p2⟩
  have hv2' : Hv G2 M2 H2 := Wk.drop0 H2 hv2
  have ok := pok i acc G2 M2 hi2 p2
  have fD : Fr G2 M2 D := by
    refine ⟨hv2.dj (D, .lst acc) List.mem_cons_self, fun x hx e => ?_⟩
    have nd := hv2.nd
    rw [List.map_cons, List.nodup_cons] at nd
    exact nd.1 (by rw [← e]; exact List.mem_map.mpr ⟨x, hx, rfl⟩)
  by_cases hlt : i < src.n
  · refine .inr ⟨go.go i G2 M2 H2 hv2' ok hlt, fun H' => ∃ acc G M, acc.length ≤ i + 1 ∧ Hv G ((D, .lst acc) :: M) H' ∧ Pv (i + 1) acc G M, fun H' ⟨acc', G3, M3, l3, hv3, p3⟩ => ⟨src.n - (i + 1), by omega, rfl, hlt, acc', G3, M3, l3, hv3, p3⟩, fun x H' y => ?_⟩
    have step := pst i acc G2 M2 D hlt hacc p2 fD
    have yy := go.yld i G2 M2 H2 x H' hv2' ok hlt y
    have fin : ∀ σ3 G3 M3 H3, Hv G3 M3 H3 → (wipe σ3 own = wipe σ own ∧ tt σ3 G3 M3 (fun b G M =>
        if b = true then te σ3 G M (fun y G M => ∃ G' M', Wk G M G' ((D, .lst acc) :: M') ∧ Pv (i + 1) (acc ++ [y]) G' M') E0 else ∃ G' M', Wk G M G' ((D, .lst acc) :: M') ∧ Pv (i + 1) acc G' M') E0) →
        (wipe σ3 own = wipe σ own ∧ upG W0 tt σ3 H3 fun b H3 => if b = true then upG W0 te σ3 H3 fun y H4 => ∃ acc, H4 D = some (.lst acc) ∧ acc.length < sizeLine ∧ (∃ acc' G M, acc'.length ≤ i + 1 ∧ Hv G ((D, .lst acc') :: M) (upd H4 D (.lst (acc ++ [y]))) ∧ Pv (i + 1) acc' G M) else ∃ acc' G M, acc'.length ≤ i + 1 ∧ Hv G ((D, .lst acc') :: M) H3 ∧ Pv (i + 1) acc' G M) := by
      rintro σ3 G3 M3 H3 hv3 ⟨ew, q3⟩
      refine ⟨ew, G3, M3, _, _, hv3, q3, fun b G4 M4 H4 hv4 q4 => ?_, fun _ _ _ _ _ _ z => z.elim⟩
      cases b with
      | true =>
        rw [if_pos rfl] at q4 ⊢
        refine ⟨G4, M4, _, _, hv4, q4, fun y G5 M5 H5 hv5 ⟨G6, M6, wk, p6⟩ => ?_, fun _ _ _ _ _ _ z => z.elim⟩
        have hv6 := wk H5 hv5
        refine ⟨acc, hv6.mu (D, .lst acc) List.mem_cons_self, by omega, acc ++ [y], G6, M6, by rw [List.length_append]; exact Nat.succ_le_succ hacc, ?_, p6⟩
        exact hv6.set (n := 0) (o' := .lst (acc ++ [y])) rfl
      | false =>
        rw [if_neg Bool.false_ne_true] at q4 ⊢
        obtain ⟨G6, M6, wk, p6⟩ := q4
        exact ⟨acc, G6, M6, by omega, wk H4 hv4, p6⟩
    revert yy step
    cases src.get i with
    | inl v =>
      rintro step ⟨rfl, rfl⟩
      exact hgv _ _ G2 _ _ _ _ hv2 step fin
    | inr vs =>
      rintro step ⟨T, rfl, hT, rfl⟩
      exact hgt T vs _ G2 _ _ _ _ hv2 hT step fin
  · have e : i = src.n := by omega
    subst e
    exact .inl ⟨go.stop _ G2 M2 H2 hv2' ok (Nat.le_refl _), hR _ _ _ _ hv2 (pend acc G2 M2 D p2 hacc fD)⟩
variable {elt it : Expr} {ifs : List Expr} {scope : Scope} {own : List (Str × Nat)} {spos py : Pos}
theorem je_comp {ti : KI} {g : KG} {gr : TG} {tt : KT} {te : KE} (hc : X.calm = true) (hN : X.N.Nodup) (hi : JI X W tg it ti) (ok : BlkOk X.N X.env.scope scope own)
    (hg : ∀ (s : Shared) (H : Hp) (C : Addr) (cl : List (Str × Addr)) (fp : List Addr), JG (X.blk s H scope (compEnvC scope cl C X.env) fp) tg g gr) (ht : ∀ (s : Shared) (H : Hp) (C : Addr) (cl : List (Str × Addr)) (fp : List Addr), JTs (X.blk s H scope (compEnvC scope cl C X.env) fp) W0 ifs tt)
    (he : ∀ (s : Shared) (H : Hp) (C : Addr) (cl : List (Str × Addr)) (fp : List Addr), JE (X.blk s H scope (compEnvC scope cl C X.env) fp) W0 elt te) (hs : ∀ x, foldedSetIterable it X.env x = pure x := by intro _; rfl) :
    JE X W (.ListComp elt [⟨tg, it, ifs, 0⟩] scope pos) (kComp ti g tt te (own.map (·.2))) :=
  pe_mono (pe_lc hc hN hi ok (fun s H C cl fp => (hg s H C cl fp).pg) ht he hs) fun σ H Q h =>
    comp_sim (K := X.K) (fun v σ G M R H Q hv => ((hg X.s_0 H 0 [] []).val v σ G M R H Q hv)) (fun T vs σ G M R H Q hv => ((hg X.s_0 H 0 [] []).tup T vs σ G M R H Q hv)) h
theorem js_setComp {i : Nat} {y : Str} {ti : KI} {g : KG} {gr : TG} {tt : KT} {te : KE} (hc : X.calm = true) (hN : X.N.Nodup) (hsw : swapsWith (.ListComp elt [⟨tg, it, ifs, 0⟩] scope pos) (some (.Name y py)) spos.line X.env = pure true) (hi : JI X W tg it ti) (ok : BlkOk X.N X.env.scope scope own)
    (hg : ∀ (s : Shared) (H : Hp) (C : Addr) (cl : List (Str × Addr)) (fp : List Addr), JG (X.blk s H scope (compEnvC scope cl C X.env) fp) tg g gr) (ht : ∀ (s : Shared) (H : Hp) (C : Addr) (cl : List (Str × Addr)) (fp : List Addr), JTs (X.blk s H scope (compEnvC scope cl C X.env) fp) W0 ifs tt)
    (he : ∀ (s : Shared) (H : Hp) (C : Addr) (cl : List (Str × Addr)) (fp : List Addr), JE (X.blk s H scope (compEnvC scope cl C X.env) fp) W0 elt te) (hy : X.N[i]? = some y := by rfl) (hyl : X.env.scope.names.lookup y = some .local := by rfl) (hs : ∀ x, foldedSetIterable it X.env x = pure x := by intro _; rfl) :
    JS X W (.Assign [.Name y py] (.ListComp elt [⟨tg, it, ifs, 0⟩] scope pos) spos) (kSet i (kComp ti g tt te (own.map (·.2)))) :=
  ps_mono (ps_setLc hc hN hy hyl hsw hi ok (fun s H C cl fp => (hg s H C cl fp).pg) ht he hs) fun D σ H ⟨G, M, d, hv, h, en⟩ =>
    comp_sim (K := X.K) (fun v σ G M R H Q hv => ((hg X.s_0 H 0 [] []).val v σ G M R H Q hv)) (fun T vs σ G M R H Q hv => ((hg X.s_0 H 0 [] []).tup T vs σ G M R H Q hv))
      ⟨G, M, _, _, hv, h, fun v G' M' H' hv' q => en.nx _ G' M' H' hv' q, fun c a G' M' H' hv' q => en.xc c a σ G' M' H' hv' q⟩
end
/-! ### a def -/
/-- what is known may be weakened at the end -/
def wkR (R : KR) : KR := fun v G M => ∀ H, Hv G M H → ∃ G' M', Hv G' M' H ∧ R v G' M'
def wkX (Z : KX) : KX := fun c d G M => ∃ G' M', Wk G M G' M' ∧ Z c d G' M'
theorem ret0 {R : KR} {v : V} {G : Hp} {M : Mem} (h : R v G M) : wkR R v G M := fun _ hv => ⟨G, M, hv, h⟩
theorem retW {R : KR} {v : V} {G G' : Hp} {M M' : Mem} (w : Wk G M G' M') (h : R v G' M') : wkR R v G M := fun H hv => ⟨G', M', w H hv, h⟩
theorem wkR_wk {R : KR} {v : V} {G G' : Hp} {M M' : Mem} (w : Wk G M G' M') (h : wkR R v G' M') : wkR R v G M := fun H hv => h H (w H hv)
section
variable {P : Program} {w : World} {K : PySem.W.Frag} {mg : Str → Option Value} {base : Heap}
theorem fn_ok {x qual : Str} {st : Stmt} {f : Addr} {fd : FuncData} {N ps : List Str} {k : Nat} {S : KSp} (F : Fun K x qual st f fd) (sc : FnScope N ps (defScope st)) (len : ∀ vs G M R X, S vs G M R X → vs.length = ps.length)
    (hbody : ∀ (cdv : Value) (A : Around) (outer : List Env) (s : Shared) (H : Hp) (E : XK), Room k (A.deeper (envOfC qual (defScope st) s.heap.objs.size f cdv)) →
      ∃ t, JSs (cxOf (L2.CX P w) P w K mg base N qual (defScope st) f cdv A outer s H E) (fun c d _ H => E c d H) (defBody st) t ∧
        ∀ vs G M R Z, S vs G M R Z → t { nx := fun _ G M => wkR R .non G M, rt := wkR R, xc := fun c d _ G M => wkX Z c d G M } (start N vs) G M) : FnOk P w K mg base (L2.CX P w) (k + 1) f fd ps (lift S) := by
  refine F.okX sc (fun vs H Q E ⟨G, M, R, Z, _, h, _⟩ => len vs G M R Z h) fun cdv A outer s H vs Q E hr ⟨G, M, R, Z, hv, h, hR, hZ⟩ => ?_
  obtain ⟨t, j, q⟩ := hbody cdv A outer s H E hr
  exact ⟨_, j, G, M, _, hv, q vs G M R Z h, ⟨fun σ G M H hv h => (h H hv).elim fun G' h => h.elim fun M' h => hR _ G' M' H h.1 h.2, fun v G M H hv h => (h H hv).elim fun G' h => h.elim fun M' h => hR _ G' M' H h.1 h.2, fun _ _ _ _ _ z => z.elim, fun _ _ _ _ _ z => z.elim, fun c a σ G M H hv ⟨G', M', w, q⟩ => hZ c a G' M' H (w H hv) q⟩⟩
/-- a def that keeps its promise -/
structure Def (P : Program) (w : World) (K : PySem.W.Frag) (mg : Str → Option Value) (base : Heap) (lev : Nat) (x : Str) (ps : List Str) (S : KSp) : Prop where
  ex : ∃ f fd, FnOk P w K mg base (L2.CX P w) lev f fd ps (lift S) ∧ mg x = some (.ref f) ∧ PySem.W.keepIn K (.ref f) = true ∧ Binds K fd ps []
end
section
variable {X : Cx} {W : WX} {pos p : Pos} {e : Expr} {es : List Expr} {x : Str} {k lev : Nat} {ps : List Str} {S : KSp} {t : KA}
theorem je_callD (D : Def X.prog X.w X.K X.mg X.base lev x ps S) (hr : Room k X.A) (tk : Takes X W) (ha : JA X W (e :: es) t) (hl : lev ≤ k := by decide) (hg : Gl X x := by rfl)
    (hdb : (x == ("__debug__" : Str)) = false := by decide) (he : starEach (e :: es) X.env = (false, eval e X.env) :: starEach es X.env := by rfl) (hpl : (backTo pos (starEach es X.env)).any (·.1) = false := by rfl) :
    JE X W (.Call (.Name x p) (e :: es) [] pos) (kCall S t) := by
  obtain ⟨f, fd, F, hm, hk, hb⟩ := D.ex
  exact je_call (F.mono hl) hr tk hm hk hb ha hg hdb he hpl
end
end BT
set_option Elab.async false
set_option linter.all false
set_option maxRecDepth 100000
set_option maxHeartbeats 4000000
namespace BT
open PySem PySem.Spec L2
open PyProof.Rows hiding St
/-! ### promises by the number of arguments -/
def sp1 (f : V → Hp → Mem → KR → KX → Prop) : KSp := fun vs G M R Z => match vs with
  | [x] => f x G M R Z
  | _ => False
def sp2 (f : V → V → Hp → Mem → KR → KX → Prop) : KSp := fun vs G M R Z => match vs with
  | [x, y] => f x y G M R Z
  | _ => False
def sp3 (f : V → V → V → Hp → Mem → KR → KX → Prop) : KSp := fun vs G M R Z => match vs with
  | [x, y, z] => f x y z G M R Z
  | _ => False
def sp4 (f : V → V → V → V → Hp → Mem → KR → KX → Prop) : KSp := fun vs G M R Z => match vs with
  | [x, y, z, u] => f x y z u G M R Z
  | _ => False
def sp5 (f : V → V → V → V → V → Hp → Mem → KR → KX → Prop) : KSp := fun vs G M R Z => match vs with
  | [x, y, z, u, t] => f x y z u t G M R Z
  | _ => False
section
variable {vs : List V} {G : Hp} {M : Mem} {R : KR} {Z : KX}
theorem sp1_of {f} (h : sp1 f vs G M R Z) : ∃ x, vs = [x] ∧ f x G M R Z := by
  match vs, h with
  | [x], h => exact ⟨x, rfl, h⟩
theorem sp2_of {f} (h : sp2 f vs G M R Z) : ∃ x y, vs = [x, y] ∧ f x y G M R Z := by
  match vs, h with
  | [x, y], h => exact ⟨x, y, rfl, h⟩
theorem sp3_of {f} (h : sp3 f vs G M R Z) : ∃ x y z, vs = [x, y, z] ∧ f x y z G M R Z := by
  match vs, h with
  | [x, y, z], h => exact ⟨x, y, z, rfl, h⟩
theorem sp4_of {f} (h : sp4 f vs G M R Z) : ∃ x y z u, vs = [x, y, z, u] ∧ f x y z u G M R Z := by
  match vs, h with
  | [x, y, z, u], h => exact ⟨x, y, z, u, rfl, h⟩
theorem sp5_of {f} (h : sp5 f vs G M R Z) : ∃ x y z u t, vs = [x, y, z, u, t] ∧ f x y z u t G M R Z := by
  match vs, h with
  | [x, y, z, u, t], h => exact ⟨x, y, z, u, t, rfl, h⟩
theorem sp_len1 {f} (h : sp1 f vs G M R Z) : vs.length = 1 := by obtain ⟨_, rfl, _⟩ := sp1_of h; rfl
theorem sp_len2 {f} (h : sp2 f vs G M R Z) : vs.length = 2 := by obtain ⟨_, _, rfl, _⟩ := sp2_of h; rfl
theorem sp_len3 {f} (h : sp3 f vs G M R Z) : vs.length = 3 := by obtain ⟨_, _, _, rfl, _⟩ := sp3_of h; rfl
theorem sp_len4 {f} (h : sp4 f vs G M R Z) : vs.length = 4 := by obtain ⟨_, _, _, _, rfl, _⟩ := sp4_of h; rfl
theorem sp_len5 {f} (h : sp5 f vs G M R Z) : vs.length = 5 := by obtain ⟨_, _, _, _, _, rfl, _⟩ := sp5_of h; rfl
end
/-- what a body has at its ends -/
abbrev ends (R : KR) (Z : KX) : Kd := { nx := fun _ G M => wkR R .non G M, rt := wkR R, xc := fun c d _ G M => wkX Z c d G M }
/-! ### small helps -/
section
variable {K : PySem.W.Frag} {G : Hp} {M : Mem} {a p : Addr} {xs : List V} {o : HO} {n : Nat}
theorem lst_n (h : M[n]? = some (a, .lst xs)) : SeqAt' K G M a xs := .inl (.inl (List.mem_of_getElem? h))
theorem lat_n (h : M[n]? = some (a, .lst xs)) : LstAt K G M a xs := .inl (List.mem_of_getElem? h)
theorem lst_g (h : SqL K G a xs) : SeqAt' K G M a xs := .inl (.inr h)
theorem lat_g (h : SqL K G a xs) : LstAt K G M a xs := .inr h
theorem tup_g (h : SqT K G a xs) : SeqAt' K G M a xs := .inr h
theorem at_n (h : M[n]? = some (a, o)) : At G M a o := .inl (List.mem_of_getElem? h)
theorem set_n {x : Addr × HO} (h : M[n]? = some (p, o)) : (M.set n x)[n]? = some x := List.getElem?_set_self (List.getElem?_eq_some_iff.mp h).1
theorem sqt_new {xs : List V} : SqT K (upd G p (.tup xs)) p xs := .inl (.inl upd_same)
theorem sql_new {xs : List V} : SqL K (upd G p (.lst xs)) p xs := .inl (.inl upd_same)
theorem ite2' {c : Bool} {A B : Prop} (h1 : c = true → A) (h2 : c = false → B) : if c = true then A else B := by
  cases c with
  | true => rw [if_pos rfl]; exact h1 rfl
  | false => rw [if_neg Bool.false_ne_true]; exact h2 rfl
theorem sz {n : Nat} (h : n ≤ 16777216) : n ≤ sizeLine := h
theorem tyl_n (h : M[n]? = some (a, .lst xs)) : ∀ H, Hv G M H → tyV K "list" (.ref a) H := fun H hv => .inl ⟨rfl, xs, .inl (.inl (hv.get h))⟩
theorem tyl_g (h : SqL K G a xs) : ∀ H, Hv G M H → tyV K "list" (.ref a) H := fun H hv => .inl ⟨rfl, xs, ex_l hv.exx h⟩
end
/-! ### the law's pool of numbers -/
def pool (c s : Int) : HO := .lst [.int c, .int s]
def PoolOk (s : Int) : Prop := 0 ≤ s ∧ s < 2147483647
def S_law_take (K : PySem.W.Frag) : KSp := sp2 fun x y G M R Z => ∃ (p : Addr) (m : Int) (n : Nat) (c s : Int), x = .ref p ∧ y = .int m ∧ M[n]? = some (p, pool c s) ∧ PoolOk s ∧ 0 < m ∧ m < 2 ^ 200 ∧
  ∀ r c' s', 0 ≤ r → r < m → PoolOk s' → R (.int r) G (M.set n (p, pool c' s'))
def S_law_pool (K : PySem.W.Frag) : KSp := sp2 fun x y G M R Z => ∃ (a : Addr) (ns : List Int) (k : Int), x = .ref a ∧ y = .int k ∧ SqL K G a (ns.map V.int) ∧ 0 ≤ k ∧ k ≤ 100 ∧ ns.length ≤ 63 ∧
  ∀ p c s, Fr G M p → PoolOk s → R (.ref p) G ((p, pool c s) :: M)
end BT
set_option Elab.async false
set_option linter.all false
set_option maxRecDepth 100000
set_option maxHeartbeats 4000000
namespace BT
open PySem PySem.Spec L2
open PyProof.Rows hiding St
/-! ### shapes of data -/
inductive Shp : Nat → PyData → Prop
  | non {n} : Shp n .none
  | bl {n b} : Shp n (.bool b)
  | int {n i} : Shp n (.int i)
  | str {n x} : PyData.strOk x = true → Shp n (.str x)
  | list {n ds} : (∀ d, d ∈ ds → Shp n d) → Shp (n + 1) (.list ds)
  | tuple {n ds} : (∀ d, d ∈ ds → Shp n d) → Shp (n + 1) (.tuple ds)
theorem shp_all {n : Nat} (ih : ∀ d, Shp n d → d.canLay0 = true ∧ d.depth ≤ n) : ∀ ds : List PyData, (∀ d, d ∈ ds → Shp n d) → PyData.canLayAll0 ds = true ∧ PyData.depthAll ds ≤ n
  | [], _ => by
    refine ⟨by simp [PyData.canLayAll0], by simp [PyData.depthAll]⟩
  | d :: ds, h => by
    obtain ⟨a, b⟩ := ih d (h d List.mem_cons_self)
    obtain ⟨c, e⟩ := shp_all ih ds fun x hx => h x (List.mem_cons_of_mem _ hx)
    refine ⟨by simp [PyData.canLayAll0, a, c], ?_⟩
    show max d.depth (PyData.depthAll ds) ≤ n
    omega
theorem shp_of : ∀ (n : Nat) (d : PyData), Shp n d → d.canLay0 = true ∧ d.depth ≤ n
  | n, _, .non => by refine ⟨by simp [PyData.canLay0], by simp [PyData.depth]⟩
  | n, _, .bl => by refine ⟨by simp [PyData.canLay0], by simp [PyData.depth]⟩
  | n, _, .int => by refine ⟨by simp [PyData.canLay0], by simp [PyData.depth]⟩
  | n, _, .str h => by refine ⟨by simp [PyData.canLay0, h], by simp [PyData.depth]⟩
  | n + 1, .list ds, .list h => by
    obtain ⟨a, b⟩ := shp_all (shp_of n) ds h
    refine ⟨by simp [PyData.canLay0, a], ?_⟩
    show PyData.depthAll ds + 1 ≤ n + 1
    omega
  | n + 1, .tuple ds, .tuple h => by
    obtain ⟨a, b⟩ := shp_all (shp_of n) ds h
    refine ⟨by simp [PyData.canLay0, a], ?_⟩
    show PyData.depthAll ds + 1 ≤ n + 1
    omega
theorem Shp.shaped {n : Nat} {d : PyData} (h : Shp n d) (hn : n ≤ 64) : SeqAt.shaped d = true := by
  obtain ⟨a, b⟩ := shp_of n d h
  unfold SeqAt.shaped
  rw [a, decide_eq_true (Nat.le_trans b hn)]; rfl
theorem Shp.refl {n : Nat} {d : PyData} (h : Shp n d) : PyData.eqv d d = true := by
  obtain ⟨a, b⟩ := shp_of n d h
  exact SeqAt.eqv_refl d a
theorem shp_ints {n : Nat} (ns : List Int) : Shp (n + 1) (.list (ns.map .int)) := .list fun d hd => by
  obtain ⟨i, _, rfl⟩ := List.mem_map.mp hd
  exact .int
/-! ### data known -/
section
variable {K : PySem.W.Frag} {G G' : Hp} {M : Mem} {a : Addr} {v : V} {d : PyData} {vs : List V} {ds : List PyData}
def DatAll (K : PySem.W.Frag) (G : Hp) (M : Mem) (vs : List V) (ds : List PyData) : Prop := ∀ H, Hv G M H → DpAll K H vs ds
theorem dat_g (h : Dp K G v d) : DatAt K G M v d := fun H hv => ex_d hv.exx d h
theorem dats_g (h : DpAll K G vs ds) : DatAll K G M vs ds := fun H hv => ex_ds hv.exx ds h
theorem dat_list (h : LstAt K G M a vs) (hs : DatAll K G M vs ds) : DatAt K G M (.ref a) (.list ds) := fun H hv => .lst (hv.lst h) (hs H hv)
theorem dat_tup (h : SqT K G a vs) (hs : DatAll K G M vs ds) : DatAt K G M (.ref a) (.tuple ds) := fun H hv => .tup (hv.tup h) (hs H hv)
theorem dat_int {i : Int} : DatAt K G M (.int i) (.int i) := fun H hv => .int i
theorem dat_bl {i : Bool} : DatAt K G M (.bl i) (.bool i) := fun H hv => .bl i
theorem dat_non : DatAt K G M .non .none := fun H hv => .non
theorem dat_str {i : Str} : DatAt K G M (.str i) (.str i) := fun H hv => .str i
theorem dats_nil : DatAll K G M [] [] := fun H hv => .nil
theorem dats_cons (h : DatAt K G M v d) (hs : DatAll K G M vs ds) : DatAll K G M (v :: vs) (d :: ds) := fun H hv => .cons (h H hv) (hs H hv)
theorem dpall_ints : ∀ ns : List Int, DpAll K G (ns.map V.int) (ns.map PyData.int)
  | [] => .nil
  | n :: ns => .cons (.int n) (dpall_ints ns)
theorem dats_ints {ns : List Int} : DatAll K G M (ns.map V.int) (ns.map PyData.int) := fun H hv => dpall_ints ns
theorem dat_ints {ns : List Int} (h : LstAt K G M a (ns.map V.int)) : DatAt K G M (.ref a) (.list (ns.map .int)) := dat_list h dats_ints
theorem dp_ints {ns : List Int} (h : SqL K G a (ns.map V.int)) : Dp K G (.ref a) (.list (ns.map .int)) := .lst h (dpall_ints ns)
theorem dpall_snoc : ∀ {vs : List V} {ds : List PyData}, DpAll K G vs ds → Dp K G v d → DpAll K G (vs ++ [v]) (ds ++ [d])
  | _, _, .nil, h => .cons h .nil
  | _, _, .cons a b, h => .cons a (dpall_snoc b h)
theorem dpall_len : ∀ {vs : List V} {ds : List PyData}, DpAll K G vs ds → vs.length = ds.length
  | _, _, .nil => rfl
  | _, _, .cons _ b => by simp [dpall_len b]
theorem dpall_get : ∀ {vs : List V} {ds : List PyData} {i : Nat} {d : PyData}, DpAll K G vs ds → ds[i]? = some d → ∃ v, vs[i]? = some v ∧ Dp K G v d
  | _, _, _, _, .nil, e => by simp at e
  | _, _, 0, _, .cons a _, e => by
    rw [List.getElem?_cons_zero] at e
    cases e; exact ⟨_, rfl, a⟩
  | _, _, i + 1, d, .cons _ b, e => by
    obtain ⟨v, h1, h2⟩ := dpall_get (i := i) (d := d) b (by simpa using e)
    exact ⟨v, by simpa using h1, h2⟩
theorem dpall_get' : ∀ {vs : List V} {ds : List PyData} {i : Nat} {v : V}, DpAll K G vs ds → vs[i]? = some v → ∃ d, ds[i]? = some d ∧ Dp K G v d
  | _, _, _, _, .nil, e => by simp at e
  | _, _, 0, _, .cons a _, e => by
    rw [List.getElem?_cons_zero] at e
    cases e; exact ⟨_, rfl, a⟩
  | _, _, i + 1, d, .cons _ b, e => by
    obtain ⟨v, h1, h2⟩ := dpall_get' (i := i) (v := d) b (by simpa using e)
    exact ⟨v, by simpa using h1, h2⟩
theorem dpall_one {x : V} {i : PyData} (h : DpAll K G [x] [i]) : Dp K G x i := by
  cases h with
  | cons a b => exact a
theorem dp_int_inv {i : Int} (h : Dp K G v (.int i)) : v = .int i := by cases h; rfl
theorem dp_tup_inv (h : Dp K G v (.tuple ds)) : ∃ t xs, v = .ref t ∧ SqT K G t xs ∧ DpAll K G xs ds := by
  cases h with
  | tup s a => exact ⟨_, _, rfl, s, a⟩
theorem dp_list_inv (h : Dp K G v (.list ds)) : ∃ t xs, v = .ref t ∧ SqL K G t xs ∧ DpAll K G xs ds := by
  cases h with
  | lst s a => exact ⟨_, _, rfl, s, a⟩
theorem dpall_ints_inv : ∀ {vs : List V} {ns : List Int}, DpAll K G vs (ns.map .int) → vs = ns.map V.int
  | _, [], h => by cases h; rfl
  | _, n :: ns, h => by
    cases h with
    | cons a b =>
      have e := dp_int_inv a
      subst e
      rw [dpall_ints_inv b]; rfl
end
/-! ### pairs of ints -/
def prD (p : Int × Int) : PyData := .tuple [.int p.1, .int p.2]
theorem dp_pr_inv {K : PySem.W.Frag} {G : Hp} {v : V} {p : Int × Int} (h : Dp K G v (prD p)) : ∃ t, v = .ref t ∧ SqT K G t [.int p.1, .int p.2] := by
  obtain ⟨t, xs, rfl, s, a⟩ := dp_tup_inv h
  have e : xs = [V.int p.1, V.int p.2] := dpall_ints_inv (ns := [p.1, p.2]) a
  rw [e] at s
  exact ⟨t, rfl, s⟩
theorem dp_pr {K : PySem.W.Frag} {G : Hp} {t : Addr} {a b : Int} (h : SqT K G t [.int a, .int b]) : Dp K G (.ref t) (prD (a, b)) := .tup h (.cons (.int a) (.cons (.int b) .nil))
theorem shp_prs {n : Nat} (ps : List (Int × Int)) : Shp (n + 2) (.list (ps.map prD)) := .list fun d hd => by
  obtain ⟨p, _, rfl⟩ := List.mem_map.mp hd
  refine .tuple fun d hd => ?_
  rcases List.mem_cons.mp hd with rfl | hd
  · exact .int
  · rcases List.mem_cons.mp hd with rfl | hd
    · exact .int
    · cases hd
/-! ### lists of ints by place -/
section
theorem atI_int {ns : List Int} {k : Int} (h0 : 0 ≤ k) (h1 : k < ns.length) : atI (ns.map V.int) k = some (.int (ns.getD k.toNat 0)) := by
  obtain ⟨j, rfl⟩ : ∃ j : Nat, k = j := ⟨k.toNat, by omega⟩
  have hj : j < ns.length := by omega
  refine atI_nat ?_
  rw [List.getElem?_map, List.getElem?_eq_getElem hj, Int.toNat_natCast, List.getD_eq_getElem?_getD, List.getElem?_eq_getElem hj]; rfl
theorem ixN_int {n : Nat} {k : Int} (h0 : 0 ≤ k) (h1 : k < n) : ixN n k = some k.toNat := by
  unfold ixN
  rw [if_pos h0, if_pos h1]
theorem map_set_int {ns : List Int} {j : Nat} {i : Int} : (ns.map V.int).set j (.int i) = (ns.set j i).map V.int := by rw [List.map_set]
theorem lat_cons {K : PySem.W.Frag} {G : Hp} {M : Mem} {a : Addr} {xs : List V} {x : Addr × HO} (h : LstAt K G M a xs) : LstAt K G (x :: M) a xs := by
  rcases h with h | h
  · exact .inl (List.mem_cons_of_mem _ h)
  · exact .inr h
theorem lat_ex {K : PySem.W.Frag} {G G' : Hp} {M : Mem} {a : Addr} {xs : List V} (e : Ex G G') (h : LstAt K G M a xs) : LstAt K G' M a xs := by
  rcases h with h | h
  · exact .inl h
  · exact .inr (ex_l e h)
theorem lat_0 {K : PySem.W.Frag} {G : Hp} {M : Mem} {a : Addr} {xs : List V} : LstAt K G ((a, .lst xs) :: M) a xs := .inl List.mem_cons_self
theorem seq_0 {K : PySem.W.Frag} {G : Hp} {M : Mem} {a : Addr} {xs : List V} : SeqAt' K G ((a, .lst xs) :: M) a xs := .inl lat_0
theorem isi_list {K : PySem.W.Frag} {G : Hp} {M : Mem} {a : Addr} {xs : List V} {R : KR} {n : Nat} (h : M[n]? = some (a, .lst xs)) (q : R (.bl true) G M) : kIsi K [.ref a, .ty "list"] G M R :=
  ⟨.type "list", .type "list", true, .ty "list", fun H hv => .base (.lst (hv.get h)), kit_ty (by decide +kernel), q⟩
theorem mul_l {i j : Int} (h0 : -(2 ^ 64) < i) (h1 : i < 2 ^ 64) : MulOk i j := .inl (.inl ⟨h0, h1⟩)
theorem mul_r {i j : Int} (h0 : -(2 ^ 64) < j) (h1 : j < 2 ^ 64) : MulOk i j := .inl (.inr ⟨h0, h1⟩)
theorem divW {m : Int} (h0 : 0 < m) (h1 : m < 2 ^ 200) (c : Int) : CDivW c m := wide_div (b := 200) h0 (by omega) (by decide) (by decide)
theorem sz0 : (0 : Nat) ≤ sizeLine := by decide
theorem sz1 : (1 : Nat) ≤ sizeLine := by decide
theorem sz2 : (2 : Nat) ≤ sizeLine := by decide
theorem sz3 : (3 : Nat) ≤ sizeLine := by decide
theorem sz4 : (4 : Nat) ≤ sizeLine := by decide
theorem sz5 : (5 : Nat) ≤ sizeLine := by decide
theorem sz6 : (6 : Nat) ≤ sizeLine := by decide
theorem sz7 : (7 : Nat) ≤ sizeLine := by decide
theorem sz8 : (8 : Nat) ≤ sizeLine := by decide
theorem pow10_18 : CPow 10 18 := ⟨by decide, by decide, by decide⟩
end
end BT
namespace BT
open PySem PySem.Spec L2
section
variable {K : PySem.W.Frag} {G : Hp} {M : Mem} {a b : Addr} {vs ws : List V} {i : Nat} {v u : V} {g : KG} {σ : St} {R : St → Hp → Mem → Prop}
theorem asg_L (h : vs[i]? = some v) (q : g.val v σ G M R) : asg g ((srcL K a vs).get i) σ G M R := by
  show g.val (vs.getD i .non) σ G M R
  rw [getD_of h]; exact q
theorem asg_T (h : vs[i]? = some v) (q : g.val v σ G M R) : asg g ((srcT K a vs).get i) σ G M R := by
  show g.val (vs.getD i .non) σ G M R
  rw [getD_of h]; exact q
theorem asg_V (h : vs[vs.length - 1 - i]? = some v) (q : g.val v σ G M R) : asg g ((srcV K a vs).get i) σ G M R := by
  show g.val (vs.getD (vs.length - 1 - i) .non) σ G M R
  rw [getD_of h]; exact q
theorem asg_E (h : vs[i]? = some v) (q : g.tup [.int i, v] σ G M R) : asg g ((srcE K a vs).get i) σ G M R := by
  show g.tup [.int i, vs.getD i .non] σ G M R
  rw [getD_of h]; exact q
theorem asg_Z (h : vs[i]? = some v) (h2 : ws[i]? = some u) (q : g.tup [v, u] σ G M R) : asg g ((srcZ K a b vs ws).get i) σ G M R := by
  show g.tup [vs.getD i .non, ws.getD i .non] σ G M R
  rw [getD_of h, getD_of h2]; exact q
theorem dpall_at {ds : List PyData} {d : PyData} (h : DpAll K G vs ds) (e : ds[i]? = some d) : ∃ v, vs[i]? = some v ∧ Dp K G v d := dpall_get h e
end
end BT
namespace BT
open PySem PySem.Spec L2
/-- a cell becomes frozen -/
theorem frz {G : Hp} {M : Mem} {p : Addr} (o : HO) (h : Fr G M p) : ∃ G', Ex G G' ∧ G' p = some o ∧ Wk G ((p, o) :: M) G' M ∧ ∀ q M0, Fr G M0 q → q ≠ p → Fr G' M0 q :=
  ⟨upd G p o, Ex.new h, upd_same, Wk.frz0, fun q M0 f hq => ⟨by rw [upd_ne hq]; exact f.1, f.2⟩⟩
theorem Wk.nil' {G : Hp} {M : Mem} : Wk G M G [] := fun H h => ⟨h.ex, fun _ z => (nomatch z), List.nodup_nil, fun _ z => (nomatch z)⟩
theorem sql_of {K : PySem.W.Frag} {G : Hp} {a : Addr} {xs : List V} (h : G a = some (.lst xs)) : SqL K G a xs := .inl (.inl h)
theorem sqt_of {K : PySem.W.Frag} {G : Hp} {a : Addr} {xs : List V} (h : G a = some (.tup xs)) : SqT K G a xs := .inl (.inl h)
theorem Fr.cons {G : Hp} {M : Mem} {p : Addr} {x : Addr × HO} (h : Fr G (x :: M) p) : Fr G M p := ⟨h.1, fun y hy => h.2 y (List.mem_cons_of_mem _ hy)⟩
end BT
set_option Elab.async false
set_option linter.all false
set_option maxRecDepth 100000
set_option maxHeartbeats 4000000
namespace BT
open PySem PySem.Spec L2
open PyProof.Rows hiding St
/-- the slots at a body's start -/
def sta (n : Nat) (vs : List V) : St := vs.map some ++ List.replicate (n - vs.length) none
/-! ### ranges with a step -/
theorem rg_up {i j c : Int} (hc : 0 < c) (hc2 : c < 1000000) (hi : -1000000000000 < i) (hi2 : i < 1000000000000) (hj : -1000000000000 < j) (hj2 : j < 1000000000000) :
    RgC i j c (if i < j then ((j - i - 1) / c + 1).toNat else 0) := by
  have e : Builtin.Range.rangeSize i j c = if i < j then (j - i - 1) / c + 1 else 0 := by
    unfold Builtin.Range.rangeSize
    rw [if_pos hc]
  have hb : 0 ≤ (j - i - 1) / c ∨ ¬ i < j := by
    by_cases h : i < j
    · exact .inl (Int.ediv_nonneg (by omega) (by omega))
    · exact .inr h
  have hb2 : (j - i - 1) / c ≤ 2000000000000 ∨ ¬ i < j := by
    by_cases h : i < j
    · left
      have := Int.ediv_le_self c (show 0 ≤ j - i - 1 by omega)
      omega
    · exact .inr h
  refine ⟨by omega, by omega, ?_, ?_⟩
  · unfold Builtin.Range.small
    rw [e]
    simp only [Builtin.Range.rangeFitsLong, Bool.and_eq_true, Bool.or_eq_true, decide_eq_true_eq, beq_iff_eq, hc, gt_iff_lt, if_true]
    by_cases h : i < j
    · rw [if_pos h]; omega
    · rw [if_neg h]; omega
  · rw [e]
    by_cases h : i < j
    · rw [if_pos h, if_pos h]; omega
    · rw [if_neg h, if_neg h]; rfl
theorem rg_down {i j : Int} (hi : -1000000000000 < i) (hi2 : i < 1000000000000) (hj : -1000000000000 < j) (hj2 : j < 1000000000000) : RgC i j (-1) (i - j).toNat :=
  RgC.neg (by omega) (by omega) (by omega) (by omega)
section
variable {X : Cx} {W : WX} {pos : Pos} {a b c e : Expr} {es : List Expr}
/-! ### sorted, xs[::-1] -/
def kSorted (K : PySem.W.Frag) : KC := fun vs G M R => match vs with
  | [.ref a] => ∃ ns : List Int, LstAt K G M a (ns.map V.int) ∧ ∀ (ns' : List Int) (p : Addr), ns'.Perm ns → ns'.Pairwise (· ≤ ·) → Fr G M p → R (.ref p) G ((p, .lst (ns'.map V.int)) :: M)
  | _ => False
theorem kc_sorted : KCall X (.builtin "sorted") (kSorted X.K) := kcall_of cr_sortedI fun vs G M R H Q hv h hR => by
  match vs, h with
  | [.ref a], ⟨ns, h1, h2⟩ => exact ⟨a, ns, rfl, hv.lst h1, fun ns' p q1 q2 q3 => hR _ G _ _ (hv.newM q3) (h2 ns' p q1 q2 (hv.fr q3))⟩
def kRevL (K : PySem.W.Frag) : V → Hp → Mem → KR → Prop := fun x G M R => match x with
  | .ref a => ∃ xs, LstAt K G M a xs ∧ ∀ p, Fr G M p → R (.ref p) G ((p, .lst xs.reverse) :: M)
  | _ => False
theorem je_revl {t : KE} {k : Nat} {p1 p2 p3 : Pos} (he : JE X W e t) : JE X W (.Subscript e (.Slice none none (some (.UnaryOp .USub (.Constant (.int 1) k p1) p2)) p3) pos) (kUn (kRevL X.K) t) :=
  pe_mono (pe_revL he) fun σ H Q ⟨G, M, R, E, hv, h, hR, hE⟩ => ⟨G, M, _, E, hv, h, fun x G1 M1 H1 hv1 h1 => by
    match x, h1 with
    | .ref a, ⟨xs, q1, q2⟩ => exact ⟨a, xs, rfl, hv1.lst q1, fun p hp => hR _ G1 _ _ (hv1.newM hp) (q2 p (hv1.fr hp))⟩, hE⟩
/-! ### in, not in: flat things in a list or a tuple -/
def kIn (neg : Bool) (K : PySem.W.Frag) : KR2 := fun x y G M R => match y with
  | .ref a => ∃ xs, SeqAt' K G M a xs ∧ flatV x = true ∧ xs.all flatV = true ∧ R (.bl (if neg then !inV x xs else inV x xs)) G M
  | _ => False
theorem kop_in : KOp X (compareOp .In) (kIn false X.K) := kop_of op_in_seq fun x y G M R H Q hv h hR => by
  match y, h with
  | .ref a, ⟨xs, h1, h2, h3, h4⟩ => exact ⟨a, xs, rfl, h1.elim (fun q => .inl (hv.lst q)) (fun q => .inr (hv.tup q)), h2, h3, hR _ G M H hv h4⟩
theorem kop_notin : KOp X (compareOp .NotIn) (kIn true X.K) := kop_of op_notIn_seq fun x y G M R H Q hv h hR => by
  match y, h with
  | .ref a, ⟨xs, h1, h2, h3, h4⟩ => exact ⟨a, xs, rfl, h1.elim (fun q => .inl (hv.lst q)) (fun q => .inr (hv.tup q)), h2, h3, hR _ G M H hv h4⟩
/-! ### list.index, list.insert, tuple(xs), bool(x), list(range) -/
def kIndex (K : PySem.W.Frag) : KM := fun x vs G M R => match x, vs with
  | .ref a, [y] => ∃ ys j z, LstAt K G M a ys ∧ flatV y = true ∧ ys.all flatV = true ∧ ys[j]? = some z ∧ eqV z y = true ∧ (∀ m z', m < j → ys[m]? = some z' → eqV z' y = false) ∧ R (.int (j : Nat)) G M
  | _, _ => False
end
end BT
namespace BT
open PySem PySem.Spec L2
open PyProof.Rows hiding St
theorem rg_mul {i c : Int} {n : Nat} (hc : 0 < c) (hc2 : c < 1000000) (hi : -1000000000 < i) (hi2 : i < 1000000000) (hn : n < 100000) : RgC i (i + c * n) c n := by
  have hm : c * n < 100000000000 := by
    have h1 : c * (n : Int) ≤ 1000000 * (n : Int) := Int.mul_le_mul_of_nonneg_right (by omega) (by omega)
    omega
  have hm0 : 0 ≤ c * n := Int.mul_nonneg (by omega) (by omega)
  have q := rg_up (i := i) (j := i + c * n) hc hc2 (by omega) (by omega) (by omega) (by omega)
  have e : (if i < i + c * n then ((i + c * n - i - 1) / c + 1).toNat else 0) = n := by
    cases n with
    | zero => rw [if_neg (by simp)]
    | succ k =>
      have hk : 0 < c * ((k + 1 : Nat) : Int) := Int.mul_pos hc (by omega)
      rw [if_pos (by omega)]
      have e1 : i + c * ((k + 1 : Nat) : Int) - i - 1 = (c - 1) + c * (k : Int) := by
        rw [show ((k + 1 : Nat) : Int) = (k : Int) + 1 by omega, Int.mul_add]; omega
      rw [e1, ((Int.ediv_emod_unique hc).mpr ⟨rfl, by omega, by omega⟩).1]
      omega
  rw [e] at q
  exact q
theorem fn_false {P : Program} {w : World} {K : PySem.W.Frag} {mg : Str → Option Value} {base : Heap} {CX : CXT} {k : Nat} {f : Addr} {fd : FuncData} {ps : List Str} {S : KSp} (h : ∀ vs G M R Z, ¬ S vs G M R Z) : FnOk P w K mg base CX k f fd ps (lift S) :=
  ⟨fun vs H Q E ⟨G, M, R, Z, _, q, _⟩ => (h vs G M R Z q).elim, fun A outer s H args us vs Q E _ _ _ _ ⟨G, M, R, Z, _, q, _⟩ => (h vs G M R Z q).elim⟩
theorem cx_none {P : Program} {w : World} {l : List Env} {H : Hp} {s : Shared} {e : Value} {s' : Shared} (h : L2.CX P w l H s (fun _ _ _ => False) e s') : False := by
  obtain ⟨_, _, _, _, _, _, _, _, _, _, _, _, z⟩ := h
  exact z.elim
/-- a law's promise -/
def S_law (K : PySem.W.Frag) : KSp := sp1 fun x G M R Z => ∃ (a : Addr) (ns : List Int), x = .ref a ∧ SqL K G a (ns.map V.int) ∧ ns.length ≤ 63 ∧ ∀ G' M', R (.bl true) G' M'
theorem law_start {K : PySem.W.Frag} {H : Hp} {a : Addr} {ns : List Int} (hl : ns.length ≤ 63) (hS : SqL K H a (ns.map V.int)) : lift (S_law K) [.ref a] H (fun v _ => v = .bl true) fun _ _ _ => False :=
  ⟨H, [], fun v _ _ => v = .bl true, fun _ _ _ _ => False, Hv.self H, ⟨a, ns, rfl, hS, hl, fun _ _ => rfl⟩, fun _ _ _ _ _ h => h, fun _ _ _ _ _ _ z => z⟩
end BT
namespace BT
open PySem PySem.Spec L2
open PyProof.Rows hiding St
/-! ### is of None and of truths -/
def kIs2 (neg : Bool) : KR2 := fun x y G M R => match x, y with
  | .bl a, .bl b => R (.bl (if neg then !decide (a = b) else decide (a = b))) G M
  | x, .non => R (.bl (if neg then !decide (x = .non) else decide (x = .non))) G M
  | _, _ => False
theorem kop_is2 {X : Cx} : KOp X (compareOp .Is) (kIs2 false) := fun pins s σ H x y v u Q G M R I rx ry hv h hR => by
  cases y <;> cases x <;> first
    | exact op_isBl pins s σ H _ _ v u Q I rx ry ⟨_, _, rfl, rfl, hR _ G M H hv h⟩
    | exact op_isN pins s σ H _ _ v u Q I rx ry ⟨rfl, hR _ G M H hv h⟩
    | exact h.elim
theorem kop_isnot2 {X : Cx} : KOp X (compareOp .IsNot) (kIs2 true) := fun pins s σ H x y v u Q G M R I rx ry hv h hR => by
  cases y <;> cases x <;> first
    | exact op_notBl pins s σ H _ _ v u Q I rx ry ⟨_, _, rfl, rfl, hR _ G M H hv h⟩
    | exact op_notN pins s σ H _ _ v u Q I rx ry ⟨rfl, hR _ G M H hv h⟩
    | exact h.elim
/-! ### types of values -/
inductive PT | int | bool | non | str | list | tuple | dict
  deriving DecidableEq
def PT.name : PT → String
  | .int => "int" | .bool => "bool" | .non => "NoneType" | .str => "str" | .list => "list" | .tuple => "tuple" | .dict => "dict"
def TyK (K : PySem.W.Frag) (G : Hp) (M : Mem) (x : V) (T : PT) : Prop := ∀ H, Hv G M H → TyX K H x (.type T.name)
section
variable {K : PySem.W.Frag} {G : Hp} {M : Mem} {a : Addr} {xs : List V} {n : Nat}
theorem ty_int {i : Int} : TyK K G M (.int i) .int := fun H hv => .base (.int i)
theorem ty_bl {i : Bool} : TyK K G M (.bl i) .bool := fun H hv => .base (.bl i)
theorem ty_non : TyK K G M .non .non := fun H hv => .base .non
theorem ty_str {i : Str} : TyK K G M (.str i) .str := fun H hv => .base (.str i)
theorem ty_lst (h : LstAt K G M a xs) : TyK K G M (.ref a) .list := fun H hv => by
  rcases hv.lst h with (z | ⟨o, z⟩) | ⟨o, its, m, z1, z2, _⟩
  · exact .base (.lst z)
  · exact .base (.frz z)
  · exact .kList z1 z2
theorem ty_tup (h : SqT K G a xs) : TyK K G M (.ref a) .tuple := fun H hv => by
  rcases hv.tup h with (z | ⟨o, z⟩) | ⟨o, its, m, z1, z2, _⟩
  · exact .base (.tup z)
  · exact .fTuple z
  · exact .kTuple z1 z2
theorem ty_dict {kvs : List (Key × V)} (h : At G M a (.dK kvs)) : TyK K G M (.ref a) .dict := fun H hv => .base (.dK (hv.at h))
/-- isinstance(x, T): both answers -/
def isaB (T U : PT) : Bool := T == U || (T == .bool && U == .int)
theorem kit_pt (T U : PT) : PySem.W.kitOne K (.type T.name) (.type U.name) = some (isaB T U) := by
  cases T <;> cases U <;> exact kit_ty (by decide +kernel)
theorem isi_pt {x : V} {T : PT} {R : KR} (U : PT) (h : TyK K G M x T) (q : R (.bl (isaB T U)) G M) : kIsi K [x, .ty U.name] G M R :=
  ⟨.type T.name, .type U.name, _, .ty U.name, h, kit_pt T U, q⟩
end
end BT
namespace BT
open PySem PySem.Spec L2
/-! ### steps by name -/
section
variable {D : Kd} {σ : St} {G : Hp} {M : Mem} {i : Nat} {te ta tb : KE}
theorem kset_of (h : te σ G M (fun v G M => D.nx (σ.set i (some v)) G M) (D.x σ)) : kSet i te D σ G M := h
theorem kret_of (h : te σ G M D.rt (D.x σ)) : kRet te D σ G M := h
theorem kexpr_of (h : te σ G M (fun _ G M => D.nx σ G M) (D.x σ)) : kExpr te D σ G M := h
theorem kbin_of {β : Type} {k : V → V → Hp → Mem → (β → Hp → Mem → Prop) → Prop} {R : β → Hp → Mem → Prop} {E : KX} (h : ta σ G M (fun x G M => tb σ G M (fun y G M => k x y G M R) E) E) : kBin k ta tb σ G M R E := h
theorem kcb_of {k : KC} {t : KA} {R : KR} {E : KX} (h : t σ G M (fun vs G M => k vs G M R) E) : kCB k t σ G M R E := h
theorem kcons_of {t : KE} {u : KA} {R : List V → Hp → Mem → Prop} {E : KX} (h : t σ G M (fun x G M => u σ G M (fun xs G M => R (x :: xs) G M) E) E) : kCons t u σ G M R E := h
end
end BT
set_option Elab.async false
set_option linter.all false
set_option maxRecDepth 100000
set_option maxHeartbeats 4000000
namespace BT
open PySem PySem.Spec L2
open PyProof.Rows hiding St
/-! ### own errors: raised, caught, held -/
/-- the address of a class, by its name -/
def cl (K : PySem.W.Frag) (x : Str) : Addr := match PySem.W.nsIn K mainGlobals x with
  | some (some (.ref a)) => a
  | _ => 0
theorem cl_of {K : PySem.W.Frag} {x : Str} {C : Addr} (a : PySem.W.nsIn K mainGlobals x = some (some (.ref C))) : cl K x = C := by
  unfold cl
  rw [a]
/-- a class that is known -/
structure XG (K : PySem.W.Frag) (mg : Str → Option Value) (x : Str) : Prop where
  g : mg x = some (.ref (cl K x))
  k : PySem.W.keepIn K (.ref (cl K x)) = true
/-- a class without own __init__ under ValueError, to be raised -/
structure XR (K : PySem.W.Frag) (x : Str) : Prop where
  n : PySem.W.excIn K (cl K x) [.type "ValueError", .type "Exception", .type "BaseException", .type "object"] "ValueError.__new__" = true
  b : PySem.W.subIn K (.ref (cl K x)) (.type "BaseException") = some true
  t : PySem.W.typeIn K (.ref (cl K x)) = some (.type "type")
theorem xg_mk {K : PySem.W.Frag} {mg : Str → Option Value} {h : Heap} {x : Str} {C : Addr} (X : K.In h) (G : h.Ns mainGlobals mg) (a : PySem.W.nsIn K mainGlobals x = some (some (.ref C))) (k : PySem.W.keepIn K (.ref C) = true) : XG K mg x := by
  have e := cl_of a
  exact ⟨by rw [e]; exact PySem.W.mg_of X G a, by rw [e]; exact k⟩
theorem xr_mk {K : PySem.W.Frag} {x : Str} {C : Addr} (a : PySem.W.nsIn K mainGlobals x = some (some (.ref C)))
    (q : PySem.W.excIn K C [.type "ValueError", .type "Exception", .type "BaseException", .type "object"] "ValueError.__new__" = true)
    (b : PySem.W.subIn K (.ref C) (.type "BaseException") = some true) (t : PySem.W.typeIn K (.ref C) = some (.type "type")) : XR K x := by
  have e := cl_of a
  exact ⟨by rw [e]; exact q, by rw [e]; exact b, by rw [e]; exact t⟩
theorem xe_mk {K : PySem.W.Frag} {x : Str} {C : Addr} (a : PySem.W.nsIn K mainGlobals x = some (some (.ref C))) (q : ExcC K C) : ExcC K (cl K x) := by
  rw [cl_of a]
  exact q
section
variable {X : Cx} {W : WX} {pos : Pos}
/-- raise C('m') -/
def kRaise (K : PySem.W.Frag) (x : Str) : KS := fun D σ G M => D.xc (.ref (cl K x)) none σ G M
theorem js_raise {x m : Str} {j : Nat} {p p2 pos2 : Pos} (g : XG X.K X.mg x) (r : XR X.K x) (tk : Takes X W) (hc : X.calm = true := by rfl) (hg : Gl X x := by rfl) (hdb : (x == ("__debug__" : Str)) = false := by decide) :
    JS X W (.Raise (some (.Call (.Name x p) [.Constant (.str m) j p2] [] pos2)) none pos) (kRaise X.K x) :=
  ps_mono (ps_raise hc tk (pmk_own PySem.F.excBase_ValueError r.n g.g g.k (raises_own r.b r.t) hg hdb)) fun D σ H ⟨G, M, d, hv, h, en⟩ => en.xc _ _ _ _ _ _ hv h

/-- a caught error that is held: its class and its dict -/
def ExT (cls : Value) (d : Option Addr) (a : Addr) : HO := .ext fun h => ∃ (oe : Obj) (vs : Array Value), h.get? a = some oe ∧ Zc cls d oe ∧ oe.data = .fields vs
theorem exT_ok {P : Program} {w : World} {H : Hp} {h : Heap} {a : Addr} {cls : Value} {d : Option Addr} {oe : Obj} {vs : Array Value} (e : h.get? a = some oe) (z : Zc cls d oe) (q : oe.data = .fields vs) : ObjOk P w H h a (ExT cls d a) :=
  ⟨⟨oe, vs, e, z, q⟩, ⟨oe, e⟩, fun _ _ ⟨o, v, q, r⟩ k => ⟨o, v, k o q, r⟩⟩
/-- an object that nobody tracked is tracked from here on -/
theorem inv_track {pins : List (Addr × Obj)} {σ : St} {H : Hp} {s : Shared} {a : Addr} {o : HO} (I : Inv X pins σ H s) (n : H a = none) (n0 : X.s_0.heap.get? a = none) (nl : a ≠ X.env.locals)
    (nc : ∀ y c, X.env.cells.lookup y = some c → c ≠ a) (np : ∀ p ∈ X.pn ++ pins, p.1 ≠ a) (new : ObjOk X.prog X.w (upd H a o) s.heap a o) : Inv X pins σ (upd H a o) s := by
  have ne : ∀ b u, H b = some u → b ≠ a := fun b u e z => by
    rw [z, n] at e
    cases e
  refine ⟨I.ok, I.os, I.bare, ⟨I.base.keep, I.base.slot, fun b u e m x => ?_, I.base.there, fun b xs e => ?_, fun b u v e => ?_, fun b ps e => ?_⟩, I.loc, I.cell, ?_, fun y c e => ?_, fun p hp => ?_, fun b u e => ?_, I.len⟩
  · rw [upd_ne (fun z => by rw [z, n0] at e; cases e)]
    exact I.base.free b u e m x
  · have q := I.base.tups b xs e
    rw [upd_ne (ne b _ q)]
    exact q
  · have q := I.base.frzs b u v e
    rw [upd_ne (ne b _ q)]
    exact q
  · obtain ⟨m, q⟩ := I.base.tbls b ps e
    exact ⟨m, by rw [upd_ne (ne b _ q)]; exact q⟩
  · rw [upd_ne (Ne.symm nl)]
    exact I.free
  · rw [upd_ne (nc y c e)]
    exact I.freeC y c e
  · obtain ⟨p1, p2, p3, p4, p5⟩ := I.pin p hp
    exact ⟨p1, by rw [upd_ne (np p hp)]; exact p2, p3, p4, p5⟩
  · by_cases hb : b = a
    · subst hb
      rw [upd_same] at e
      cases e
      exact new
    · rw [upd_ne hb] at e
      exact (I.hok b u e).stay (fun c v _ q => q) (fun c q => by rw [upd_ne (ne c _ q)]; exact q) fun c xs q => by rw [upd_ne (ne c _ q)]; exact q
end

/-- what 'except x as n: y = n' wishes of an error of the body -/
def wKeep (K : PySem.W.Frag) (c : Value) (i j : Nat) (Wout : WX) (D : Ends) : WX := fun cls d σ H => ∃ b, PySem.W.exmOne K cls c = some b ∧
  (b = true → ∀ a, H a = none → D.nx (((σ.set i (some (.ref a))).set j (some (.ref a))).set i none) (upd H a (ExT cls d a))) ∧ (b = false → Wout cls d σ H)
section
variable {X : Cx} {x n y : Str} {c : Value} {i j : Nat} {body : List Stmt} {np pos pos' q1 q2 q3 : Pos} {tb : WX → TS} {Wout : WX}
theorem ps_try_keep (hs : X.stack = X.env :: X.outer) (hf : X.env.frame = some X.env.locals) (hx : X.ex = []) (hN : X.N.Nodup) (hi : X.N[i]? = some n) (hj : X.N[j]? = some y) (hln : X.env.kindOf n = some .local) (hlj : Loc X.env.scope y) (hij : i ≠ j)
    (hfy : X.fn y = true ∨ X.env.scope.names.lookup y = some .local) (hdn : (n == ("__debug__" : Str)) = false) (hcn : (n == ("__classdict__" : Str)) = false)
    (hsw : swapsWith (.Name n q2) (some (.Name y q1)) q3.line X.env = pure false) (hc : Names X x c) (tk : Takes X Wout)
    (hb : ∀ (W : WX) (pn : List (Addr × Obj)) (xe : Value → Shared → Prop), Takes (X.tr pn xe) W → PassesOwn (model X.prog X.w) X.A X.env xe → PSs (X.tr pn xe) body (tb W)) :
    PS X (.Try body [.ExceptHandler (some (.Name x np)) (some n) [.Assign [.Name y q1] (.Name n q2) q3] pos'] [] [] pos) (fun D σ H => tb (wKeep X.K c i j Wout D) D σ H) := by
  refine ⟨fun pins s σ H D I h => ?_⟩
  have ok := I.ok
  have fr0 : X.A.frames = some (X.env :: X.outer) := by rw [ok.frames, hs]
  refine wpAny_Try_except ?_
  refine wpAny_mono ((hb (wKeep X.K c i j Wout D) (X.pn ++ pins) _ (fun u s' xx => ?_) PassesOwn.looking).run [] s σ H D (I.toTry _) h) (fun f s1 hsp => ?_) (fun e s1 he => he)
  · obtain ⟨a, B, sI, pins', σ', H', cls, d, rfl, J', nb, up, sky, na, os, ag, b, hb1, hyes, hno⟩ := xx
    have J : Inv X pins σ' H' sI := J'.ofTry ok
    have sky2 : Sky B (X.env :: X.outer) a (Zc cls d) X.env.locals s'.heap := by
      rw [← hs]
      exact sky
    show wpAny (model X.prog X.w) X.A (noteFrame (.ref a) X.env) _ _ _
    refine Sky.land Zc.steady fr0 hf sky2 fun h3 fl3 up3 => ?_
    have J3 : Inv X pins σ' H' { s' with heap := h3 } := J.landed nb fl3.1 (up.trans up3) os ag
    obtain ⟨oe3, vs3, he3, hz3, hd3⟩ := fl3.there
    have nfr : a ∉ frs (X.env :: X.outer) := fun hm => by
      obtain ⟨_, o', e', hnf⟩ := fl3.2.2.1.mem hm
      rw [he3] at e'
      cases e'
      exact hnf _ hd3
    have nL : a ≠ X.env.locals := fun z => nfr (List.mem_filterMap.mpr ⟨X.env, List.mem_cons_self, by rw [hf, z]⟩)
    have nF : a ∉ X.fs := fun hm => by
      obtain ⟨e, he, q⟩ := List.mem_filterMap.mp hm
      exact nfr (List.mem_filterMap.mpr ⟨e, List.mem_cons_of_mem _ he, q⟩)
    have nI : sI.heap.get? a = none := by
      cases e : sI.heap.get? a with
      | none => rfl
      | some o =>
        have z := nb a o e (by rw [hs]; exact nfr)
        rw [fl3.2.1] at z
        cases z
    have n0 : X.s_0.heap.get? a = none := by
      cases e : X.s_0.heap.get? a with
      | none => rfl
      | some o =>
        obtain ⟨o', z⟩ := J.base.there a o e (by rw [hx]; exact fun z => nomatch z)
        rw [nI] at z
        cases z
    have nc : ∀ w c, X.env.cells.lookup w = some c → c ≠ a := fun w c e z => by
      obtain ⟨v, o, ho, _⟩ := J.cell w c e
      rw [z, nI] at ho
      cases ho
    have npn : ∀ p ∈ X.pn ++ pins, p.1 ≠ a := fun p hp z => by
      obtain ⟨q, _⟩ := J.pin p hp
      rw [z, nI] at q
      cases q
    have S3 := J3.suite he3 hd3 na nL nF
    refine wpAny_handleBy_cons (codeAny_handlers_test ?_) (by intro q; cases q)
    have LT : PySem.W.Looks (model X.prog X.w) h3 (typeOf (.ref a)) cls := fun A Q E s k q => wpAny_typeOf_ref (k _ _ he3) (by rw [hz3.1]; exact q)
    have LM := PySem.W.exm_one (M := model X.prog X.w) (J3.kIn) LT hb1
    have look : ∀ {Q : Value → Shared → Prop} {E : Value → Shared → Prop}, Q c { s' with heap := h3 } → wpAny (model X.prog X.w) (X.A.mark (some (.ref a))) (eval (.Name x np) X.env) Q E { s' with heap := h3 } := fun {Q E} q => by
      obtain ⟨hg, hdbg, hm | ⟨hm, hv, hnn⟩⟩ := hc
      · exact ld_glob (X := X.suite a ((a, oe3) :: (X.pn ++ pins))) S3 hg hm q hdbg
      · exact ld_blt (X := X.suite a ((a, oe3) :: (X.pn ++ pins))) S3 hg hm hv q hnn hdbg
    refine look (LM.here ?_)
    cases b with
    | true =>
      refine codeAny_handlers_suite_as ?_
      refine HandSPX.lands_againZ fl3 fun h4 fl4 up4 => ?_
      have J4 : Inv X pins σ' H' { s' with heap := h4 } := J.landed nb fl4.1 ((up.trans up3).trans up4) os ag
      obtain ⟨oe4, vs4, he4, hz4, hd4⟩ := fl4.there
      have S4 := J4.suite he4 hd4 na nL nF
      refine store_ok (X := X.suite a ((a, oe4) :: (X.pn ++ pins))) (v := .ref a) S4 hN hi (.inl hln) rfl (fun s5 S5 => ?_) (.inr hln)
      have lenσ : σ'.length = X.N.length := J.len
      have hiσ : i < σ'.length := by
        rw [lenσ]
        exact (List.getElem?_eq_some_iff.mp hi).1
      have P1 : PSs (X.suite a ((a, oe4) :: (X.pn ++ pins))) [.Assign [.Name y q1] (.Name n q2) q3] (tSeq (tAsg (tVar i) (gName j)) tNext) :=
        pss_cons (ps_set hN hj hlj (pe_var hi (.inl hln) hdn hcn) hsw hfy) pss_nil
      refine wpAny_mono (P1.run [] s5 (σ'.set i (some (.ref a))) H' { nx := fun σ6 H6 => σ6 = (σ'.set i (some (.ref a))).set j (some (.ref a)) ∧ H6 = H', rt := fun _ _ => False, bk := fun _ _ => False, ct := fun _ _ => False } S5 ?_) (fun f s6 hsp => ?_) (fun _ _ z => False.elim z)
      · exact ⟨.ref a, by rw [List.getElem?_set_self hiσ], rfl, rfl⟩
      · cases f with
        | next =>
          obtain ⟨σ6, H6, S6, rfl, rfl⟩ := hsp
          refine gone_ok (X := X.suite a ((a, oe4) :: (X.pn ++ pins))) S6 hN hi hln fun s7 S7 => ?_
          obtain ⟨k1, k2, _⟩ := S7.pin (a, oe4) (List.mem_append.mpr (.inl List.mem_cons_self))
          exact ⟨_, _, inv_track (S7.unsuite ok) na n0 nL nc npn (exT_ok k1 hz4 hd4), hyes rfl a na⟩
        | brk => obtain ⟨_, _, _, z⟩ := hsp; exact z.elim
        | cont => obtain ⟨_, _, _, z⟩ := hsp; exact z.elim
        | ret u => obtain ⟨_, _, _, _, _, z⟩ := hsp; exact z.elim
    | false =>
      show wpAny _ X.A (handleBy (.ref a) X.env []) _ _ _
      refine wpAny_handleBy_nil ?_
      obtain ⟨k1, k2, k3, oe, vs, T, oT, ts', he, hz, hd, h1, hr⟩ := id fl3
      unfold PySem.passOn
      refine wpAny_bind (wpAny_field he hd h1 ?_)
      rw [if_neg (show ¬ ((Value.ref T == Value.none) = true) from by simp)]
      have fin : wpAny (model X.prog X.w) X.A (setFlight (.ref a) X.env.frame) (fun _ s4 => wpAny (model X.prog X.w) X.A (throw (.ref a) : Sem Flow) (SP X pins D) X.xe s4) X.xe { s' with heap := h3 } := by
        rw [hf]
        refine HandSPX.setFlight_upZ fl3 fun h4 hh4 up4 => wpAny_throw (tk _ _ ?_)
        exact ⟨a, B, sI, pins, σ', H', cls, d, rfl, J, nb, (up.trans up3).trans up4, .inr (.inr (by rw [hs]; exact hh4)), na, os, ag, hno rfl⟩
      first
        | exact wpAny_bind (wpAny_pure (wpAny_bind fin))
        | exact wpAny_bind fin
  · cases f with
    | next => obtain ⟨σ', H', J', q⟩ := hsp; exact wpAny_execs_nil ⟨σ', H', J'.ofTry ok, q⟩
    | brk => obtain ⟨σ', H', J', q⟩ := hsp; exact ⟨σ', H', J'.ofTry ok, q⟩
    | cont => obtain ⟨σ', H', J', q⟩ := hsp; exact ⟨σ', H', J'.ofTry ok, q⟩
    | ret u => obtain ⟨v, σ', H', J', r, q⟩ := hsp; exact ⟨v, σ', H', J'.ofTry ok, r, q⟩
end
/-! ### the readings -/
/-- an error of the class named x, held at a -/
def ErA (K : PySem.W.Frag) (x : Str) (d : Option Addr) (a : Addr) : HO := ExT (.ref (cl K x)) d a
/-- try: t, except C as n (slot i): y = n (slot j); the classes that the law knows, and whether they stand under C -/
def kTry (K : PySem.W.Frag) (tab : List (Str × Bool)) (i j : Nat) (t : KS) : KS := fun D σ G M => t { D with xc := fun c d σ' G' M' => ∃ p ∈ tab, c = .ref (cl K p.1) ∧
  (if p.2 = true then ∀ a, Fr G' M' a → D.nx (((σ'.set i (some (.ref a))).set j (some (.ref a))).set i none) (upd G' a (ErA K p.1 d a)) M' else D.xc c d σ' G' M') } σ G M
section
variable {X : Cx} {W : WX} {pos : Pos}
theorem js_try {K : PySem.W.Frag} {x n y : Str} {i j : Nat} {tab : List (Str × Bool)} {body : List Stmt} {t : KS} {np pos' q1 q2 q3 : Pos} (g : XG X.K X.mg x) (ht : ∀ p ∈ tab, PySem.W.exmOne X.K (.ref (cl X.K p.1)) (.ref (cl X.K x)) = some p.2) (hN : X.N.Nodup) (tk : Takes X W)
    (hb : ∀ (W : WX) (pn : List (Addr × Obj)) (xe : Value → Shared → Prop), Takes (X.tr pn xe) W → PassesOwn (model X.prog X.w) X.A X.env xe → JSs (X.tr pn xe) W body t)
    (hK : X.K = K := by rfl) (hs : X.stack = X.env :: X.outer := by rfl) (hf : X.env.frame = some X.env.locals := by rfl) (hx : X.ex = [] := by rfl) (hi : X.N[i]? = some n := by rfl) (hj : X.N[j]? = some y := by rfl)
    (hln : X.env.kindOf n = some .local := by rfl) (hlj : Loc X.env.scope y := by first | exact Or.inl rfl | exact Or.inr rfl) (hij : i ≠ j := by decide)
    (hfy : X.fn y = true ∨ X.env.scope.names.lookup y = some .local := by first | exact .inl rfl | exact .inr rfl) (hdn : (n == ("__debug__" : Str)) = false := by decide) (hcn : (n == ("__classdict__" : Str)) = false := by decide)
    (hsw : swapsWith (.Name n q2) (some (.Name y q1)) q3.line X.env = pure false := by rfl) (hg : Gl X x := by rfl) (hxd : (x == ("__debug__" : Str)) = false := by decide) :
    JS X W (.Try body [.ExceptHandler (some (.Name x np)) (some n) [.Assign [.Name y q1] (.Name n q2) q3] pos'] [] [] pos) (kTry K tab i j t) := by
  subst hK
  refine ps_mono (ps_try_keep (c := .ref (cl X.K x)) (tb := fun W => upS W t) hs hf hx hN hi hj hln hlj hij hfy hdn hcn hsw ⟨hg, hxd, .inl g.g⟩ tk hb) fun D σ H ⟨G, M, d, hv, h, en⟩ => ?_
  refine ⟨G, M, _, hv, h, ⟨en.nx, en.rt, en.bk, en.ct, fun c e σ' G' M' H' hv' q => ?_⟩⟩
  obtain ⟨p, hp, rfl, q⟩ := q
  refine ⟨p.2, ht p hp, fun hb a na => ?_, fun hb => ?_⟩
  · rw [if_pos hb] at q
    exact en.nx _ _ _ _ (hv'.newG na) (q a (hv'.fr na))
  · rw [if_neg (by rw [hb]; exact Bool.false_ne_true)] at q
    exact en.xc _ _ _ _ _ _ hv' q
/-- isinstance(v, C), where v is an error that is held, or None -/
def kIsX (K : PySem.W.Frag) (c : V) (tab : List (Str × Bool)) : KC := fun vs G M R => match vs with
  | [.non, c'] => c' = c ∧ R (.bl false) G M
  | [.ref a, c'] => c' = c ∧ ∃ p ∈ tab, At G M a (ErA K p.1 none a) ∧ R (.bl p.2) G M
  | _ => False
theorem kc_isX {tab : List (Str × Bool)} {c : V} {cv : Value} (hcv : ClsV c cv) (hn : PySem.W.kitOne X.K (.type "NoneType") cv = some false)
    (ht : ∀ p ∈ tab, ExcC X.K (cl X.K p.1) ∧ PySem.W.kitOne X.K (.ref (cl X.K p.1)) cv = some p.2) : KCall X (.builtin "isinstance") (kIsX X.K c tab) := by
  intro pins s σ H xs us Q I r h
  obtain ⟨G, M, R, hv, h, hR⟩ := h
  match xs, h with
  | [.non, c'], h2 =>
    obtain ⟨rfl, h3⟩ := h2
    exact (call_isi (X := X)) pins s σ H [.non, c'] _ Q I r ⟨_, _, .type "NoneType", _, false, rfl, hcv, .base .non, hn, hR _ _ _ _ hv h3⟩
  | [.ref a, c'], h2 =>
    obtain ⟨rfl, p, hp, ha, h3⟩ := h2
    cases r with
    | cons rx rr =>
      cases rr with
      | cons rt rr =>
        cases rr
        have ec := hcv.eq rt
        subst ec
        cases rx
        obtain ⟨C, e⟩ := ht p hp
        have hH : H a = some (ErA X.K p.1 none a) := hv.at ha
        obtain ⟨⟨oe, vs, hget, hz, hd⟩, _, _⟩ := I.hok a _ hH
        have J : PySem.W.InstAt s.heap a oe (cl X.K p.1) none := by
          obtain ⟨oc, od, oda, osl⟩ := oe
          obtain ⟨h1, h2⟩ := hz
          dsimp only at h1 h2 hd
          subst h1 h2 hd
          exact ⟨hget, rfl, rfl, trivial⟩
        exact PySem.W.kia_one (PySem.W.handS_kitx_exc C.hg C.hk C.hs C.hd C.ha C.hn C.ht C.hm) I.kIn J e (fun z => nomatch z) fun tk => ⟨.bl p.2, H, I.kept (t' := tk) fun _ _ z => z, rfl, hR _ _ _ _ hv h3⟩
/-- the name of an own class -/
theorem je_cls {K : PySem.W.Frag} {x : Str} {pos : Pos} (g : XG X.K X.mg x) (hK : X.K = K := by rfl) (hg : Gl X x := by rfl) (hd : (x == ("__debug__" : Str)) = false := by decide) : JE X W (.Name x pos) (kC (.ref (cl K x))) := by
  subst hK
  exact je_glob g.g rfl hg hd
end
theorem kop_shlW {X : Cx} : KOp X (binaryOp .LShift) (kI CShl fun i j => .int (i * 2 ^ j.toNat)) := kop_I op_shlW
theorem excX {R : KR} {Z : KX} {c : Value} {d : Option Addr} {σ : St} {G : Hp} {M : Mem} (h : Z c d G M) : (ends R Z).xc c d σ G M := ⟨G, M, Wk.refl, h⟩
theorem kit_ref {K : PySem.W.Frag} {t : Value} {C : Addr} {b : Bool} (hc : PySem.W.hasDictIn K C = true) (ht : PySem.W.typeIn K (.ref C) = some (.type "type")) (hs : PySem.W.subIn K (.ref C) (.ref C) = some true) (h : PySem.W.subIn K t (.ref C) = some b) :
    PySem.W.kitOne K t (.ref C) = some b := by
  unfold PySem.W.kitOne
  by_cases e : (t == .ref C) = true
  · rw [if_pos e]
    have e2 : t = .ref C := beq_iff_eq.mp e
    rw [e2, hs] at h
    exact h
  · rw [if_neg e]
    obtain ⟨cd, hcd, _⟩ := PySem.W.any_some hc
    have e1 : ((PySem.W.clsIn K C).isSome && PySem.W.typeIn K (.ref C) == some (.type "type")) = true := by rw [hcd, ht] <;> rfl
    show (if ((PySem.W.clsIn K C).isSome && PySem.W.typeIn K (.ref C) == some (.type "type")) = true then PySem.W.subIn K t (.ref C) else none) = some b
    rw [if_pos e1]
    exact h
theorem kit_tyV {K : PySem.W.Frag} {t : Value} {T : String} {b : Bool} (hm : PySem.W.kitMeta T = true) (hne : (t == .type T) = false) (h : PySem.W.subIn K t (.type T) = some b) : PySem.W.kitOne K t (.type T) = some b := by
  unfold PySem.W.kitOne
  rw [if_neg (by rw [hne]; exact Bool.false_ne_true)]
  show (if PySem.W.kitMeta T = true then PySem.W.subIn K t (.type T) else none) = some b
  rw [if_pos hm]
  exact h
end BT
set_option Elab.async false
set_option linter.all false
set_option maxRecDepth 100000
set_option maxHeartbeats 4000000
namespace BT
open PySem PySem.Spec L2
open PyProof.Rows hiding St
section
variable {X : Cx} {W : WX} {pos p : Pos} {a b : Expr}
/-! ### list(range(..)) -/
def rgL (i j : Int) (G : Hp) (M : Mem) (R : KR) : Prop := RgOk i j ∧ ∀ q, Fr G M q → R (.ref q) G ((q, .lst (rgV i j)) :: M)
def kListR1 (t : KE) : KE := fun σ G M R E => t σ G M (fun x G M => match x with
  | .int n => rgL 0 n G M R
  | _ => False) E
def kListR2 (t u : KE) : KE := fun σ G M R E => t σ G M (fun x G M => u σ G M (fun y G M => match x, y with
  | .int i, .int j => rgL i j G M R
  | _, _ => False) E) E
theorem je_listR1 {t : KE} {p2 pos2 : Pos} (hl : X.mg "list" = none) (hr : X.mg "range" = none) (ha : JE X W a t) (hc : X.calm = true := by rfl) (h1 : Gl X "list" := by rfl) (h2 : Gl X "range" := by rfl)
    (na : starEach [a] X.env = (false, eval a X.env) :: starEach [] X.env := by rfl) (nb : starEach [.Call (.Name "range" p2) [a] [] pos2] X.env = (false, eval (.Call (.Name "range" p2) [a] [] pos2) X.env) :: starEach [] X.env := by rfl) :
    JE X W (.Call (.Name "list" p) [.Call (.Name "range" p2) [a] [] pos2] [] pos) (kListR1 t) :=
  pe_mono (pe_listRg hc h1 hl (prg_1 h2 hr ha na) nb) fun σ H Q ⟨G, M, R, E, hv, h, hR, hE⟩ => ⟨G, M, _, E, hv, h, fun x G1 M1 H1 hv1 q => by
    match x, q with
    | .int n, ⟨q1, q2⟩ => exact ⟨n, rfl, q1, fun w hw => hR _ G1 _ _ (hv1.newM hw) (q2 w (hv1.fr hw))⟩, hE⟩
theorem je_listR2 {t u : KE} {p2 pos2 : Pos} (hl : X.mg "list" = none) (hr : X.mg "range" = none) (ha : JE X W a t) (hb : JE X W b u) (hc : X.calm = true := by rfl) (h1 : Gl X "list" := by rfl) (h2 : Gl X "range" := by rfl)
    (na : starEach [a, b] X.env = (false, eval a X.env) :: starEach [b] X.env := by rfl) (nb : starEach [b] X.env = (false, eval b X.env) :: starEach [] X.env := by rfl) (hp : (backTo pos2 (starEach [b] X.env)).any (·.1) = false := by rfl)
    (nc : starEach [.Call (.Name "range" p2) [a, b] [] pos2] X.env = (false, eval (.Call (.Name "range" p2) [a, b] [] pos2) X.env) :: starEach [] X.env := by rfl) :
    JE X W (.Call (.Name "list" p) [.Call (.Name "range" p2) [a, b] [] pos2] [] pos) (kListR2 t u) :=
  pe_mono (pe_listRg hc h1 hl (prg_2 h2 hr ha hb na nb hp) nc) fun σ H Q ⟨G, M, R, E, hv, h, hR, hE⟩ => ⟨G, M, _, E, hv, h, fun x G1 M1 H1 hv1 q => ⟨G1, M1, _, E, hv1, q, fun y G2 M2 H2 hv2 q => by
    match x, y, q with
    | .int i, .int j, ⟨q1, q2⟩ => exact ⟨i, j, rfl, rfl, q1, fun w hw => hR _ G2 _ _ (hv2.newM hw) (q2 w (hv2.fr hw))⟩, hE⟩, hE⟩
/-! ### an empty dict -/
def kDNew : KE := fun _ G M R _ => ∀ q, Fr G M q → R (.ref q) G ((q, .dK []) :: M)
theorem je_dnew : JE X W (.Dict [] [] pos) kDNew := pe_mono pe_dnewK fun σ H Q ⟨G, M, R, E, hv, h, hR, hE⟩ => fun w hw => hR _ G _ _ (hv.newM hw) (h w (hv.fr hw))
/-! ### constants of the module -/
theorem je_const {x : Str} {v : V} (h : ∃ u, X.mg x = some u ∧ RelV v u) (hg : Gl X x := by rfl) (hd : (x == ("__debug__" : Str)) = false := by decide) : JE X W (.Name x pos) (kC v) := by
  obtain ⟨u, hm, r⟩ := h
  exact je_glob hm r hg hd
/-- a tuple of texts that the module holds -/
def kConT (K : PySem.W.Frag) (x : Str) (xs : List V) : KE := fun _ G M R _ => (∀ H, SqT K H (cl K x) xs) → R (.ref (cl K x)) G M
structure XT (K : PySem.W.Frag) (mg : Str → Option Value) (x : Str) (xs : List V) : Prop where
  g : mg x = some (.ref (cl K x))
  s : ∀ H, SqT K H (cl K x) xs
theorem je_conT {K : PySem.W.Frag} {x : Str} {xs : List V} (h : XT X.K X.mg x xs) (hK : X.K = K := by rfl) (hg : Gl X x := by rfl) (hd : (x == ("__debug__" : Str)) = false := by decide) : JE X W (.Name x pos) (kConT K x xs) := by
  subst hK
  exact pe_mono (je_glob (W := W) (v := .ref (cl X.K x)) h.g rfl hg hd) fun σ H Q ⟨G, M, R, E, hv, q, hR, hE⟩ => ⟨G, M, R, E, hv, q h.s, hR, hE⟩
end
theorem vals_abs : ∀ {us : List Value} {xs : List V}, us.map absV = xs.map some → (∀ x, x ∈ xs → (∃ i, x = .int i) ∨ ∃ s, x = .str s) → Vals xs us
  | [], [], _, _ => .nil
  | [], _ :: _, h, _ => by cases h
  | _ :: _, [], h, _ => by cases h
  | u :: us, x :: xs, h, hx => by
    rw [List.map_cons, List.map_cons] at h
    injection h with h1 h2
    refine .cons ?_ (vals_abs h2 fun y hy => hx y (List.mem_cons_of_mem _ hy))
    rcases hx x List.mem_cons_self with ⟨i, rfl⟩ | ⟨s, rfl⟩
    · cases u <;> simp only [absV] at h1 <;> first | (cases h1; done) | (injection h1 with h1; first | (cases h1; exact ⟨_, rfl⟩) | cases h1)
    · cases u <;> simp only [absV] at h1 <;> first | (cases h1; done) | (injection h1 with h1; first | (cases h1; exact ⟨_, rfl⟩) | cases h1)
theorem xt_mk {K : PySem.W.Frag} {mg : Str → Option Value} {h : Heap} {x : Str} {C : Addr} {xs : List V} {od : Option Addr} {its : Array Value} {n : Nat} {sl : Array (Option Value)} (X : K.In h) (G : h.Ns mainGlobals mg) (a : PySem.W.nsIn K mainGlobals x = some (some (.ref C)))
    (l : K.lookup C = some ⟨.type "tuple", od, .seq its n, sl⟩) (e : its.toList.map absV = xs.map some) (hx : ∀ x, x ∈ xs → (∃ i, x = .int i) ∨ ∃ s, x = .str s) (hs : its.size ≤ 1000) : XT K mg x xs := by
  have ec := cl_of a
  refine ⟨by rw [ec]; exact PySem.W.mg_of X G a, fun H => ?_⟩
  rw [ec]
  exact .inr ⟨_, its, n, l, rfl, rfl, Nat.le_trans hs (by decide), vals_abs e hx⟩
/-! ### sum of a tuple -/
section
variable {prog : Program} {w : World} {A : Around} {E : Value → Shared → Prop} {s : Shared} {l : Addr} {its : List Value} {ns : List Int} {Q : Value → Shared → Prop}
theorem sum_tupT (hh : A.handled = none) (hl : s.heap.IsTuple l its.toArray) (hi : IntsAre its ns)
    (h : ∀ h' tk t', (∀ b o, s.heap.get? b = some o → h'.get? b = some o) → Q (.int ns.sum t') { s with heap := h', toks := tk }) : wpAny (model prog w) A (call (.builtin "sum") [.ref l]) Q E s := by
  obtain ⟨xs, e⟩ := hi.allInts.items
  have hn : numsOf (intItems xs).toList = ns := by rw [← e]; exact hi.numsOf
  rw [nums_intItems] at hn
  rw [e] at hl
  have hlt : l < s.heap.objs.size := by obtain ⟨_, e, _⟩ := hl; exact Heap.lt_size e
  refine call_sum_walkG (wpAny_pyIter_tuple hl ?_)
  refine ⟨_, _, _, _, _, _, numAt xs, rfl, Walks.tuple (A := A.in1) hh _ l (Nat.ne_of_lt hlt) (intItems xs), ⟨⟨_, Heap.get?_push_size _ rfl, rfl, rfl⟩, hl.push _⟩, fun b hb => ?_, (fun _ _ => intItems_at), fun h' tk t' hk => ?_⟩
  · show b < (s.heap.push _).objs.size
    rw [Heap.size_push]
    simp only [List.mem_cons, List.not_mem_nil, or_false] at hb
    rcases hb with z | z
    · rw [z]; exact Nat.lt_succ_self _
    · rw [z]; exact Nat.lt_succ_of_lt hlt
  · have := h h' tk t' fun b o eb => hk b o (fun hm => absurd (Heap.lt_size eb) ((List.mem_singleton.mp hm) ▸ Nat.lt_irrefl _)) (Heap.get?_push_of_some _ eb)
    have e2 : preSum (numAt xs) (intItems xs).size = ns.sum := by
      rw [preSum_eq, List.take_of_length_le (by simp [intItems]), hn]
    rw [e2]; exact this
end
section
variable {X : Cx}
def kSumS (K : PySem.W.Frag) : KC := fun vs G M R => match vs with
  | [.ref a] => ∃ ns : List Int, SeqAt' K G M a (ns.map V.int) ∧ R (.int ns.sum) G M
  | _ => False
theorem kc_sumS (hc : X.calm = true := by rfl) : KCall X (.builtin "sum") (kSumS X.K) := by
  intro pins s σ H vs us Q I r h
  obtain ⟨G, M, R, hv, h, hR⟩ := h
  match vs, h with
  | [.ref a], ⟨ns, h1, h2⟩ =>
    rcases h1 with h1 | h1
    · exact cr_sum hc pins s σ H [.ref a] us Q I r ⟨a, ns, rfl, hv.lst h1, hR _ _ _ _ hv h2⟩
    · obtain ⟨its, rv, ht, _⟩ := I.tuple (ex_t hv.exx h1)
      rw [Vals.ref1 r]
      exact sum_tupT (I.ok.hd hc) ht rv.ints fun h' tk t' hk => ⟨.int _, H, I.kept hk, ⟨_, rfl⟩, hR _ _ _ _ hv h2⟩
end
end BT
set_option Elab.async false
set_option linter.all false
set_option maxRecDepth 100000
set_option maxHeartbeats 4000000
namespace BT
open PySem PySem.Spec L2
open PyProof.Rows hiding St
/-! ### len(set(xs)) of ints -/
theorem dedup_len : ∀ (l acc : List Int), (l.foldl step_dedup acc).length ≤ acc.length + l.length
  | [], acc => Nat.le_refl _
  | x :: l, acc => by
    have h := dedup_len l (step_dedup acc x)
    rw [step_length] at h
    rw [List.foldl_cons, List.length_cons]
    split at h <;> omega
theorem dedup_eq : ∀ (l acc : List Int), (l.foldl step_dedup acc).length = acc.length + l.length ↔ (l.Nodup ∧ ∀ x, x ∈ l → x ∉ acc)
  | [], acc => by simp
  | x :: l, acc => by
    rw [List.foldl_cons, List.length_cons]
    by_cases hx : acc.any (· == x) = true
    · have hm : x ∈ acc := by simpa using hx
      have h := dedup_len l (step_dedup acc x)
      rw [step_length, if_pos hx] at h
      constructor
      · intro e; omega
      · intro e; exact absurd hm (e.2 x List.mem_cons_self)
    · have hm : x ∉ acc := by simpa using hx
      have e1 : step_dedup acc x = acc ++ [x] := by unfold step_dedup; rw [if_neg hx]
      have ih := dedup_eq l (acc ++ [x])
      rw [List.length_append, List.length_singleton] at ih
      rw [e1, show acc.length + (l.length + 1) = acc.length + 1 + l.length by omega, ih, List.nodup_cons]
      constructor
      · rintro ⟨a, b⟩
        refine ⟨⟨fun z => b x z (by simp), a⟩, fun y hy => ?_⟩
        rcases List.mem_cons.mp hy with rfl | hy
        · exact hm
        · exact fun z => b y hy (List.mem_append.mpr (.inl z))
      · rintro ⟨⟨a, b⟩, c⟩
        refine ⟨b, fun y hy z => ?_⟩
        rcases List.mem_append.mp z with z | z
        · exact c y (List.mem_cons_of_mem _ hy) z
        · have : y = x := by simpa using z
          subst this; exact a hy
theorem range_getD (ns : List Int) : (List.range ns.length).map (fun i => ns.getD i 0) = ns := by
  apply List.ext_getElem (by simp)
  intro i h1 h2
  simp [List.getD_eq_getElem?_getD, List.getElem?_eq_getElem h2]
section
variable {X : Cx} {W : WX}
def kLenSet (K : PySem.W.Frag) (t : KE) : KE := fun σ G M R E => t σ G M (fun x G M => match x with
  | .ref a => ∃ ns : List Int, LstAt K G M a (ns.map V.int) ∧ ns.length ≤ 4000 ∧ ∀ m : Nat, m ≤ ns.length → (m = ns.length ↔ ns.Nodup) → R (.int m) G M
  | _ => False) E
theorem je_lenSet {a : Expr} {ta : KE} {p p2 q pos : Pos} (hm : X.mg "len" = none) (hm2 : X.mg "set" = none) (ha : JE X W a ta) (hc : X.calm = true := by rfl) (hg : Gl X "len" := by rfl) (hg2 : Gl X "set" := by rfl)
    (na : starEach [a] X.env = (false, eval a X.env) :: starEach [] X.env := by rfl) : JE X W (.Call (.Name "len" p) [.Call (.Name "set" p2) [a] [] q] [] pos) (kLenSet X.K ta) := by
  refine ⟨fun pins s σ H Q I ⟨G, M, R, E, hv, h, hR, hE⟩ => ?_⟩
  refine Call_ (ld_blt I hg hm PySem.boot_len ?_)
  refine PyProof.Rows.callWith_builtin1 (PyProof.Rows.args_cons ?_ rfl) rfl rfl
  refine Call_ (ld_blt I hg2 hm2 PyProof.Rows.boot_set ?_)
  refine PyProof.Rows.callWith_type1 (PyProof.Rows.args_cons (thn (ha.run pins s σ H (fun x H1 => ∃ (l : Addr) (ns : List Int), x = V.ref l ∧ SqL X.K H1 l (ns.map V.int) ∧ ns.length ≤ 4000 ∧ ∀ m : Nat, m ≤ ns.length → (m = ns.length ↔ ns.Nodup) → Q (.int m) H1) I ?_) fun v s1 ⟨x, H1, I1, r1, q1⟩ => PyProof.Rows.args_nil ?_) na) na rfl
  · refine ⟨G, M, _, E, hv, h, fun x G1 M1 H1 hv1 q => ?_, hE⟩
    match x, q with
    | .ref a, ⟨ns, q1, q2, q3⟩ => exact ⟨a, ns, rfl, hv1.lst q1, q2, fun m e1 e2 => hR _ G1 M1 H1 hv1 (q3 m e1 e2)⟩
  obtain ⟨l, ns, rfl, hq, h1, q1⟩ := q1
  cases r1
  obtain ⟨its, r, pl, hz⟩ := I1.list hq
  have hl : its.toArray.size = ns.length := by rw [List.size_toArray, ← r.length, List.length_map]
  refine call_set_list (I1.ok.hd hc) pl.isList (ns := ns) (by simpa using r.ints) (by unfold scanBound; omega) fun h' tk hS hk => ?_
  rw [hl] at hS
  have em : firstMet (fun i => ns.getD i 0) ns.length = ns.foldl step_dedup [] := by
    unfold firstMet; rw [range_getD]
  rw [em] at hS
  have hle := dedup_len ns []
  have heq := dedup_eq ns []
  rw [List.length_nil, Nat.zero_add] at hle heq
  refine PyProof.Rows.args_nil ?_
  obtain ⟨o, es, ep, t, ho, hex, hd, _, _, _, hf, hn⟩ := hS
  have I2 : Inv X pins σ H1 { s1 with heap := h', toks := tk } := I1.kept fun b o e => hk b o (Heap.lt_size e) e
  refine call_len_set ho hex hd hf (by rw [hn] <;> omega) ⟨.int _, H1, I2.tok _, ⟨_, by rw [hn]⟩, q1 _ hle (heq.trans ⟨fun z => z.1, fun z => ⟨z, fun x _ => by simp⟩⟩)⟩
/-! ### reversed(range(..)) -/
def revR (i j : Int) (R : Src → Hp → Mem → Prop) (G : Hp) (M : Mem) : Prop := (-(2 ^ 62) ≤ i ∧ i < 2 ^ 62 ∧ -(2 ^ 62) ≤ j ∧ j < 2 ^ 62) ∧ R (srcC (i + (((j - i).toNat : Nat) : Int) - 1) (-1) (j - i).toNat) G M
def kiRv1 (t : KE) : KI := fun σ G M R E => t σ G M (fun x G M => match x with
  | .int n => revR 0 n R G M
  | _ => False) E
def kiRv2 (t u : KE) : KI := fun σ G M R E => t σ G M (fun x G M => u σ G M (fun y G M => match x, y with
  | .int i, .int j => revR i j R G M
  | _, _ => False) E) E
theorem ji_rv1 {a tg : Expr} {t : KE} {p p2 pos pos2 : Pos} (hv : X.mg "reversed" = none) (hr : X.mg "range" = none) (ha : JE X W a t) (h1 : Gl X "reversed" := by rfl) (h2 : Gl X "range" := by rfl)
    (na : starEach [a] X.env = (false, eval a X.env) :: starEach [] X.env := by rfl) (nb : starEach [.Call (.Name "range" p2) [a] [] pos2] X.env = (false, eval (.Call (.Name "range" p2) [a] [] pos2) X.env) :: starEach [] X.env := by rfl) :
    JI X W tg (.Call (.Name "reversed" p) [.Call (.Name "range" p2) [a] [] pos2] [] pos) (kiRv1 t) :=
  pi_mono (pi_revR h1 hv (prg_1 h2 hr ha na) nb) fun σ H Q ⟨G, M, R, E, hv, h, hR, hE⟩ => ⟨G, M, _, E, hv, h, fun x G1 M1 H1 hv1 q => by
    match x, q with
    | .int n, ⟨⟨q1, q2, q3, q4⟩, q5⟩ => exact ⟨n, rfl, q1, q2, q3, q4, hR _ G1 M1 H1 hv1 q5 _ goes_C⟩, hE⟩
theorem ji_rv2 {a b tg : Expr} {t u : KE} {p p2 pos pos2 : Pos} (hv : X.mg "reversed" = none) (hr : X.mg "range" = none) (ha : JE X W a t) (hb : JE X W b u) (h1 : Gl X "reversed" := by rfl) (h2 : Gl X "range" := by rfl)
    (na : starEach [a, b] X.env = (false, eval a X.env) :: starEach [b] X.env := by rfl) (nb : starEach [b] X.env = (false, eval b X.env) :: starEach [] X.env := by rfl) (hp : (backTo pos2 (starEach [b] X.env)).any (·.1) = false := by rfl)
    (nc : starEach [.Call (.Name "range" p2) [a, b] [] pos2] X.env = (false, eval (.Call (.Name "range" p2) [a, b] [] pos2) X.env) :: starEach [] X.env := by rfl) :
    JI X W tg (.Call (.Name "reversed" p) [.Call (.Name "range" p2) [a, b] [] pos2] [] pos) (kiRv2 t u) :=
  pi_mono (pi_revR h1 hv (prg_2 h2 hr ha hb na nb hp) nc) fun σ H Q ⟨G, M, R, E, hv, h, hR, hE⟩ => ⟨G, M, _, E, hv, h, fun x G1 M1 H1 hv1 q => ⟨G1, M1, _, E, hv1, q, fun y G2 M2 H2 hv2 q => by
    match x, y, q with
    | .int i, .int j, ⟨⟨q1, q2, q3, q4⟩, q5⟩ => exact ⟨i, j, rfl, rfl, q1, q2, q3, q4, hR _ G2 M2 H2 hv2 q5 _ goes_C⟩, hE⟩, hE⟩
/-! ### index, insert, pop, clear, tuple(), bool() -/
theorem km_index : KMt X "list.index" (kIndex X.K) := kmt_of mt_index fun x vs G M R H Q hv h hR => by
  match x, vs, h with
  | .ref a, [y], ⟨ys, j, z, h1, h2, h3, h4, h5, h6, h7⟩ => exact ⟨a, ys, y, j, z, rfl, rfl, hv.lst h1, h2, h3, h4, h5, h6, hR _ G M H hv h7⟩
def kInsert : KM := fun x vs G M R => match x, vs with
  | .ref a, [.int i, y] => ∃ n xs, M[n]? = some (a, .lst xs) ∧ xs.length < sizeLine ∧ 0 ≤ i ∧ i < 2 ^ 63 ∧ R .non G (M.set n (a, .lst (xs.take i.toNat ++ [y] ++ xs.drop i.toNat)))
  | _, _ => False
theorem km_insert : KMt X "list.insert" kInsert := kmt_of mt_insert fun x vs G M R H Q hv h hR => by
  match x, vs, h with
  | .ref a, [.int i, y], ⟨n, xs, h1, h2, h3, h4, h5⟩ => exact ⟨a, xs, i, y, rfl, rfl, hv.get h1, h2, h3, h4, hR _ G _ _ (hv.set h1) h5⟩
def kTuple (K : PySem.W.Frag) : KC := fun vs G M R => match vs with
  | [.ref a] => (∃ xs, LstAt K G M a xs ∧ ∀ p, Fr G M p → R (.ref p) (upd G p (.tup xs)) M) ∨ ∃ xs, SqT K G a xs ∧ R (.ref a) G M
  | _ => False
theorem kc_tuple : KCall X (.type "tuple") (kTuple X.K) := kcall_of call_tuple_of fun vs G M R H Q hv h hR => by
  match vs, h with
  | [.ref a], .inl ⟨xs, h1, h2⟩ => exact ⟨a, xs, rfl, .inl ⟨hv.lst h1, fun p hp => hR _ _ M _ (hv.newG hp) (h2 p (hv.fr hp))⟩⟩
  | [.ref a], .inr ⟨xs, h1, h2⟩ => exact ⟨a, xs, rfl, .inr ⟨hv.tup h1, hR _ G M H hv h2⟩⟩
def kBool : KC := fun vs G M R => match vs with
  | [.int i] => R (.bl (i != 0)) G M
  | [.bl k] => R (.bl k) G M
  | _ => False
theorem kc_bool : KCall X (.type "bool") kBool := kcall_of call_bool1 fun vs G M R H Q hv h hR => by
  match vs, h with
  | [.int i], h => exact .inl ⟨i, rfl, hR _ G M H hv h⟩
  | [.bl i], h => exact .inr ⟨i, rfl, hR _ G M H hv h⟩
def kPopAt : KM := fun x vs G M R => match x, vs with
  | .ref a, [.int i] => ∃ n xs k y, M[n]? = some (a, .lst xs) ∧ -(2 ^ 63) ≤ i ∧ i < 2 ^ 63 ∧ seqIndex? i xs.length = some k ∧ xs[k]? = some y ∧ R y G (M.set n (a, .lst (xs.eraseIdx k)))
  | _, _ => False
def kPop : KM := fun x vs G M R => match x, vs with
  | .ref a, [] => ∃ n xs y, M[n]? = some (a, .lst xs) ∧ xs[xs.length - 1]? = some y ∧ R y G (M.set n (a, .lst xs.dropLast))
  | _, _ => False
def kClear : KM := fun x vs G M R => match x, vs with
  | .ref a, [] => ∃ n xs, M[n]? = some (a, .lst xs) ∧ R .non G (M.set n (a, .lst []))
  | _, _ => False
theorem km_popAt : KMt X "list.pop" kPopAt := kmt_of mt_popAt fun x vs G M R H Q hv h hR => by
  match x, vs, h with
  | .ref a, [.int i], ⟨n, xs, k, y, h1, h2, h3, h4, h5, h6⟩ => exact ⟨a, xs, i, k, y, rfl, rfl, hv.get h1, h2, h3, h4, h5, hR _ G _ _ (hv.set h1) h6⟩
theorem km_pop : KMt X "list.pop" kPop := kmt_of mt_pop fun x vs G M R H Q hv h hR => by
  match x, vs, h with
  | .ref a, [], ⟨n, xs, y, h1, h2, h3⟩ => exact ⟨a, xs, y, rfl, rfl, hv.get h1, h2, hR _ G _ _ (hv.set h1) h3⟩
theorem km_clear : KMt X "list.clear" kClear := kmt_of mt_clear fun x vs G M R H Q hv h hR => by
  match x, vs, h with
  | .ref a, [], ⟨n, xs, h1, h3⟩ => exact ⟨a, xs, rfl, rfl, hv.get h1, hR _ G _ _ (hv.set h1) h3⟩
/-! ### {k: v, ..} -/
def kPairs : List (KE × KE) → St → Hp → Mem → (List (V × V) → Hp → Mem → Prop) → KX → Prop
  | [], _, G, M, R, _ => R [] G M
  | (tk, tv) :: r, σ, G, M, R, E => tk σ G M (fun x G M => tv σ G M (fun y G M => kPairs r σ G M (fun ps G M => R ((x, y) :: ps) G M) E) E) E
def kDisp (trs : List (KE × KE)) : KE := fun σ G M R E => ∀ p, Fr G M p → kPairs trs σ G ((p, .dK []) :: M) (fun ps G M => ∃ (n : Nat) (kvs : List (Key × V)), M[n]? = some (p, .dK []) ∧ ps = kvs.map (fun kv => (kV kv.1, kv.2)) ∧ kvs.length ≤ 15 ∧ R (.ref p) G (M.set n (p, .dK (mergeK [] kvs)))) E
def JPs (X : Cx) (W : WX) (pos : Pos) (keys : List (Option Expr)) (values : List Expr) (trs : List (KE × KE)) : Prop := PPs X pos keys values (trs.map fun p => (upG W p.1, upG W p.2))
theorem jps_nil {pos : Pos} : JPs X W pos [] [] [] := pps_nil
theorem jps_cons {pos : Pos} {k v : Expr} {ks : List (Option Expr)} {vs : List Expr} {tk tv : KE} {trs : List (KE × KE)} (hk : JE X W k tk) (hv : JE X W v tv) (hr : JPs X W pos ks vs trs) : JPs X W pos (some k :: ks) (v :: vs) ((tk, tv) :: trs) := pps_cons hk hv hr
theorem pairs_sim {σ : St} {E : KX} (hE : ∀ c d G' M' H', Hv G' M' H' → E c d G' M' → W c d σ H') : ∀ (trs : List (KE × KE)) (G : Hp) (M : Mem) (R : List (V × V) → Hp → Mem → Prop) (H : Hp) (Q : List (V × V) → Hp → Prop), Hv G M H → kPairs trs σ G M R E →
    (∀ v G' M' H', Hv G' M' H' → R v G' M' → Q v H') → tPairs (trs.map fun p => (upG W p.1, upG W p.2)) σ H Q
  | [], G, M, R, H, Q, hv, h, hR => hR _ G M H hv h
  | (tk, tv) :: r, G, M, R, H, Q, hv, h, hR => ⟨G, M, _, E, hv, h, fun x G1 M1 H1 hv1 q1 => ⟨G1, M1, _, E, hv1, q1, fun y G2 M2 H2 hv2 q2 => pairs_sim hE r G2 M2 _ H2 _ hv2 q2 fun v G' M' H' hv' q => hR _ G' M' H' hv' q, hE⟩, hE⟩
theorem je_disp {pos : Pos} {keys : List (Option Expr)} {values : List Expr} {trs : List (KE × KE)} (h : JPs X W pos keys values trs) (hall : keys.all (·.isSome) = true := by rfl) (hl : keys.length = values.length := by rfl) (h0 : keys ≠ [] := by exact fun z => nomatch z) (h15 : keys.length ≤ 15 := by decide) :
    JE X W (.Dict keys values pos) (kDisp trs) := pe_mono (pe_disp h hall hl h0 h15) fun σ H Q ⟨G, M, R, E, hv, h, hR, hE⟩ => fun p hp =>
  pairs_sim hE trs G _ _ _ _ (hv.newM hp) (h p (hv.fr hp)) fun ps G' M' H' hv' ⟨n, kvs, q1, q2, q3, q4⟩ => ⟨hv'.get q1, kvs, q2, q3, hR _ G' _ _ (hv'.set q1) q4⟩
end
end BT
namespace BT
open PySem PySem.Spec L2
/-- what is walked, behind which something may be forgotten -/
def kiW (t : KI) : KI := fun σ G M R E => t σ G M (fun src G M => ∃ G' M', Wk G M G' M' ∧ R src G' M') E
theorem ji_w {X : Cx} {W : WX} {tg it : Expr} {t : KI} (h : JI X W tg it t) : JI X W tg it (kiW t) := pi_mono h fun σ H Q ⟨G, M, R, E, hv, h, hR, hE⟩ =>
  ⟨G, M, _, E, hv, h, fun src G1 M1 H1 hv1 ⟨G2, M2, w, q⟩ J go => hR src G2 M2 H1 (w H1 hv1) q J go, hE⟩
end BT
set_option Elab.async false
set_option linter.all false
set_option maxRecDepth 100000
set_option maxHeartbeats 4000000
namespace BT
open PySem PySem.Spec L2
open PyProof.Rows hiding St
/-! ### objects: the program's classes by number, their attributes by place -/
def clsN : Nat → Str × List Str
  | 0 => ("Plain", ["words"])
  | 1 => ("Keeper", ["log"])
  | 2 => ("Shelf", ["keeper", "number", "things"])
  | 3 => ("Scan", ["cells", "limit", "draws", "keeper", "made", "shelf"])
  | 4 => ("Spare", ["cells", "limit", "draws", "keeper", "made", "side", "order", "shelf", "hand"])
  | 5 => ("Stairs", ["cells", "limit", "draws", "keeper", "made", "climb", "hand", "shelves", "orders"])
  | 6 => ("Tree", ["cells", "limit", "draws", "keeper", "made", "body", "table"])
  | 7 => ("Grove", ["cells", "limit", "draws", "keeper", "made", "highs", "bodies", "start", "table"])
  | 8 => ("Body", ["shelf", "high", "firsts", "hand"])
  | 9 => ("Climb", ["cells", "last", "full", "drawn", "home", "held"])
  | 10 => ("Runner", ["program", "slates", "place"])
  | _ => ("Desk", ["stores"])
theorem cls_all {P : Str × List Str → Prop} (h : ∀ k, k < 12 → P (clsN k)) : ∀ k, P (clsN k) := fun k => by
  by_cases e : k < 12
  · exact h k e
  · have : clsN k = clsN 11 := by
      unfold clsN
      split <;> first | omega | rfl
    rw [this]; exact h 11 (by decide)
theorem cls_nodup : ∀ k, (clsN k).2.Nodup := cls_all (P := fun x => x.2.Nodup) (by decide +kernel)
theorem cls_few : ∀ k, (clsN k).2.length < 20 := cls_all (P := fun x => x.2.length < 20) (by decide +kernel)
def Ob (K : PySem.W.Frag) (k : Nat) (dx : Addr) (vs : List V) : HO := .ins (cl K (clsN k).1) dx ((clsN k).2.zip vs)
def putV : Nat → V → List V → List V
  | 0, y, [] => [y]
  | 0, y, _ :: r => y :: r
  | n + 1, y, x :: r => x :: putV n y r
  | _ + 1, _, [] => []
theorem zip_lookup : ∀ (ns : List Str) (vs : List V) (i : Nat) (f : Str), ns.Nodup → ns[i]? = some f → (ns.zip vs).lookup f = vs[i]?
  | [], _, _, _, _, h => by simp at h
  | n :: ns, [], i, f, _, _ => by simp
  | n :: ns, v :: vs, 0, f, _, h => by
    have e : n = f := by simpa using h
    subst e
    simp [List.zip_cons_cons, List.lookup]
  | n :: ns, v :: vs, i + 1, f, hn, h => by
    rw [List.nodup_cons] at hn
    have h2 : ns[i]? = some f := by simpa using h
    have ne : (f == n) = false := by
      rw [beq_eq_false_iff_ne]
      intro z
      exact hn.1 (z ▸ List.mem_of_getElem? h2)
    rw [List.zip_cons_cons, List.lookup, ne]
    simp only []
    rw [zip_lookup ns vs i f hn.2 h2]; simp
theorem zip_none : ∀ (ns : List Str) (vs : List V) (f : Str), f ∉ ns → (ns.zip vs).lookup f = none
  | [], _, _, _ => by simp
  | n :: ns, [], f, _ => by simp
  | n :: ns, v :: vs, f, h => by
    have ne : (f == n) = false := by
      rw [beq_eq_false_iff_ne]
      intro z
      exact h (z ▸ List.mem_cons_self)
    rw [List.zip_cons_cons, List.lookup, ne]
    exact zip_none ns vs f fun z => h (List.mem_cons_of_mem _ z)
theorem zip_put : ∀ (ns : List Str) (vs : List V) (i : Nat) (f : Str) (y : V), ns.Nodup → ns[i]? = some f → i ≤ vs.length → putF f y (ns.zip vs) = ns.zip (putV i y vs)
  | [], _, _, _, _, _, h, _ => by simp at h
  | n :: ns, [], 0, f, y, _, h, _ => by
    have e : n = f := by simpa using h
    subst e
    cases ns <;> rfl
  | n :: ns, [], i + 1, f, y, _, _, h => by simp at h
  | n :: ns, v :: vs, 0, f, y, _, h, _ => by
    have e : n = f := by simpa using h
    subst e
    show putF n y ((n, v) :: ns.zip vs) = _
    unfold putF
    rw [if_pos rfl]; rfl
  | n :: ns, v :: vs, i + 1, f, y, hn, h, hi => by
    rw [List.nodup_cons] at hn
    have h2 : ns[i]? = some f := by simpa using h
    have ne : ¬ n = f := fun z => hn.1 (z ▸ List.mem_of_getElem? h2)
    show putF f y ((n, v) :: ns.zip vs) = _
    unfold putF
    rw [if_neg ne, zip_put ns vs i f y hn.2 h2 (by simpa using hi)]; rfl
/-- what of the text a class must have -/
structure CK (K : PySem.W.Frag) (k : Nat) : Prop where
  cls : Cls K (cl K (clsN k).1)
  na : ∀ f ∈ (clsN k).2, NoAttr K (cl K (clsN k).1) f
theorem lookup_mem {α β : Type} [BEq α] [LawfulBEq α] : ∀ {l : List (α × β)} {a : α} {b : β}, l.lookup a = some b → (a, b) ∈ l
  | [], _, _, h => by simp at h
  | (x, y) :: l, a, b, h => by
    rw [List.lookup] at h
    split at h
    · rename_i e
      have e := eq_of_beq e
      cases h; subst e; exact List.mem_cons_self
    · exact List.mem_cons_of_mem _ (lookup_mem h)
section
variable {X : Cx} {W : WX} {pos : Pos}
/-- e.f; tab: the classes that have it, and its place -/
def kFld (K : PySem.W.Frag) (tab : List (Nat × Nat)) (t : KE) : KE := fun σ G M R E => t σ G M (fun x G M => match x with
  | .ref a => ∃ (k : Nat) (dx : Addr) (vs : List V) (i : Nat) (v : V), At G M a (Ob K k dx vs) ∧ tab.lookup k = some i ∧ vs[i]? = some v ∧ R v G M
  | _ => False) E
theorem je_fld {e : Expr} {f : Str} {tab : List (Nat × Nat)} {t : KE} (he : JE X W e t) (ht : ∀ p ∈ tab, CK X.K p.1 ∧ (clsN p.1).2[p.2]? = some f) (hb : attributeBase e f X.env (eval e X.env) = eval e X.env := by rfl) : JE X W (.Attribute e f pos) (kFld X.K tab t) :=
  pe_mono (pe_fld he hb) fun σ H Q ⟨G, M, R, E, hv, h, hR, hE⟩ => ⟨G, M, _, E, hv, h, fun x G1 M1 H1 hv1 q => by
    match x, q with
    | .ref a, ⟨k, dx, vs, i, v, q1, q2, q3, q4⟩ =>
      obtain ⟨ck, hf⟩ := ht (k, i) (lookup_mem q2)
      exact ⟨a, _, dx, _, v, rfl, hv1.at q1, ck.cls, ck.na f (List.mem_of_getElem? hf), by rw [zip_lookup _ _ i f (cls_nodup k) hf]; exact q3, hR _ G1 M1 H1 hv1 q4⟩, hE⟩
/-- o.f = e -/
def kFSet (K : PySem.W.Frag) (tab : List (Nat × Nat)) (to tv : KE) : KS := fun D σ G M => tv σ G M (fun y G M => to σ G M (fun x G M => match x with
  | .ref a => ∃ (n k : Nat) (dx : Addr) (vs : List V) (i : Nat), M[n]? = some (a, Ob K k dx vs) ∧ tab.lookup k = some i ∧ i ≤ vs.length ∧ D.nx σ G (M.set n (a, Ob K k dx (putV i y vs)))
  | _ => False) (D.x σ)) (D.x σ)
theorem js_fset {o value : Expr} {f : Str} {tab : List (Nat × Nat)} {to tv : KE} {pos' : Pos} (ho : JE X W o to) (hv : JE X W value tv) (ht : ∀ p ∈ tab, CK X.K p.1 ∧ (clsN p.1).2[p.2]? = some f)
    (hs : swapsWith value (some (.Attribute o f pos')) pos.line X.env = pure false := by rfl) : JS X W (.Assign [.Attribute o f pos'] value pos) (kFSet X.K tab to tv) :=
  ps_mono (ps_fld ho hv hs) fun D σ H ⟨G, M, d, hv, h, en⟩ => ⟨G, M, _, _, hv, h, fun y G1 M1 H1 hv1 q => ⟨G1, M1, _, _, hv1, q, fun x G2 M2 H2 hv2 q2 => by
    match x, q2 with
    | .ref a, ⟨n, k, dx, vs, i, q3, q4, q5, q6⟩ =>
      obtain ⟨ck, hf⟩ := ht (k, i) (lookup_mem q4)
      refine ⟨a, _, dx, _, rfl, hv2.get q3, ck.cls, ck.na f (List.mem_of_getElem? hf), ?_, ?_⟩
      · have := cls_few k
        rw [List.length_zip]; omega
      · rw [zip_put _ _ i f y (cls_nodup k) hf q5]
        exact en.nx _ G2 _ _ (hv2.set q3) q6, fun c a G' M' H' hv' q => en.xc c a σ G' M' H' hv' q⟩, fun c a G' M' H' hv' q => en.xc c a σ G' M' H' hv' q⟩
/-- a method that keeps its promise, of the class k -/
structure MDef (P : Program) (w : World) (K : PySem.W.Frag) (mg : Str → Option Value) (base : Heap) (lev : Nat) (k : Nat) (m : Str) (S : KSp) : Prop where
  ex : ∃ f fd ps, FnOk P w K mg base (L2.CX P w) lev f fd ps (lift S) ∧ Meth K (cl K (clsN k).1) m f ∧ Binds K fd ps []
  ck : CK K k
  no : m ∉ (clsN k).2
theorem MDef.mono {P : Program} {w : World} {K : PySem.W.Frag} {mg : Str → Option Value} {base : Heap} {lev lev' k : Nat} {m : Str} {S : KSp} (D : MDef P w K mg base lev k m S) (h : lev ≤ lev') : MDef P w K mg base lev' k m S := by
  obtain ⟨⟨f, fd, ps, F, a, b⟩, c, d⟩ := D
  exact ⟨⟨f, fd, ps, F.mono h, a, b⟩, c, d⟩
def kMeth (K : PySem.W.Frag) (tab : List (Nat × KSp)) (to : KE) (t : KA) : KE := fun σ G M R E => to σ G M (fun x G M => match x with
  | .ref a => ∃ (k : Nat) (dx : Addr) (vs : List V) (S : KSp), At G M a (Ob K k dx vs) ∧ tab.lookup k = some S ∧ t σ G M (fun ws G M => S (.ref a :: ws) G M R E) E
  | _ => False) E
theorem je_meth {pl : Sem Bool} {o e : Expr} {es : List Expr} {m : Str} {apos : Pos} {tab : List (Nat × KSp)} {k : Nat} {to : KE} {t : KA} (D : ∀ p ∈ tab, MDef X.prog X.w X.K X.mg X.base k p.1 m p.2) (hr : Room k X.A) (tk : Takes X W) (ho : JE X W o to) (ha : JA X W (e :: es) t)
    (hst : starEach (e :: es) X.env = (false, eval e X.env) :: starEach es X.env := by rfl) (hpl : (backTo pos (starEach es X.env)).any (·.1) = false := by rfl)
    (ht : eval (.Call (.Attribute o m apos) (e :: es) [] pos) X.env = (do
      let ov ← eval o X.env
      standAt apos.atName
      let (f, first) ← holding [ov] (getMethod ov m pl)
      callWith pos f first (backTo pos (starEach (e :: es) X.env)) (backToKw pos (keywordEach [] X.env))) := by rfl) :
    JE X W (.Call (.Attribute o m apos) (e :: es) [] pos) (kMeth X.K tab to t) := by
  refine ⟨fun pins s σ H Q I ⟨G, M, R, E, hv, h, hR, hE⟩ => ?_⟩
  refine PySem.W.methodCall_KW (pl := pl) (thn (ho.run pins s σ H (fun x H1 => ∃ (a k : Nat) (dx : Addr) (vs : List V) (S : KSp), x = .ref a ∧ H1 a = some (Ob X.K k dx vs) ∧ tab.lookup k = some S ∧ upG W t σ H1 fun ws H2 => lift S (.ref a :: ws) H2 Q (WE W σ)) I ?_) fun u s1 ⟨x, H1, I1, rx, a, k, dx, vs, S, ex, ea, l, q⟩ => ?_) ht
  · refine ⟨G, M, _, E, hv, h, fun x G1 M1 H1 hv1 q => ?_, hE⟩
    match x, q with
    | .ref a, ⟨k, dx, vs, S, q1, q2, q3⟩ => exact ⟨a, k, dx, vs, S, rfl, hv1.at q1, q2, G1, M1, _, E, hv1, q3, fun ws G2 M2 H2 hv2 q4 => ⟨G2, M2, R, E, hv2, q4, hR, hE⟩, hE⟩
  subst ex
  obtain rfl : u = Value.ref a := rx
  obtain ⟨⟨f, fd, ps, F, mt, hb⟩, ck, no⟩ := D (k, S) (lookup_mem l)
  refine getmeth_ok I1 ea ck.cls mt (zip_none _ _ _ no) ?_
  refine PySem.W.callWith_K (first := [.ref a]) (h₀ := X.base) I.ok.mod.kin mt.kp (thn (ha.run pos pins s1 σ H1 _ I1 q) fun us s2 ⟨vs, H2, I2, r, q2⟩ => ⟨I2.kIn, ?_⟩) hst hpl
  exact run_fnS (us := .ref a :: us) (vs := .ref a :: vs) F hr hb (passAt tk σ) I2 (.cons rfl r) q2
theorem je_meth0 {pl : Sem Bool} {o : Expr} {m : Str} {apos : Pos} {tab : List (Nat × KSp)} {k : Nat} {to : KE} (D : ∀ p ∈ tab, MDef X.prog X.w X.K X.mg X.base k p.1 m p.2) (hr : Room k X.A) (tk : Takes X W) (ho : JE X W o to)
    (ht : eval (.Call (.Attribute o m apos) [] [] pos) X.env = (do
      let ov ← eval o X.env
      standAt apos.atName
      let (f, first) ← holding [ov] (getMethod ov m pl)
      callWith pos f first (backTo pos (starEach [] X.env)) (backToKw pos (keywordEach [] X.env))) := by rfl) :
    JE X W (.Call (.Attribute o m apos) [] [] pos) (kMeth X.K tab to kNil) := by
  refine ⟨fun pins s σ H Q I ⟨G, M, R, E, hv, h, hR, hE⟩ => ?_⟩
  refine PySem.W.methodCall_KW (pl := pl) (thn (ho.run pins s σ H (fun x H1 => ∃ (a k : Nat) (dx : Addr) (vs : List V) (S : KSp), x = .ref a ∧ H1 a = some (Ob X.K k dx vs) ∧ tab.lookup k = some S ∧ lift S [.ref a] H1 Q (WE W σ)) I ?_) fun u s1 ⟨x, H1, I1, rx, a, k, dx, vs, S, ex, ea, l, q⟩ => ?_) ht
  · refine ⟨G, M, _, E, hv, h, fun x G1 M1 H1 hv1 q => ?_, hE⟩
    match x, q with
    | .ref a, ⟨k, dx, vs, S, q1, q2, q3⟩ => exact ⟨a, k, dx, vs, S, rfl, hv1.at q1, q2, G1, M1, R, E, hv1, q3, hR, hE⟩
  subst ex
  obtain rfl : u = Value.ref a := rx
  obtain ⟨⟨f, fd, ps, F, mt, hb⟩, ck, no⟩ := D (k, S) (lookup_mem l)
  refine getmeth_ok I1 ea ck.cls mt (zip_none _ _ _ no) ?_
  exact PySem.W.callWith_K0 (first := [.ref a]) I1.kIn mt.kp (run_fnS (us := [.ref a]) (vs := [.ref a]) F hr hb (passAt tk σ) I1 (.cons rfl .nil) q)
/-! C(..) -/
theorem run_makeS {CX : CXT} {k : Nat} {C f : Addr} {fd : FuncData} {ps : List Str} {sp : Sp} {E : XK} {pins : List (Addr × Obj)} {σ : St} {H : Hp} {s : Shared} {Q : VK} {us : List Value} {vs : List V} (M : Mk X.K C f) (F : FnOk X.prog X.w X.K X.mg X.base CX k f fd ps sp) (hr : Room (k + 1) X.A) (hb : Binds X.K fd ps [])
    (hx : PassesAt CX X σ E) (I : Inv X pins σ H s) (r : Vals vs us)
    (h : ∀ x dx, H x = none → H dx = none → dx ≠ x → sp (.ref x :: vs) (upd (upd H dx (.own x)) x (.ins C dx [])) (fun v H2 => v = .non ∧ Q (.ref x) H2) E) :
    wpAny (model X.prog X.w) X.A (call (.ref C) us) (EP X pins σ Q) X.xe s := by
  have hq := h (s.heap.objs.size + 1) s.heap.objs.size (I.hok.fresh (Nat.le_succ _)) (I.hok.fresh (Nat.le_refl _)) (Nat.ne_of_lt (Nat.lt_succ_self _))
  have I2 := Inv.made (C := C) I
  have r2 : Vals (V.ref (s.heap.objs.size + 1) :: vs) (Value.ref (s.heap.objs.size + 1) :: us) := .cons rfl r
  have hl : (Value.ref (s.heap.objs.size + 1) :: us ++ []).length = ps.length := by
    have e := r2.length
    rw [F.len _ _ _ _ hq] at e
    rw [List.append_nil]
    exact e.symm
  have hb2 := hb _ (Value.ref (s.heap.objs.size + 1) :: us) I2.kIn hl
  rw [List.append_nil] at hb2
  refine wpAny_call (make_map (f := f) I.kIn M.makes M.init (beq_iff_eq.mp M.fn) (codeAny_mono (F.run _ X.stack _ _ ⟨Value.ref (s.heap.objs.size + 1) :: us, []⟩ (Value.ref (s.heap.objs.size + 1) :: us) _ _ E (hr.make C us [])
    (I2.env0.make C us []) hb2 r2 hq) fun r s' hq' => ?_))
  cases r with
  | error e => exact hx pins _ _ e s' I2 hq'
  | ok fl =>
    cases fl with
    | ret u =>
      obtain ⟨v, H', I3, rv, ev, q3⟩ := I2.after hq'
      subst ev
      exact ⟨rv, ⟨V.ref (s.heap.objs.size + 1), H', I3, rfl, q3⟩⟩
    | next => exact False.elim hq'
    | brk => exact False.elim hq'
    | cont => exact False.elim hq'
structure CDef (P : Program) (w : World) (K : PySem.W.Frag) (mg : Str → Option Value) (base : Heap) (lev : Nat) (k : Nat) (x : Str) (S : KSp) : Prop where
  ex : ∃ f fd ps, FnOk P w K mg base (L2.CX P w) lev f fd ps (lift S) ∧ Mk K (cl K (clsN k).1) f ∧ Binds K fd ps []
  g : mg x = some (.ref (cl K (clsN k).1))
def kMake (K : PySem.W.Frag) (k : Nat) (S : KSp) (t : KA) : KE := fun σ G M R E => t σ G M (fun vs G M => ∀ x dx, Fr G M x → S (.ref x :: vs) G ((x, Ob K k dx []) :: M) (fun v G M => v = .non ∧ R (.ref x) G M) E) E
theorem ob_nil {K : PySem.W.Frag} {k : Nat} {dx : Addr} : Ob K k dx [] = .ins (cl K (clsN k).1) dx [] := by unfold Ob; rw [List.zip_nil_right]
theorem make_sim {k : Nat} {S : KSp} {σ : St} {vs : List V} {G : Hp} {M : Mem} {R : KR} {E : KX} {H : Hp} {Q : VK} (hv : Hv G M H) (q : ∀ x dx, Fr G M x → S (.ref x :: vs) G ((x, Ob X.K k dx []) :: M) (fun v G M => v = .non ∧ R (.ref x) G M) E)
    (hR : ∀ v G' M' H', Hv G' M' H' → R v G' M' → Q v H') (hE : ∀ c d G' M' H', Hv G' M' H' → E c d G' M' → W c d σ H') (x dx : Addr) (hx : H x = none) (hd : H dx = none) (hne : dx ≠ x) :
    lift S (.ref x :: vs) (upd (upd H dx (.own x)) x (.ins (cl X.K (clsN k).1) dx [])) (fun v H2 => v = .non ∧ Q (.ref x) H2) (WE W σ) := by
  have h1 : Hv G M (upd H dx (.own x)) := hv.junk hd
  have h2 : (upd H dx (.own x)) x = none := by rw [upd_ne (Ne.symm hne)]; exact hx
  refine ⟨G, _, fun v G M => v = .non ∧ R (.ref x) G M, E, h1.newM (o := .ins (cl X.K (clsN k).1) dx []) h2, by rw [← ob_nil]; exact q x dx (hv.fr hx), fun v G' M' H' hv' q => ⟨q.1, hR _ G' M' H' hv' q.2⟩, fun c d G' M' H' hv' q => hE c d G' M' H' hv' q⟩
theorem je_make {k lev cid : Nat} {x : Str} {p : Pos} {e : Expr} {es : List Expr} {S : KSp} {t : KA} (D : CDef X.prog X.w X.K X.mg X.base lev cid x S) (hk : PySem.W.keepIn X.K (.ref (cl X.K (clsN cid).1)) = true) (hr : Room k X.A) (tk : Takes X W) (ha : JA X W (e :: es) t) (hl : lev + 1 ≤ k := by decide) (hg : Gl X x := by rfl)
    (hdb : (x == ("__debug__" : Str)) = false := by decide) (he : starEach (e :: es) X.env = (false, eval e X.env) :: starEach es X.env := by rfl) (hpl : (backTo pos (starEach es X.env)).any (·.1) = false := by rfl) :
    JE X W (.Call (.Name x p) (e :: es) [] pos) (kMake X.K cid S t) := by
  obtain ⟨⟨f, fd, ps, F, mk, hb⟩, hm⟩ := D
  obtain ⟨k', rfl⟩ : ∃ k', k = k' + 1 := ⟨k - 1, by omega⟩
  refine ⟨fun pins s σ H Q I ⟨G, M, R, E, hv, h, hR, hE⟩ => ?_⟩
  refine wpAny_Call_Name_kw (ld_glob I hg hm ?_ hdb)
  refine PySem.W.callWith_K (h₀ := X.base) I.ok.mod.kin hk (thn (ha.run pos pins s σ H (fun vs H1 => ∀ x dx, H1 x = none → H1 dx = none → dx ≠ x → lift S (.ref x :: vs) (upd (upd H1 dx (.own x)) x (.ins (cl X.K (clsN cid).1) dx [])) (fun v H2 => v = .non ∧ Q (.ref x) H2) (WE W σ)) I ?_) fun us s1 ⟨vs, H1, I1, r, q⟩ => ⟨I1.kIn, ?_⟩) he hpl
  · exact ⟨G, M, _, E, hv, h, fun vs G1 M1 H1 hv1 q x dx hx hd hne => make_sim hv1 q hR hE x dx hx hd hne, hE⟩
  · exact run_makeS mk (F.mono (by omega)) hr hb (passAt tk σ) I1 r q
theorem je_make0 {k lev cid : Nat} {x : Str} {p : Pos} {S : KSp} (D : CDef X.prog X.w X.K X.mg X.base lev cid x S) (hk : PySem.W.keepIn X.K (.ref (cl X.K (clsN cid).1)) = true) (hr : Room k X.A) (tk : Takes X W) (hl : lev + 1 ≤ k := by decide) (hg : Gl X x := by rfl)
    (hdb : (x == ("__debug__" : Str)) = false := by decide) : JE X W (.Call (.Name x p) [] [] pos) (kMake X.K cid S kNil) := by
  obtain ⟨⟨f, fd, ps, F, mk, hb⟩, hm⟩ := D
  obtain ⟨k', rfl⟩ : ∃ k', k = k' + 1 := ⟨k - 1, by omega⟩
  refine ⟨fun pins s σ H Q I ⟨G, M, R, E, hv, h, hR, hE⟩ => ?_⟩
  refine wpAny_Call_Name_kw (ld_glob I hg hm ?_ hdb)
  refine PySem.W.callWith_K0 I.kIn hk (run_makeS (us := []) (vs := []) mk (F.mono (by omega)) hr hb (passAt tk σ) I .nil fun x dx hx hd hne => make_sim hv h hR hE x dx hx hd hne)
/-! C.m(self, ..), m a def of the class C -/
structure FDef (P : Program) (w : World) (K : PySem.W.Frag) (mg : Str → Option Value) (base : Heap) (lev : Nat) (x m : Str) (S : KSp) : Prop where
  ex : ∃ f fd ps, FnOk P w K mg base (L2.CX P w) lev f fd ps (lift S) ∧ PySem.W.findCls K (.ref (cl K x)) (.type "type") m = some (.val (.ref f)) ∧ Binds K fd ps [] ∧ PySem.W.keepIn K (.ref f) = true
  g : mg x = some (.ref (cl K x))
  rd : PySem.W.readsIn K (cl K x) (.type "type") = true
  ga : PySem.W.specialIn K (.ref (cl K x)) "__getattribute__" = some (some (.builtin "type.__getattribute__"))
theorem je_clsCall {pl : Sem Bool} {k lev : Nat} {x m : Str} {p apos : Pos} {e : Expr} {es : List Expr} {S : KSp} {t : KA} (D : FDef X.prog X.w X.K X.mg X.base lev x m S) (hr : Room k X.A) (tk : Takes X W) (ha : JA X W (e :: es) t) (hl : lev ≤ k := by decide) (hg : Gl X x := by rfl)
    (hdb : (x == ("__debug__" : Str)) = false := by decide) (hst : starEach (e :: es) X.env = (false, eval e X.env) :: starEach es X.env := by rfl) (hpl : (backTo pos (starEach es X.env)).any (·.1) = false := by rfl)
    (ht : eval (.Call (.Attribute (.Name x p) m apos) (e :: es) [] pos) X.env = (do
      let ov ← eval (.Name x p) X.env
      standAt apos.atName
      let (f, first) ← holding [ov] (getMethod ov m pl)
      callWith pos f first (backTo pos (starEach (e :: es) X.env)) (backToKw pos (keywordEach [] X.env))) := by rfl) :
    JE X W (.Call (.Attribute (.Name x p) m apos) (e :: es) [] pos) (kCall S t) := by
  obtain ⟨⟨f, fd, ps, F, hf, hb, hkp⟩, hm, rd, ga⟩ := D
  refine ⟨fun pins s σ H Q I ⟨G, M, R, E, hv, h, hR, hE⟩ => ?_⟩
  refine PySem.W.methodCall_KW (pl := pl) (ld_glob I hg hm ?_ hdb) ht
  refine PySem.W.method_cls I.kIn ga (PySem.W.cls_value I.kIn rd hf rfl ?_)
  refine PySem.W.callWith_K (first := []) (h₀ := X.base) I.ok.mod.kin hkp (thn (ha.run pos pins _ σ H (fun vs H1 => lift S vs H1 Q (WE W σ)) (I.tok _) ?_) fun us s2 ⟨vs, H2, I2, r, q2⟩ => ⟨I2.kIn, ?_⟩) hst hpl
  · exact ⟨G, M, _, E, hv, h, fun vs G1 M1 H1 hv1 q => ⟨G1, M1, R, E, hv1, q, hR, hE⟩, hE⟩
  · exact run_fnS (us := us) (vs := vs) (F.mono hl) hr hb (passAt tk σ) I2 r q2
end
end BT
namespace BT
open PySem PySem.Spec L2
open PyProof.Rows hiding St
section
variable {P : Program} {w : World} {K : PySem.W.Frag} {mg : Str → Option Value} {base : Heap} {k lev : Nat} {C f : Addr} {fd : FuncData} {ps : List Str} {S : KSp} {x m : Str}
theorem ck_mk (a : PySem.W.nsIn K mainGlobals (clsN k).1 = some (some (.ref C))) (h1 : PySem.W.plainGet K C Str.empty = true) (h2 : PySem.W.hasDictIn K C = true) (h3 : PySem.W.plainOver K C = true)
    (h4 : PySem.W.findIn K (.ref C) "__setattr__" = some (some (.builtin "object.__setattr__"))) (h5 : ∀ f ∈ (clsN k).2, PySem.W.findIn K (.ref C) f = some none) : CK K k := by
  have e := cl_of a
  exact ⟨by rw [e]; exact ⟨h1, h2, h3, h4⟩, by rw [e]; exact h5⟩
theorem keep_mk (a : PySem.W.nsIn K mainGlobals (clsN k).1 = some (some (.ref C))) (h : PySem.W.keepIn K (.ref C) = true) : PySem.W.keepIn K (.ref (cl K (clsN k).1)) = true := by
  rw [cl_of a]; exact h
theorem cd_mk (hx : (clsN k).1 = x) (a : PySem.W.nsIn K mainGlobals (clsN k).1 = some (some (.ref C))) (g : mg x = some (.ref C)) (F : FnOk P w K mg base (L2.CX P w) lev f fd ps (lift S)) (h1 : PySem.W.makesIn K C = true) (h2 : PySem.W.findIn K (.ref C) "__init__" = some (some (.ref f)))
    (h3 : PySem.W.isFn K (.ref f) = true) (h4 : PySem.W.keepIn K (.ref C) = true) (b : Binds K fd ps []) : CDef P w K mg base lev k x S := by
  have e := cl_of a
  exact ⟨⟨f, fd, ps, F, by rw [e]; exact ⟨h1, h2, h3, h4⟩, b⟩, by rw [e]; exact g⟩
theorem md_mk (a : PySem.W.nsIn K mainGlobals (clsN k).1 = some (some (.ref C))) (F : FnOk P w K mg base (L2.CX P w) lev f fd ps (lift S)) (h1 : PySem.W.findIn K (.ref C) m = some (some (.ref f))) (h2 : PySem.W.isFn K (.ref f) = true) (h3 : PySem.W.keepIn K (.ref f) = true) (b : Binds K fd ps [])
    (ck : CK K k) (no : m ∉ (clsN k).2) : MDef P w K mg base lev k m S := by
  have e := cl_of a
  exact ⟨⟨f, fd, ps, F, by rw [e]; exact ⟨h1, h2, h3⟩, b⟩, ck, no⟩
theorem fd_mk (a : PySem.W.nsIn K mainGlobals x = some (some (.ref C))) (g : mg x = some (.ref C)) (F : FnOk P w K mg base (L2.CX P w) lev f fd ps (lift S)) (h1 : PySem.W.findCls K (.ref C) (.type "type") m = some (.val (.ref f))) (b : Binds K fd ps []) (h2 : PySem.W.keepIn K (.ref f) = true)
    (h3 : PySem.W.readsIn K C (.type "type") = true) (h4 : PySem.W.specialIn K (.ref C) "__getattribute__" = some (some (.builtin "type.__getattribute__"))) : FDef P w K mg base lev x m S := by
  have e := cl_of a
  exact ⟨⟨f, fd, ps, F, by rw [e]; exact h1, b, h2⟩, by rw [e]; exact g, by rw [e]; exact h3, by rw [e]; exact h4⟩
end
end BT
set_option Elab.async false
set_option linter.all false
set_option maxRecDepth 100000
set_option maxHeartbeats 4000000
namespace BT
open PySem PySem.Spec L2
open PyProof.Rows hiding St
/-! ### dicts whose keys are ints and texts -/
section
variable {X : Cx} {W : WX} {pos : Pos} {o i e f : Expr}
def kDIn (neg : Bool) (ty td : KE) : KE := fun σ G M R E => ty σ G M (fun y G M => td σ G M (fun x G M => match x with
  | .ref a => ∃ (kvs : List (Key × V)) (k : Key), At G M a (.dK kvs) ∧ y = kV k ∧ R (.bl (if neg then !(valV kvs k).isSome else (valV kvs k).isSome)) G M
  | _ => False) E) E
theorem din_sim {ty td : KE} {σ : St} {H : Hp} {Q : VK} (h : upG W (kDIn false ty td) σ H Q) : tDIn (upG W ty) (upG W td) σ H Q := by
  obtain ⟨G, M, R, E, hv, h, hR, hE⟩ := h
  exact ⟨G, M, _, E, hv, h, fun y G1 M1 H1 hv1 q1 => ⟨G1, M1, _, E, hv1, q1, fun x G2 M2 H2 hv2 q2 => by
    match x, q2 with
    | .ref a, ⟨kvs, k, q3, q4, q5⟩ => subst q4; exact ⟨a, _, rfl, DGet.k (hv2.at q3), hR _ G2 M2 H2 hv2 q5⟩, hE⟩, hE⟩
theorem dnotin_sim {ty td : KE} {σ : St} {H : Hp} {Q : VK} (h : upG W (kDIn true ty td) σ H Q) : tDNotIn (upG W ty) (upG W td) σ H Q := by
  obtain ⟨G, M, R, E, hv, h, hR, hE⟩ := h
  exact ⟨G, M, _, E, hv, h, fun y G1 M1 H1 hv1 q1 => ⟨G1, M1, _, E, hv1, q1, fun x G2 M2 H2 hv2 q2 => by
    match x, q2 with
    | .ref a, ⟨kvs, k, q3, q4, q5⟩ => subst q4; exact ⟨a, _, rfl, DGet.k (hv2.at q3), hR _ G2 M2 H2 hv2 q5⟩, hE⟩, hE⟩
theorem je_din {ty td : KE} (hu : X.A.units + 64 < cLine) (hi : JE X W i ty) (ho : JE X W o td) (hm : behindInMarks .In o = false := by first | rfl | with_unfolding_all rfl) : JE X W (.Compare i [.In] [o] pos) (kDIn false ty td) := pe_mono (pe_cmp (pc_din (by omega) hi ho) hm) fun _ _ _ h => din_sim h
theorem jt_din {ty td : KE} (hu : X.A.units + 64 < cLine) (hi : JE X W i ty) (ho : JE X W o td) (hm : behindInMarks .In o = false := by first | rfl | with_unfolding_all rfl) : JT X W (.Compare i [.In] [o] pos) (kT (kDIn false ty td)) := pt_mono (pt_cmp (pc_din (by omega) hi ho) hm) fun _ _ _ h => din_sim (t_sim h)
theorem je_dnotin {ty td : KE} (hu : X.A.units + 64 < cLine) (hi : JE X W i ty) (ho : JE X W o td) (hm : behindInMarks .NotIn o = false := by first | rfl | with_unfolding_all rfl) : JE X W (.Compare i [.NotIn] [o] pos) (kDIn true ty td) := pe_mono (pe_cmp (pc_dnotin (by omega) hi ho) hm) fun _ _ _ h => dnotin_sim h
theorem jt_dnotin {ty td : KE} (hu : X.A.units + 64 < cLine) (hi : JE X W i ty) (ho : JE X W o td) (hm : behindInMarks .NotIn o = false := by first | rfl | with_unfolding_all rfl) : JT X W (.Compare i [.NotIn] [o] pos) (kT (kDIn true ty td)) := pt_mono (pt_cmp (pc_dnotin (by omega) hi ho) hm) fun _ _ _ h => dnotin_sim (t_sim h)
/-- d[k] -/
def kDGet : KR2 := fun x y G M R => match x with
  | .ref a => ∃ (kvs : List (Key × V)) (k : Key) (v : V), At G M a (.dK kvs) ∧ y = kV k ∧ valV kvs k = some v ∧ R v G M
  | _ => False
theorem je_dget {ta tb : KE} (hu : X.A.units + 64 < cLine) (ha : JE X W o ta) (hb : JE X W i tb) (hs : NoSl i := by exact fun _ _ => rfl) : JE X W (.Subscript o i pos) (kBin kDGet ta tb) :=
  pe_mono (pe_dget (by omega) ha hb hs) fun σ H Q ⟨G, M, R, E, hv, h, hR, hE⟩ => ⟨G, M, _, E, hv, h, fun x G1 M1 H1 hv1 q1 => ⟨G1, M1, _, E, hv1, q1, fun y G2 M2 H2 hv2 q2 => by
    match x, q2 with
    | .ref a, ⟨kvs, k, v, q3, q4, q5, q6⟩ =>
      subst q4
      refine ⟨a, v, rfl, ?_, hR _ G2 M2 H2 hv2 q6⟩
      rw [← q5]; exact DGet.k (hv2.at q3), hE⟩, hE⟩
/-- d[k] = v -/
def kDSet (td ty tv : KE) : KS := fun D σ G M => tv σ G M (fun v G M => td σ G M (fun x G M => ty σ G M (fun y G M => match x with
  | .ref a => ∃ (n : Nat) (kvs : List (Key × V)) (k : Key), M[n]? = some (a, .dK kvs) ∧ y = kV k ∧ kvs.length < sizeLine ∧ D.nx σ G (M.set n (a, .dK (putK kvs k v)))
  | _ => False) (D.x σ)) (D.x σ)) (D.x σ)
theorem js_dset {td ty tv : KE} {value : Expr} {pos' : Pos} (hu : X.A.units + 64 < cLine) (ho : JE X W o td) (hi : JE X W i ty) (hv : JE X W value tv) (hs : swapsWith value (some (.Subscript o i pos')) pos.line X.env = pure false := by rfl) :
    JS X W (.Assign [.Subscript o i pos'] value pos) (kDSet td ty tv) := ps_mono (ps_dput (by omega) ho hi hv hs) fun D σ H ⟨G, M, d, hv, h, en⟩ =>
  ⟨G, M, _, _, hv, h, fun v G1 M1 H1 hv1 q => ⟨G1, M1, _, _, hv1, q, fun x G2 M2 H2 hv2 q2 => ⟨G2, M2, _, _, hv2, q2, fun y G3 M3 H3 hv3 q3 => by
    match x, q3 with
    | .ref a, ⟨n, kvs, k, q4, q5, q6, q7⟩ => subst q5; exact ⟨a, _, rfl, DPut.k (hv3.get q4) q6, en.nx _ G3 _ _ (hv3.set q4) q7⟩, fun c a G' M' H' hv' q => en.xc c a σ G' M' H' hv' q⟩, fun c a G' M' H' hv' q => en.xc c a σ G' M' H' hv' q⟩, fun c a G' M' H' hv' q => en.xc c a σ G' M' H' hv' q⟩
/-- d.get(k, x), d.get(k) -/
def kDGet2 (td ty tx : KE) : KE := fun σ G M R E => td σ G M (fun x G M => match x with
  | .ref a => (∃ kvs, At G M a (.dK kvs)) ∧ ty σ G M (fun y G M => tx σ G M (fun z G M => ∃ (kvs : List (Key × V)) (k : Key), At G M a (.dK kvs) ∧ y = kV k ∧ R ((valV kvs k).getD z) G M) E) E
  | _ => False) E
theorem je_dget2 {td ty tx : KE} {apos cpos : Pos} (hu : X.A.units + 64 < cLine) (ho : JE X W o td) (he : JE X W e ty) (hf : JE X W f tx) (m : M2 X o "get" apos e f cpos := by exact ⟨rfl, rfl, rfl, rfl⟩) : JE X W (.Call (.Attribute o "get" apos) [e, f] [] cpos) (kDGet2 td ty tx) :=
  pe_mono (pe_dget2 (by omega) ho he hf m) fun σ H Q ⟨G, M, R, E, hv, h, hR, hE⟩ => ⟨G, M, _, E, hv, h, fun x G1 M1 H1 hv1 q1 => by
    match x, q1 with
    | .ref a, ⟨⟨kvs, q2⟩, q3⟩ => exact ⟨a, rfl, .inl ⟨kvs, .inl (hv1.at q2)⟩, G1, M1, _, E, hv1, q3, fun y G2 M2 H2 hv2 q4 => ⟨G2, M2, _, E, hv2, q4, fun z G3 M3 H3 hv3 q5 => by
        obtain ⟨kvs, k, q6, q7, q8⟩ := q5
        subst q7
        exact ⟨_, DGet.k (hv3.at q6), hR _ G3 M3 H3 hv3 q8⟩, hE⟩, hE⟩, hE⟩
def kDGet1 (td ty : KE) : KE := fun σ G M R E => td σ G M (fun x G M => match x with
  | .ref a => (∃ kvs, At G M a (.dK kvs)) ∧ ty σ G M (fun y G M => ∃ (kvs : List (Key × V)) (k : Key), At G M a (.dK kvs) ∧ y = kV k ∧ R ((valV kvs k).getD .non) G M) E
  | _ => False) E
theorem je_dget1 {td ty : KE} {apos cpos : Pos} (hu : X.A.units + 64 < cLine) (ho : JE X W o td) (he : JE X W e ty) (m : M1 X o "get" apos e cpos := by exact ⟨rfl, rfl, rfl, rfl⟩) : JE X W (.Call (.Attribute o "get" apos) [e] [] cpos) (kDGet1 td ty) :=
  pe_mono (pe_dget1 (by omega) ho he m) fun σ H Q ⟨G, M, R, E, hv, h, hR, hE⟩ => ⟨G, M, _, E, hv, h, fun x G1 M1 H1 hv1 q1 => by
    match x, q1 with
    | .ref a, ⟨⟨kvs, q2⟩, q3⟩ => exact ⟨a, rfl, .inl ⟨kvs, .inl (hv1.at q2)⟩, G1, M1, _, E, hv1, q3, fun y G2 M2 H2 hv2 q5 => by
        obtain ⟨kvs, k, q6, q7, q8⟩ := q5
        subst q7
        exact ⟨_, DGet.k (hv2.at q6), hR _ G2 M2 H2 hv2 q8⟩, hE⟩, hE⟩
/-- d.pop(k, x), d.pop(k) -/
def kDPop2 (td ty tx : KE) : KE := fun σ G M R E => td σ G M (fun x G M => match x with
  | .ref a => (∃ kvs, At G M a (.dK kvs)) ∧ ty σ G M (fun y G M => tx σ G M (fun z G M => ∃ (n : Nat) (kvs : List (Key × V)) (k : Key), M[n]? = some (a, .dK kvs) ∧ y = kV k ∧ (∀ v, valV kvs k = some v → R v G (M.set n (a, .dK (dropK kvs k)))) ∧ (valV kvs k = none → R z G M)) E) E
  | _ => False) E
theorem je_dpop2 {td ty tx : KE} {apos cpos : Pos} (ho : JE X W o td) (he : JE X W e ty) (hf : JE X W f tx) (m : M2 X o "pop" apos e f cpos := by exact ⟨rfl, rfl, rfl, rfl⟩) : JE X W (.Call (.Attribute o "pop" apos) [e, f] [] cpos) (kDPop2 td ty tx) :=
  pe_mono (pe_dpop2 ho he hf m) fun σ H Q ⟨G, M, R, E, hv, h, hR, hE⟩ => ⟨G, M, _, E, hv, h, fun x G1 M1 H1 hv1 q1 => by
    match x, q1 with
    | .ref a, ⟨⟨kvs, q2⟩, q3⟩ => exact ⟨a, rfl, .inl ⟨kvs, .inl (hv1.at q2)⟩, G1, M1, _, E, hv1, q3, fun y G2 M2 H2 hv2 q4 => ⟨G2, M2, _, E, hv2, q4, fun z G3 M3 H3 hv3 q5 => by
        obtain ⟨n, kvs, k, q6, q7, q8, q9⟩ := q5
        exact ⟨kvs, k, hv3.get q6, q7, fun v hv => hR _ G3 _ _ (hv3.set q6) (q8 v hv), fun hv => hR _ G3 M3 H3 hv3 (q9 hv)⟩, hE⟩, hE⟩, hE⟩
def kDPop1 (td ty : KE) : KE := fun σ G M R E => td σ G M (fun x G M => match x with
  | .ref a => (∃ kvs, At G M a (.dK kvs)) ∧ ty σ G M (fun y G M => ∃ (n : Nat) (kvs : List (Key × V)) (k : Key) (v : V), M[n]? = some (a, .dK kvs) ∧ y = kV k ∧ valV kvs k = some v ∧ R v G (M.set n (a, .dK (dropK kvs k)))) E
  | _ => False) E
theorem je_dpop1 {td ty : KE} {apos cpos : Pos} (ho : JE X W o td) (he : JE X W e ty) (m : M1 X o "pop" apos e cpos := by exact ⟨rfl, rfl, rfl, rfl⟩) : JE X W (.Call (.Attribute o "pop" apos) [e] [] cpos) (kDPop1 td ty) :=
  pe_mono (pe_dpop1 ho he m) fun σ H Q ⟨G, M, R, E, hv, h, hR, hE⟩ => ⟨G, M, _, E, hv, h, fun x G1 M1 H1 hv1 q1 => by
    match x, q1 with
    | .ref a, ⟨⟨kvs, q2⟩, q3⟩ => exact ⟨a, rfl, .inl ⟨kvs, .inl (hv1.at q2)⟩, G1, M1, _, E, hv1, q3, fun y G2 M2 H2 hv2 q5 => by
        obtain ⟨n, kvs, k, v, q6, q7, q8, q9⟩ := q5
        exact ⟨kvs, k, v, hv2.get q6, q7, q8, hR _ G2 _ _ (hv2.set q6) q9⟩, hE⟩, hE⟩
/-- d.setdefault(k, x) -/
def kDSetd (td ty tx : KE) : KE := fun σ G M R E => td σ G M (fun x G M => match x with
  | .ref a => (∃ kvs, At G M a (.dK kvs)) ∧ ty σ G M (fun y G M => tx σ G M (fun z G M => ∃ (n : Nat) (kvs : List (Key × V)) (k : Key), M[n]? = some (a, .dK kvs) ∧ y = kV k ∧ kvs.length < sizeLine ∧ (∀ v, valV kvs k = some v → R v G M) ∧ (valV kvs k = none → R z G (M.set n (a, .dK (putK kvs k z))))) E) E
  | _ => False) E
theorem je_dsetd {td ty tx : KE} {apos cpos : Pos} (ho : JE X W o td) (he : JE X W e ty) (hf : JE X W f tx) (m : M2 X o "setdefault" apos e f cpos := by exact ⟨rfl, rfl, rfl, rfl⟩) : JE X W (.Call (.Attribute o "setdefault" apos) [e, f] [] cpos) (kDSetd td ty tx) :=
  pe_mono (pe_dsetd ho he hf m) fun σ H Q ⟨G, M, R, E, hv, h, hR, hE⟩ => ⟨G, M, _, E, hv, h, fun x G1 M1 H1 hv1 q1 => by
    match x, q1 with
    | .ref a, ⟨⟨kvs, q2⟩, q3⟩ => exact ⟨a, rfl, .inl ⟨kvs, .inl (hv1.at q2)⟩, G1, M1, _, E, hv1, q3, fun y G2 M2 H2 hv2 q4 => ⟨G2, M2, _, E, hv2, q4, fun z G3 M3 H3 hv3 q5 => by
        obtain ⟨n, kvs, k, q6, q7, q8, q9, q10⟩ := q5
        exact ⟨kvs, k, hv3.get q6, q7, q8, fun v hv => hR _ G3 M3 H3 hv3 (q9 v hv), fun hv => hR _ G3 _ _ (hv3.set q6) (q10 hv)⟩, hE⟩, hE⟩, hE⟩
/-- sorted(d), list(d), len(d) -/
def kSortedD : KC := fun vs G M R => match vs with
  | [.ref a] => ∃ (kvs : List (Key × V)) (ks : List Int), At G M a (.dK kvs) ∧ kvs.map (·.1) = ks.map Sum.inl ∧ ks.length < 64 ∧ ∀ (ys : List Int) (p : Addr), ys.Perm ks → ys.Pairwise (· ≤ ·) → Fr G M p → R (.ref p) G ((p, .lst (ys.map V.int)) :: M)
  | _ => False
theorem kc_sortedD (hc : X.calm = true := by rfl) : KCall X (.builtin "sorted") kSortedD := kcall_of (call_sortedDI hc) fun vs G M R H Q hv h hR => by
  match vs, h with
  | [.ref a], ⟨kvs, ks, h1, h2, h3, h4⟩ => exact ⟨a, kvs, ks, rfl, .inl (hv.at h1), h2, h3, fun ys p q1 q2 q3 => hR _ G _ _ (hv.newM q3) (h4 ys p q1 q2 (hv.fr q3))⟩
def kListD : KC := fun vs G M R => match vs with
  | [.ref a] => ∃ kvs : List (Key × V), At G M a (.dK kvs) ∧ ∀ p, Fr G M p → R (.ref p) G ((p, .lst (kvs.map fun kv => kV kv.1)) :: M)
  | _ => False
theorem kc_listD (hc : X.calm = true := by rfl) : KCall X (.type "list") kListD := kcall_of (call_listD hc) fun vs G M R H Q hv h hR => by
  match vs, h with
  | [.ref a], ⟨kvs, h1, h2⟩ => exact ⟨a, kvs, rfl, .inl (hv.at h1), fun p q3 => hR _ G _ _ (hv.newM q3) (h2 p (hv.fr q3))⟩
def kLenD : KC := fun vs G M R => match vs with
  | [.ref a] => ∃ kvs : List (Key × V), At G M a (.dK kvs) ∧ R (.int kvs.length) G M
  | _ => False
theorem kc_lenD : KCall X (.builtin "len") kLenD := kcall_of call_lenD fun vs G M R H Q hv h hR => by
  match vs, h with
  | [.ref a], ⟨kvs, h1, h2⟩ => exact ⟨a, kvs, rfl, hv.at h1, hR _ G M H hv h2⟩
/-- x, y = a, b, two local names -/
def kPar (i j : Nat) (t : KA) : KS := fun D σ G M => t σ G M (fun vs G M => match vs with
  | [v, w] => D.nx ((σ.set i (some v)).set j (some w)) G M
  | _ => False) (D.x σ)
theorem js_par {i j : Nat} {x y : Str} {a b : Expr} {ta : KA} {px py pt : Pos} {kt k2 pt2} (hN : X.N.Nodup) (ha : JA X W [a, b] ta) (hc : X.calm = true := by rfl) (hi : X.N[i]? = some x := by rfl) (hj : X.N[j]? = some y := by rfl) (hij : i ≠ j := by decide)
    (hx : X.env.scope.names.lookup x = some .local := by rfl) (hy : X.env.scope.names.lookup y = some .local := by rfl)
    (hw : swappedStores [.Tuple [.Name x px, .Name y py] kt pt] (.Tuple [a, b] k2 pt2) X.env = pure (some [x, y]) := by rfl)
    (hs : swapsWithSole [.Tuple [.Name x px, .Name y py] kt pt] (.Tuple [a, b] k2 pt2) pos.line X.env = pure false := by rfl) :
    JS X W (.Assign [.Tuple [.Name x px, .Name y py] kt pt] (.Tuple [a, b] k2 pt2) pos) (kPar i j ta) :=
  ps_mono (ps_par hc hN hi hj hij hx hy ha hw hs) fun D σ H ⟨G, M, d, hv, h, en⟩ => ⟨G, M, _, _, hv, h, fun vs G1 M1 H1 hv1 q => by
    match vs, q with
    | [v, w], q => exact ⟨v, w, rfl, en.nx _ G1 M1 H1 hv1 q⟩, fun c a G' M' H' hv' q => en.xc c a σ G' M' H' hv' q⟩
end
end BT
set_option Elab.async false
set_option linter.all false
set_option maxRecDepth 100000
set_option maxHeartbeats 4000000
namespace BT
open PySem PySem.Spec L2
open PyProof.Rows hiding St
/-! ### slices and sums of tuples, unpacked lists -/
section
variable {X : Cx} {W : WX} {pos : Pos} {o i e f : Expr}
/-- a tuple's slice; the whole of it is the tuple itself -/
def cutT (K : PySem.W.Frag) (x : V) (lo hi : Option Int) (G : Hp) (M : Mem) (R : KR) : Prop := match x with
  | .ref a => ∃ xs, SqT K G a xs ∧ (HT.sIx xs.length 0 lo = 0 ∧ HT.sIx xs.length xs.length hi = xs.length → R (.ref a) G M) ∧ (¬ (HT.sIx xs.length 0 lo = 0 ∧ HT.sIx xs.length xs.length hi = xs.length) → ∀ p, Fr G M p → R (.ref p) (upd G p (.tup (cutV xs lo hi))) M)
  | _ => False
def kSlT (K : PySem.W.Frag) (t : KE) (tl th : KO) : KE := fun σ G M R E => t σ G M (fun x G M => tl σ G M (fun l G M => th σ G M (fun u G M => cutT K x l u G M R) E) E) E
theorem je_slT {t : KE} {lo hi : Option Expr} {tl th : KO} {p2 : Pos} (he : JE X W e t) (hl : JO X W lo tl) (hu : JO X W hi th) : JE X W (.Subscript e (.Slice lo hi none p2) pos) (kSlT X.K t tl th) :=
  pe_mono (pe_slice sl_tupA he hl hu) fun σ H Q ⟨G, M, R, E, hv, h, hR, hE⟩ => ⟨G, M, _, E, hv, h, fun x G1 M1 H1 hv1 h1 => ⟨G1, M1, _, E, hv1, h1, fun l G2 M2 H2 hv2 h2 => ⟨G2, M2, _, E, hv2, h2, fun u G3 M3 H3 hv3 h3 => by
    match x, h3 with
    | .ref a, ⟨xs, q1, q2, q3⟩ => exact ⟨_, xs, rfl, hv3.tup q1, fun z => hR _ G3 M3 H3 hv3 (q2 z), fun z p hp => hR _ _ _ _ (hv3.newG hp) (q3 z p (hv3.fr hp))⟩, hE⟩, hE⟩, hE⟩
/-- (a, b, ..) = a list of that length -/
def kgUnl (K : PySem.W.Frag) (n : Nat) (g : KGs) : KG := ⟨fun v σ G M R => match v with
    | .ref a => ∃ xs, LstAt K G M a xs ∧ onLen n g xs σ G M R
    | _ => False, fun _ _ _ _ _ => False⟩
theorem jg_unl {K : PySem.W.Frag} {ts : List Expr} {g : KGs} {gs : TGs} {n k : Nat} (hc : X.calm = true) (h : JGs X ts g gs) (hK : X.K = K := by rfl) (hn : (assignEach ts X.env).length = n := by rfl) (hst : (assignEach ts X.env).findIdx? (·.1) = none := by rfl) :
    JG X (.Tuple ts k pos) (kgUnl K n g) (gUnl K n gs) := by
  subst hK
  exact ⟨pg_unl hc h.pgs hn hst, fun v σ G M R H Q hv q hR => by
    match v, q with
    | .ref a, ⟨xs, q1, q2⟩ =>
      obtain ⟨e, q3⟩ := onLen_of q2
      exact ⟨a, xs, rfl, hv.lst q1, e, h.sim xs σ G M R H Q hv q3 hR⟩,
   fun T vs σ G M R H Q hv hT q hR => q.elim⟩
/-- the sum of two tuples -/
def kCat (K : PySem.W.Frag) : KR2 := fun x y G M R => match x, y with
  | .ref a, .ref b => ∃ xs ys, SqT K G a xs ∧ SqT K G b ys ∧ xs.length + ys.length ≤ sizeLine ∧ (xs = [] → R (.ref b) G M) ∧ (xs ≠ [] → ys = [] → R (.ref a) G M) ∧ (xs ≠ [] → ys ≠ [] → ∀ p, Fr G M p → R (.ref p) (upd G p (.tup (xs ++ ys))) M)
  | _, _ => False
theorem kop_cat : KOp X (binaryOp .Add) (kCat X.K) := kop_of op_catA fun x y G M R H Q hv h hR => by
  match x, y, h with
  | .ref a, .ref b, ⟨xs, ys, h1, h2, h3, h4, h5, h6⟩ => exact ⟨a, b, xs, ys, rfl, rfl, hv.tup h1, hv.tup h2, h3, fun z => hR _ G M H hv (h4 z), fun z w => hR _ G M H hv (h5 z w), fun z w p hp => hR _ _ _ _ (hv.newG hp) (h6 z w p (hv.fr hp))⟩
end
end BT
set_option Elab.async false
set_option linter.all false
set_option maxRecDepth 100000
set_option maxHeartbeats 4000000
namespace BT
open PySem PySem.Spec L2
open PyProof.Rows hiding St
/-! ### isinstance(err, (C, D, ..)); except C without a name -/
def orTab (a b : List (Str × Bool)) : List (Str × Bool) := a.zipWith (fun p q => (p.1, p.2 || q.2)) b
theorem orTab_mem : ∀ {a b : List (Str × Bool)}, a.map (·.1) = b.map (·.1) → ∀ p, p ∈ orTab a b → ∃ x y, (p.1, x) ∈ a ∧ (p.1, y) ∈ b ∧ p.2 = (x || y)
  | [], _, _, p, h => by simp [orTab] at h
  | _ :: _, [], _, p, h => by simp [orTab] at h
  | u :: a, v :: b, e, p, h => by
    have e1 : u.1 = v.1 := by simpa using (List.cons.inj e).1
    rcases List.mem_cons.mp (show p ∈ (u.1, u.2 || v.2) :: orTab a b from h) with rfl | h
    · exact ⟨u.2, v.2, List.mem_cons_self, by rw [e1]; exact List.mem_cons_self, rfl⟩
    · obtain ⟨x, y, h1, h2, h3⟩ := orTab_mem (List.cons.inj e).2 p h
      exact ⟨x, y, List.mem_cons_of_mem _ h1, List.mem_cons_of_mem _ h2, h3⟩
structure IsT (K : PySem.W.Frag) (cs : List V) (us : List Value) (tab : List (Str × Bool)) : Prop where
  p : Paired ClsV cs us
  n : PySem.W.kitAny K (.type "NoneType") us = some false
  t : ∀ p ∈ tab, ExcC K (cl K p.1) ∧ PySem.W.kitAny K (.ref (cl K p.1)) us = some p.2
theorem IsT.cons {K : PySem.W.Frag} {c : V} {u : Value} {cs : List V} {us : List Value} {tab tab1 : List (Str × Bool)} (hc : ClsV c u) (hn : PySem.W.kitOne K (.type "NoneType") u = some false)
    (ht : ∀ p ∈ tab1, ExcC K (cl K p.1) ∧ PySem.W.kitOne K (.ref (cl K p.1)) u = some p.2) (h : IsT K cs us tab) (e : tab1.map (·.1) = tab.map (·.1) := by rfl) : IsT K (c :: cs) (u :: us) (orTab tab1 tab) :=
  ⟨.cons hc h.p, kitAny_cons hn (fun _ => h.n) (fun z => nomatch z), fun p hp => by
    obtain ⟨x, y, h1, h2, h3⟩ := orTab_mem e p hp
    obtain ⟨q1, q2⟩ := ht _ h1
    refine ⟨q1, kitAny_cons q2 (fun z => ?_) (fun z => ?_)⟩
    · rw [h3, show x = false from z]
      exact (h.t _ h2).2
    · rw [h3, show x = true from z]; rfl⟩
theorem IsT.one {K : PySem.W.Frag} {c : V} {u : Value} {tab1 : List (Str × Bool)} (hc : ClsV c u) (hn : PySem.W.kitOne K (.type "NoneType") u = some false)
    (ht : ∀ p ∈ tab1, ExcC K (cl K p.1) ∧ PySem.W.kitOne K (.ref (cl K p.1)) u = some p.2) : IsT K [c] [u] tab1 :=
  ⟨.cons hc .nil, kitAny_cons hn (fun _ => rfl) (fun z => nomatch z), fun p hp => by
    obtain ⟨q1, q2⟩ := ht p hp
    exact ⟨q1, kitAny_cons q2 (fun z => by rw [z]; rfl) (fun z => z)⟩⟩
section
variable {X : Cx} {W : WX} {pos : Pos}
def kIsXT (K : PySem.W.Frag) (cs : List V) (tab : List (Str × Bool)) : KC := fun vs G M R => match vs with
  | [.non, .ref t] => G t = some (.tup cs) ∧ R (.bl false) G M
  | [.ref a, .ref t] => G t = some (.tup cs) ∧ ∃ p ∈ tab, At G M a (ErA K p.1 none a) ∧ R (.bl p.2) G M
  | _ => False
theorem kc_isXT {tab : List (Str × Bool)} {cs : List V} {us : List Value} (T : IsT X.K cs us tab) : KCall X (.builtin "isinstance") (kIsXT X.K cs tab) := by
  intro pins s σ H xs ws Q I r h
  obtain ⟨G, M, R, hv, h, hR⟩ := h
  match xs, h with
  | [.non, .ref t], h2 =>
    obtain ⟨ht, h3⟩ := h2
    exact (call_isiT (X := X)) pins s σ H [.non, .ref t] _ Q I r ⟨_, t, cs, .type "NoneType", us, false, rfl, hv.ex _ _ ht, T.p, .base .non, T.n, hR _ _ _ _ hv h3⟩
  | [.ref a, .ref t], h2 =>
    obtain ⟨ht, p, hp, ha, h3⟩ := h2
    obtain ⟨C, e⟩ := T.t p hp
    obtain ⟨u1, u2, rfl, r1, r2⟩ := vals2 r
    cases (show u2 = Value.ref t from r2)
    cases (show u1 = Value.ref a from r1)
    have hH : H a = some (ErA X.K p.1 none a) := hv.at ha
    obtain ⟨⟨oe, vs, hget, hz, hd⟩, _, _⟩ := I.hok a _ hH
    have J : PySem.W.InstAt s.heap a oe (cl X.K p.1) none := by
      obtain ⟨oc, od, oda, osl⟩ := oe
      obtain ⟨h1, h2⟩ := hz
      dsimp only at h1 h2 hd
      subst h1 h2 hd
      exact ⟨hget, rfl, rfl, trivial⟩
    obtain ⟨_, its, rv, o, h1, h2, n, h3'⟩ := (show ObjOk X.prog X.w H s.heap t (.tup cs) from I.hok t _ (hv.ex _ _ ht))
    have e3 := ClsV.all T.p rv
    subst e3
    obtain ⟨oc, od, dt, sl⟩ := o
    simp only at h2 h3'
    subst h2 h3'
    exact PySem.W.kia_tup (PySem.W.handS_kitx_exc C.hg C.hk C.hs C.hd C.ha C.hn C.ht C.hm) I.kIn J h1 e (fun z => nomatch z) fun tk => ⟨.bl p.2, H, I.kept (t' := tk) fun _ _ z => z, rfl, hR _ _ _ _ hv h3⟩
/-- try: t, except C: u -/
def kTryO (K : PySem.W.Frag) (tab : List (Str × Bool)) (t u : KS) : KS := fun D σ G M => t { D with xc := fun c d σ' G' M' => ∃ p ∈ tab, c = .ref (cl K p.1) ∧
  (if p.2 = true then u { D with xc := fun _ _ _ _ _ => False } σ' G' M' else D.xc c d σ' G' M') } σ G M
theorem js_tryO {K : PySem.W.Frag} {x : Str} {tab : List (Str × Bool)} {body suite : List Stmt} {b0 : Stmt} {t u : KS} {np pos' : Pos} (g : XG X.K X.mg x) (ht : ∀ p ∈ tab, PySem.W.exmOne X.K (.ref (cl X.K p.1)) (.ref (cl X.K x)) = some p.2) (tk : Takes X W)
    (hb : ∀ (W : WX) (pn : List (Addr × Obj)) (xe : Value → Shared → Prop), Takes (X.tr pn xe) W → PassesOwn (model X.prog X.w) X.A X.env xe → JSs (X.tr pn xe) W body t)
    (hsu : ∀ (a : Addr) (oe : Obj) (pn : List (Addr × Obj)), JSs (X.suite a ((a, oe) :: pn)) W0 (b0 :: suite) u)
    (hK : X.K = K := by rfl) (hs : X.stack = X.env :: X.outer := by rfl) (hf : X.env.frame = some X.env.locals := by rfl) (hg : Gl X x := by rfl) (hxd : (x == ("__debug__" : Str)) = false := by decide) :
    JS X W (.Try body [.ExceptHandler (some (.Name x np)) none (b0 :: suite) pos'] [] [] pos) (kTryO K tab t u) := by
  subst hK
  refine ps_mono (ps_try_only (c := .ref (cl X.K x)) (tb := fun W => upS W t) (ts := fun _ _ _ => upS W0 u) hs hf ⟨hg, hxd, .inl g.g⟩ tk hb (fun a oe cls d pn _ _ => hsu a oe pn)) fun D σ H ⟨G, M, d, hv, h, en⟩ => ?_
  refine ⟨G, M, _, hv, h, ⟨en.nx, en.rt, en.bk, en.ct, fun c e σ' G' M' H' hv' q => ?_⟩⟩
  obtain ⟨p, hp, rfl, q⟩ := q
  refine ⟨p.2, ht p hp, fun hb a na => ?_, fun hb => ?_⟩
  · rw [if_pos hb] at q
    exact ⟨G', M', _, hv', q, ⟨en.nx, en.rt, en.bk, en.ct, fun _ _ _ _ _ _ _ z => z.elim⟩⟩
  · rw [if_neg (by rw [hb]; exact Bool.false_ne_true)] at q
    exact en.xc _ _ _ _ _ _ hv' q
end
end BT
namespace PySem.SeqAt
open AutoSeq1 (wpAny_loadPart')
open MeetsSeq
theorem bt_str_eq_declines (b : Str) (u : Tok) (l : Addr) (c : Value) (es : _) (ep : _) (dd : Option Addr) (sl : Array (Option Value)) :
    Meets (Builtin.«str.__eq__» ⟨[.str b u, .ref l], []⟩) (fun _ R s => s.heap.get? l = some ⟨c, dd, .dict es ep, sl⟩ ∧ R (.ok (.ret .notImplemented)) s) :=
  .of_wp fun prog w A R s h => by obtain ⟨hp, g, d, tk, os⟩ := s; obtain ⟨hl, h⟩ := h; wp_walk using wpAny_loadPart' hl, wpAny_load hl; exact ⟨_, rfl, h⟩
theorem bt_dict_eq_declines (l : Addr) (es : _) (ep : _) (dd : Option Addr) (sl : Array (Option Value)) (b : Str) (u : Tok) :
    Meets (Builtin.«dict.__eq__» ⟨[.ref l, .str b u], []⟩) (fun _ R s => s.heap.get? l = some ⟨.type "dict", dd, .dict es ep, sl⟩ ∧ R (.ok (.ret .notImplemented)) s) :=
  .of_wp fun prog w A R s h => by obtain ⟨hp, g, d, tk, os⟩ := s; obtain ⟨hl, h⟩ := h; have f1 := F.sub_str_dict; wp_walk using wpAny_loadPart' hl, wpAny_load hl; exact ⟨_, rfl, h⟩
theorem bt_dict_str {A : Around} {s : Shared} {l : Addr} {o : Obj} {es : _} {ep : _} (b : Str) (u : Tok) (ho : s.heap.get? l = some o) (hx : o.ExactDict) (hd : o.data = .dict es ep) (hu : A.units < cLine) : RcAt A s (.ref l) (.str b u) false := fun prog w E Q h => by
  obtain ⟨cls, dd, data, sl⟩ := o
  obtain ⟨hc, h2, h3⟩ := hx
  simp only at hc hd
  subst hc hd
  exact rc_eq_decline_or (k := false) ⟨_, ho, rfl⟩ (typeIs_str s b u) (by decide) F.sub_str_dict F.slot_dict_eq F.slot_str_eq_refl
    (fun _ hq => call_meets F.slot_dict_eq ⟨_, ho, rfl⟩ F.entry_dict_eq (F.args_dict_eq_2 _ _) (bt_dict_eq_declines l es ep dd sl b u) ⟨ho, hq⟩)
    (fun _ hq => call_meets F.slot_str_eq_refl (typeIs_str s b u) F.entry_str_eq (F.args_str_eq_2 _ _) (bt_str_eq_declines b u l (.type "dict") es ep dd sl) ⟨ho, hq⟩)
    (fun _ hq => wpAny_of_eq (rfl : isSame (.ref l) (.str b u) = pure false) hq) (.inr hu) h
end PySem.SeqAt
namespace BT
open PySem PySem.Spec L2
open PyProof.Rows hiding St
/-- == of what may be a dict, and a text -/
def kEqD (K : PySem.W.Frag) : KR2 := fun x y G M R => kEqv false K x y G M R ∨ ∃ (a : Addr) (s : Str) (kvs : List (Key × V)), x = .ref a ∧ y = .str s ∧ At G M a (.dK kvs) ∧ R (.bl false) G M
theorem kop_eqD {X : Cx} (hu : X.A.units + 64 < cLine) : KOp X (compareOp .Eq) (kEqD X.K) := fun pins s σ H x y v u Q G M R I rx ry hv h hR => by
  rcases h with h | ⟨a, t, kvs, rfl, rfl, ha, h⟩
  · exact kop_eq hu pins s σ H x y v u Q G M R I rx ry hv h hR
  · cases (show v = Value.ref a from rx)
    obtain ⟨tk, e⟩ := (show ∃ t', u = Value.str t t' from ry)
    subst e
    obtain ⟨_, _, vs, _, o, es, ep, h1, h2, h3, _⟩ := (show ObjOk X.prog X.w H s.heap a (.dK kvs) from I.hok a _ (hv.at ha))
    exact SeqAt.bt_dict_str t tk h1 h2 h3 (by omega) _ _ _ _ ⟨.bl false, H, I, rfl, hR _ G M H hv h⟩
end BT
set_option Elab.async false
set_option linter.all false
set_option maxRecDepth 100000
set_option maxHeartbeats 4000000
namespace BT
open PySem PySem.Spec L2
open PyProof.Rows hiding St
/-! ### written data: what a display of constants lays -/
inductive XD where
  | non
  | bl (b : Bool)
  | int (i : Int)
  | str (s : Str)
  | list (l : List XD)
  | tup (l : List XD)
  | dict
mutual
inductive Rp (K : PySem.W.Frag) (G : Hp) (Mx : Mem) : V → XD → Prop where
  | non : Rp K G Mx .non .non
  | bl (b : Bool) : Rp K G Mx (.bl b) (.bl b)
  | int (i : Int) : Rp K G Mx (.int i) (.int i)
  | str (s : Str) : Rp K G Mx (.str s) (.str s)
  | list {a : Addr} {vs : List V} {ds : List XD} : ((a, HO.lst vs) ∈ Mx ∨ G a = some (.lst vs)) → RpA K G Mx vs ds → Rp K G Mx (.ref a) (.list ds)
  | tup {a : Addr} {vs : List V} {ds : List XD} : SqT K G a vs → RpA K G Mx vs ds → Rp K G Mx (.ref a) (.tup ds)
  | dict {a : Addr} : ((a, HO.dK []) ∈ Mx ∨ G a = some (.dK [])) → Rp K G Mx (.ref a) .dict
inductive RpA (K : PySem.W.Frag) (G : Hp) (Mx : Mem) : List V → List XD → Prop where
  | nil : RpA K G Mx [] []
  | cons {v : V} {d : XD} {vs : List V} {ds : List XD} : Rp K G Mx v d → RpA K G Mx vs ds → RpA K G Mx (v :: vs) (d :: ds)
end
section
variable {K : PySem.W.Frag} {G G' : Hp} {Mx My M : Mem}
mutual
theorem Rp.mono (f : ∀ a o, ((a, o) ∈ Mx ∨ G a = some o) → ((a, o) ∈ My ∨ G' a = some o)) (e : Ex G G') : ∀ {v : V} {d : XD}, Rp K G Mx v d → Rp K G' My v d
  | _, _, .non => .non
  | _, _, .bl b => .bl b
  | _, _, .int b => .int b
  | _, _, .str b => .str b
  | _, _, .list h hs => .list (f _ _ h) (RpA.mono f e hs)
  | _, _, .tup h hs => .tup (ex_t e h) (RpA.mono f e hs)
  | _, _, .dict h => .dict (f _ _ h)
theorem RpA.mono (f : ∀ a o, ((a, o) ∈ Mx ∨ G a = some o) → ((a, o) ∈ My ∨ G' a = some o)) (e : Ex G G') : ∀ {vs : List V} {ds : List XD}, RpA K G Mx vs ds → RpA K G' My vs ds
  | _, _, .nil => .nil
  | _, _, .cons h hs => .cons (Rp.mono f e h) (RpA.mono f e hs)
end
theorem Rp.up {v : V} {d : XD} (e : Ex G G') (s : ∀ x, x ∈ Mx → x ∈ My) (h : Rp K G Mx v d) : Rp K G' My v d := h.mono (fun a o q => q.elim (fun z => .inl (s _ z)) (fun z => .inr (e _ _ z))) e
theorem RpA.up {v : List V} {d : List XD} (e : Ex G G') (s : ∀ x, x ∈ Mx → x ∈ My) (h : RpA K G Mx v d) : RpA K G' My v d := h.mono (fun a o q => q.elim (fun z => .inl (s _ z)) (fun z => .inr (e _ _ z))) e
theorem Rp.ex {v : V} {d : XD} (e : Ex G G') (h : Rp K G Mx v d) : Rp K G' Mx v d := h.up e fun _ z => z
theorem RpA.ex {v : List V} {d : List XD} (e : Ex G G') (h : RpA K G Mx v d) : RpA K G' Mx v d := h.up e fun _ z => z
theorem RpA.len : ∀ {vs : List V} {ds : List XD}, RpA K G Mx vs ds → vs.length = ds.length
  | _, _, .nil => rfl
  | _, _, .cons _ hs => by rw [List.length_cons, List.length_cons, hs.len]
theorem RpA.app : ∀ {vs ws : List V} {ds es : List XD}, RpA K G Mx vs ds → RpA K G Mx ws es → RpA K G Mx (vs ++ ws) (ds ++ es)
  | _, _, _, _, .nil, h => h
  | _, _, _, _, .cons a b, h => .cons a (b.app h)
theorem RpA.get : ∀ {vs : List V} {ds : List XD} {i : Nat}, RpA K G Mx vs ds → i < vs.length → ∃ v d, vs[i]? = some v ∧ ds[i]? = some d ∧ Rp K G Mx v d
  | _, _, _, .nil, h => by simp at h
  | _, _, 0, .cons a _, _ => ⟨_, _, rfl, rfl, a⟩
  | _, _, i + 1, .cons _ b, h => by
    obtain ⟨v, d, h1, h2, h3⟩ := RpA.get (i := i) b (by simpa using h)
    exact ⟨v, d, by simpa using h1, by simpa using h2, h3⟩
/-- cells of its own -/
def NewC (G : Hp) (Mx : Mem) : Prop := (∀ x, x ∈ Mx → G x.1 = none) ∧ (Mx.map (·.1)).Nodup
theorem NewC.nil : NewC G [] := ⟨fun _ z => (nomatch z), List.nodup_nil⟩
def frzA (G : Hp) (Mx : Mem) : Hp := Mx.foldr (fun x g => upd g x.1 x.2) G
theorem frzA_wk : ∀ (Mx : Mem) (G : Hp) (M : Mem), Wk G (Mx ++ M) (frzA G Mx) M
  | [], G, M => Wk.refl
  | x :: Mx, G, M => by
    refine Wk.trans (Wk.perm (M' := Mx ++ x :: M) ?_) ((frzA_wk Mx G (x :: M)).trans Wk.frz0)
    exact List.perm_middle
theorem frzA_ne : ∀ {Mx : Mem} {G : Hp} {a : Addr}, (∀ x, x ∈ Mx → x.1 ≠ a) → frzA G Mx a = G a
  | [], _, _, _ => rfl
  | x :: Mx, G, a, h => by
    show upd (frzA G Mx) x.1 x.2 a = _
    rw [upd_ne (Ne.symm (h x List.mem_cons_self))]
    exact frzA_ne fun y hy => h y (List.mem_cons_of_mem _ hy)
theorem frzA_ex (h : NewC G Mx) : Ex G (frzA G Mx) := fun a o e => by
  rw [frzA_ne]
  · exact e
  · intro x hx z
    rw [← z, h.1 x hx] at e
    cases e
theorem frzA_at : ∀ {Mx : Mem} {G : Hp}, (Mx.map (·.1)).Nodup → ∀ x, x ∈ Mx → frzA G Mx x.1 = some x.2
  | [], _, _, _, h => nomatch h
  | y :: Mx, G, hn, x, h => by
    rw [List.map_cons, List.nodup_cons] at hn
    show upd (frzA G Mx) y.1 y.2 x.1 = _
    rcases List.mem_cons.mp h with rfl | h
    · exact upd_same
    · rw [upd_ne (fun z => hn.1 (by rw [← z]; exact List.mem_map.mpr ⟨x, h, rfl⟩))]
      exact frzA_at hn.2 x h
theorem Rp.frz {v : V} {d : XD} (n : NewC G Mx) (h : Rp K G Mx v d) : Rp K (frzA G Mx) [] v d := h.mono (fun a o q => q.elim (fun z => .inr (frzA_at n.2 (a, o) z)) (fun z => .inr (frzA_ex n _ _ z))) (frzA_ex n)
theorem RpA.frz {v : List V} {d : List XD} (n : NewC G Mx) (h : RpA K G Mx v d) : RpA K (frzA G Mx) [] v d := h.mono (fun a o q => q.elim (fun z => .inr (frzA_at n.2 (a, o) z)) (fun z => .inr (frzA_ex n _ _ z))) (frzA_ex n)
theorem frzA_fr {p : Addr} (h : Fr G (Mx ++ M) p) : Fr (frzA G Mx) M p := ⟨by rw [frzA_ne (fun x hx => h.2 x (List.mem_append.mpr (.inl hx)))]; exact h.1, fun x hx => h.2 x (List.mem_append.mpr (.inr hx))⟩
/-- a cell more, a tuple more -/
theorem NewC.cell {p : Addr} {o : HO} (h : NewC G Mx) (f : Fr G (Mx ++ M) p) : NewC G ((p, o) :: Mx) := by
  refine ⟨fun x hx => ?_, ?_⟩
  · rcases List.mem_cons.mp hx with rfl | hx
    · exact f.1
    · exact h.1 x hx
  · rw [List.map_cons, List.nodup_cons]
    refine ⟨fun z => ?_, h.2⟩
    obtain ⟨y, hy, e⟩ := List.mem_map.mp z
    exact f.2 y (List.mem_append.mpr (.inl hy)) e
theorem NewC.tup {p : Addr} {o : HO} (h : NewC G Mx) (f : Fr G (Mx ++ M) p) : NewC (upd G p o) Mx :=
  ⟨fun x hx => by rw [upd_ne (f.2 x (List.mem_append.mpr (.inl hx)))]; exact h.1 x hx, h.2⟩
/-- an expression that lays written data -/
def LitOk (K : PySem.W.Frag) (te : KE) (σ : St) (G : Hp) (d : XD) : Prop := ∀ (G0 : Hp) (My M : Mem) (R : KR) (E : KX), Ex G G0 → NewC G0 My → (∀ v G' Mx, Ex G0 G' → NewC G' (Mx ++ My) → Rp K G' Mx v d → R v G' (Mx ++ (My ++ M))) → te σ G0 (My ++ M) R E
def LitsOk (K : PySem.W.Frag) (ta : KA) (σ : St) (G : Hp) (ds : List XD) : Prop := ∀ (G0 : Hp) (My M : Mem) (R : List V → Hp → Mem → Prop) (E : KX), Ex G G0 → NewC G0 My → (∀ vs G' Mx, Ex G0 G' → NewC G' (Mx ++ My) → RpA K G' Mx vs ds → R vs G' (Mx ++ (My ++ M))) → ta σ G0 (My ++ M) R E
end
section
variable {K : PySem.W.Frag} {σ : St} {G : Hp} {te ta tb : KE} {tas : KA} {ds es : List XD} {d : XD}
theorem lit_pure {v : V} (h : ∀ G0 M R E, Ex G G0 → R v G0 M → te σ G0 M R E) (r : Rp K G [] v d) : LitOk K te σ G d := fun G0 My M R E e n q => h G0 _ R E e (q v G0 [] Ex.refl n (r.ex e))
theorem lit_int {i : Int} : LitOk K (kC (.int i)) σ G (.int i) := lit_pure (fun _ _ _ _ _ q => q) (.int i)
theorem lit_bl {i : Bool} : LitOk K (kC (.bl i)) σ G (.bl i) := lit_pure (fun _ _ _ _ _ q => q) (.bl i)
theorem lit_str {i : Str} : LitOk K (kC (.str i)) σ G (.str i) := lit_pure (fun _ _ _ _ _ q => q) (.str i)
theorem lit_non : LitOk K (kC .non) σ G .non := lit_pure (fun _ _ _ _ _ q => q) .non
theorem lit_neg {i : Int} : LitOk K (kUn kNeg (kC (.int i))) σ G (.int (-i)) := lit_pure (fun _ _ _ _ _ q => q) (.int _)
theorem lit_var {i : Nat} {v : V} (h : σ[i]? = some (some v)) (r : Rp K G [] v d) : LitOk K (kVar i) σ G d := lit_pure (v := v) (fun _ _ _ _ _ q => by unfold kVar; rw [h]; exact q) r
theorem lit_dict : LitOk K kDNew σ G .dict := fun G0 My M R E e n q p fp => q _ G0 [(p, .dK [])] Ex.refl (n.cell fp) (.dict (.inl List.mem_cons_self))
theorem lits_nil : LitsOk K kNil σ G [] := fun G0 My M R E e n q => q [] G0 [] Ex.refl n .nil
theorem lits_cons (h : LitOk K te σ G d) (hs : LitsOk K tas σ G ds) : LitsOk K (kCons te tas) σ G (d :: ds) := fun G0 My M R E e n q =>
  h G0 My M _ E e n fun v G1 Mx e1 n1 r1 => by
    rw [← List.append_assoc]
    refine hs G1 (Mx ++ My) M _ E (e.trans e1) n1 fun vs G2 Mz e2 n2 r2 => ?_
    have := q (v :: vs) G2 (Mz ++ Mx) (e1.trans e2) (by rw [List.append_assoc]; exact n2) (.cons (r1.up e2 fun x hx => List.mem_append.mpr (.inr hx)) (r2.up Ex.refl fun x hx => List.mem_append.mpr (.inl hx)))
    simpa [List.append_assoc] using this
theorem lit_tup (h : LitsOk K tas σ G ds) (hl : ds.length ≤ 1000) : LitOk K (kTup tas) σ G (.tup ds) := fun G0 My M R E e n q =>
  h G0 My M _ E e n fun vs G1 Mx e1 n1 r1 => ⟨Nat.le_trans (by rw [r1.len]; exact hl) (by decide), fun p fp => by
    rw [← List.append_assoc] at fp
    exact q _ _ Mx (e1.trans (Ex.new fp)) (n1.tup fp) (.tup sqt_new (r1.ex (Ex.new fp)))⟩
theorem lit_lst (h : LitsOk K tas σ G ds) (hl : ds.length ≤ 1000) : LitOk K (kLst tas) σ G (.list ds) := fun G0 My M R E e n q =>
  h G0 My M _ E e n fun vs G1 Mx e1 n1 r1 => ⟨Nat.le_trans (by rw [r1.len]; exact hl) (by decide), fun p fp => by
    rw [← List.append_assoc] at fp
    exact q _ _ ((p, .lst vs) :: Mx) e1 (n1.cell fp) (.list (.inl List.mem_cons_self) (r1.up Ex.refl fun x hx => List.mem_cons_of_mem _ hx))⟩
theorem lit_add (h1 : LitOk K ta σ G (.list ds)) (h2 : LitOk K tb σ G (.list es)) (hl : (ds ++ es).length ≤ 1000) : LitOk K (kBin kAdd ta tb) σ G (.list (ds ++ es)) := fun G0 My M R E e n q =>
  h1 G0 My M _ E e n fun v G1 Mx e1 n1 r1 => by
    rw [← List.append_assoc]
    refine h2 G1 (Mx ++ My) M _ E (e.trans e1) n1 fun u G2 Mz e2 n2 r2 => ?_
    cases r1 with
    | @list a xs _ a1 s1 =>
      cases r2 with
      | @list b ys _ a2 s2 =>
        have l1 := s1.len
        have l2 := s2.len
        refine ⟨xs, ys, ?_, ?_, Nat.le_trans (m := 1000) (by rw [List.length_append] at hl; omega) (by decide), fun p fp => ?_⟩
        · rcases a1 with z | z
          · exact .inl (by simp [z])
          · exact .inr (e2 _ _ z)
        · rcases a2 with z | z
          · exact .inl (by simp [z])
          · exact .inr z
        · have fp' : Fr G2 ((Mz ++ (Mx ++ My)) ++ M) p := by simpa [List.append_assoc] using fp
          have := q (.ref p) G2 ((p, .lst (xs ++ ys)) :: (Mz ++ Mx)) (e1.trans e2) (by
            have := n2.cell (o := .lst (xs ++ ys)) fp'
            simpa [List.append_assoc] using this) (.list (.inl List.mem_cons_self) ((s1.up e2 fun x hx => by simp [hx]).app (s2.up Ex.refl fun x hx => by simp [hx])))
          simpa [List.append_assoc] using this
theorem lit_pow {i j : Int} (h : CPow i j) : LitOk K (kBin (kI CPow fun i j => .int (i ^ j.toNat)) (kC (.int i)) (kC (.int j))) σ G (.int (i ^ j.toNat)) := lit_pure (v := .int (i ^ j.toNat)) (fun _ _ _ _ _ q => ⟨h, q⟩) (.int _)
/-- one of written things is picked by a draw -/
theorem lit_pick {M : Mem} {R : KR} {E : KX} {i n : Nat} {p : Addr} {c s L : Int} (h : LitOk K te σ G (.list ds)) (hv : σ[i]? = some (some (.ref p))) (hn : M[n]? = some (p, pool c s)) (hs : PoolOk s) (hL : L = ds.length) (h0 : 0 < ds.length) (h1 : ds.length ≤ 1000)
    (q : ∀ v d G' Mx c' s', Ex G G' → NewC G' Mx → d ∈ ds → Rp K G' Mx v d → PoolOk s' → R v G' (Mx ++ M.set n (p, pool c' s'))) : kBin (kIx K) te (kCall (S_law_take K) (kCons (kVar i) (kCons (kC (.int L)) kNil))) σ G M R E := by
  refine h G [] M _ E Ex.refl NewC.nil fun v G1 Mx e1 n1 r1 => ?_
  rw [List.append_nil] at n1
  cases r1 with
  | @list a vs _ ha hs1 =>
    have hl := hs1.len
    rw [List.nil_append]
    simp only [kCall, kCons, kVar, hv]
    have hn2 : (Mx ++ M)[Mx.length + n]? = some (p, pool c s) := by rw [List.getElem?_append_right (by omega), Nat.add_sub_cancel_left]; exact hn
    refine ⟨p, L, Mx.length + n, c, s, rfl, rfl, hn2, hs, by omega, by omega, fun r c' s' r0 r1 hs' => ?_⟩
    obtain ⟨j, rfl⟩ := Int.eq_ofNat_of_zero_le r0
    obtain ⟨y, d, hy, hd, ry⟩ := hs1.get (i := j) (by omega)
    have hne : (a, HO.lst vs) ∈ Mx → (a, HO.lst vs) ∈ (Mx ++ M).set (Mx.length + n) (p, pool c' s') := fun z => by
      rw [List.set_append_right _ _ (by omega)]; exact List.mem_append.mpr (.inl z)
    refine ⟨vs, y, ?_, atI_nat hy, ?_⟩
    · rcases ha with z | z
      · exact .inl (.inl (hne z))
      · exact .inl (.inr (sql_of z))
    · have := q y d G1 Mx c' s' e1 n1 (List.mem_of_getElem? hd) ry hs'
      rw [List.set_append_right _ _ (by omega), Nat.add_sub_cancel_left]; exact this
end
/-! what is known of written things -/
def XD.ty : XD → PT
  | .non => .non | .bl _ => .bool | .int _ => .int | .str _ => .str | .list _ => .list | .tup _ => .tuple | .dict => .dict
theorem rp_ty {K : PySem.W.Frag} {G : Hp} {v : V} {d : XD} (h : Rp K G [] v d) (M : Mem) : TyK K G M v d.ty := by
  cases h with
  | non => exact ty_non
  | bl b => exact ty_bl
  | int i => exact ty_int
  | str s => exact ty_str
  | list h _ =>
    rcases h with z | z
    · cases z
    · exact ty_lst (.inr (sql_of z))
  | tup h _ => exact ty_tup h
  | dict h =>
    rcases h with z | z
    · cases z
    · exact ty_dict (.inr z)
mutual
def XD.toD : XD → Option PyData
  | .non => some .none
  | .bl b => some (.bool b)
  | .int i => some (.int i)
  | .str s => some (.str s)
  | .list l => (XD.toDs l).map .list
  | .tup l => (XD.toDs l).map .tuple
  | .dict => none
def XD.toDs : List XD → Option (List PyData)
  | [] => some []
  | x :: l => match x.toD, XD.toDs l with
    | some d, some ds => some (d :: ds)
    | _, _ => none
end
mutual
theorem rp_dp {K : PySem.W.Frag} {G : Hp} : ∀ {v : V} {d : XD} {e : PyData}, Rp K G [] v d → d.toD = some e → Dp K G v e
  | _, _, _, .non, h => by cases h; exact .non
  | _, _, _, .bl b, h => by cases h; exact .bl b
  | _, _, _, .int b, h => by cases h; exact .int b
  | _, _, _, .str b, h => by cases h; exact .str b
  | _, _, e, .list (ds := ds) ha hs, h => by
    have h : (XD.toDs ds).map PyData.list = some e := h
    obtain ⟨es, h1, rfl⟩ := Option.map_eq_some_iff.mp h
    rcases ha with z | z
    · cases z
    · exact .lst (sql_of z) (rpa_dp hs h1)
  | _, _, e, .tup (ds := ds) ha hs, h => by
    have h : (XD.toDs ds).map PyData.tuple = some e := h
    obtain ⟨es, h1, rfl⟩ := Option.map_eq_some_iff.mp h
    exact .tup ha (rpa_dp hs h1)
  | _, _, _, .dict _, h => by cases h
theorem rpa_dp {K : PySem.W.Frag} {G : Hp} : ∀ {vs : List V} {ds : List XD} {es : List PyData}, RpA K G [] vs ds → XD.toDs ds = some es → DpAll K G vs es
  | _, _, _, .nil, h => by cases h; exact .nil
  | _, _, es, .cons (d := d) (ds := ds) a b, h => by
    have h : (match d.toD, XD.toDs ds with | some d, some ds => some (d :: ds) | _, _ => none) = some es := h
    split at h
    · rename_i d' ds' e1 e2
      cases h
      exact .cons (rp_dp a e1) (rpa_dp b e2)
    · cases h
end
end BT
namespace BT
open PySem PySem.Spec L2
theorem LitOk.use {K : PySem.W.Frag} {te : KE} {σ : St} {G : Hp} {d : XD} {M : Mem} {R : KR} {E : KX} (h : LitOk K te σ G d) (q : ∀ v G' Mx, Ex G G' → NewC G' Mx → Rp K G' Mx v d → R v G' (Mx ++ M)) : te σ G M R E :=
  h G [] M R E Ex.refl NewC.nil fun v G' Mx e n r => by rw [List.append_nil] at n; exact q v G' Mx e n r
theorem Wk.dropP {G : Hp} (Mx : Mem) {M : Mem} : Wk G (Mx ++ M) G M := fun H hv => ⟨hv.ex, fun x hx => hv.mu x (List.mem_append.mpr (.inr hx)), hv.nd.sublist ((List.sublist_append_right Mx M).map _), fun x hx => hv.dj x (List.mem_append.mpr (.inr hx))⟩
end BT
set_option Elab.async false
set_option linter.all false
set_option maxRecDepth 100000
set_option maxHeartbeats 4000000
namespace BT
open PySem PySem.Spec L2
open PyProof.Rows hiding St
/-! ### dicts that are walked: locked while it goes on -/
def unl (G : Hp) (d : Addr) : Hp := fun a => if a = d then none else G a
theorem unl_upd {G : Hp} {d : Addr} {o : HO} (h : G d = none) : unl (upd G d o) d = G := by
  funext a
  unfold unl
  by_cases e : a = d
  · rw [if_pos e, e, h]
  · rw [if_neg e, upd_ne e]
theorem hv_lock {G : Hp} {M1 M2 : Mem} {H : Hp} {d : Addr} {u o : HO} (h : Hv G (M1 ++ (d, u) :: M2) H) : Hv (upd G d o) (M1 ++ M2) (upd H d o) := by
  have hg : G d = none := h.dj (d, u) (by simp)
  have h2 := Wk.drop (G := G) M1 (x := (d, u)) (M2 := M2) H h
  have nd : ∀ x, x ∈ M1 ++ M2 → x.1 ≠ d := fun x hx z => by
    have nd := h.nd
    rw [List.map_append, List.map_cons, List.nodup_append] at nd
    obtain ⟨n1, n2, n3⟩ := nd
    rcases List.mem_append.mp hx with q | q
    · exact n3 x.1 (List.mem_map.mpr ⟨x, q, rfl⟩) d (by simp) z
    · rw [List.nodup_cons] at n2
      exact n2.1 (by rw [← z]; exact List.mem_map.mpr ⟨x, q, rfl⟩)
  refine ⟨fun b v e => ?_, fun x hx => ?_, h2.nd, fun x hx => ?_⟩
  · by_cases hb : b = d
    · subst hb; rw [upd_same] at e ⊢; exact e
    · rw [upd_ne hb] at e ⊢; exact h.ex b v e
  · rw [upd_ne (nd x hx)]; exact h2.mu x hx
  · rw [upd_ne (nd x hx)]; exact h2.dj x hx
theorem hv_unlock {G : Hp} {M : Mem} {H : Hp} {d : Addr} {u o : HO} (h : Hv G M H) (hd : G d = some o) : Hv (unl G d) ((d, u) :: M) (upd H d u) := by
  have nd : ∀ x, x ∈ M → x.1 ≠ d := fun x hx z => by
    have := h.dj x hx
    rw [z, hd] at this; cases this
  refine ⟨fun b v e => ?_, fun x hx => ?_, ?_, fun x hx => ?_⟩
  · unfold unl at e
    by_cases hb : b = d
    · rw [if_pos hb] at e; cases e
    · rw [if_neg hb] at e; rw [upd_ne hb]; exact h.ex b v e
  · rcases List.mem_cons.mp hx with rfl | hx
    · exact upd_same
    · rw [upd_ne (nd x hx)]; exact h.mu x hx
  · rw [List.map_cons, List.nodup_cons]
    refine ⟨fun z => ?_, h.nd⟩
    obtain ⟨x, hx, e⟩ := List.mem_map.mp z
    exact nd x hx e
  · unfold unl
    rcases List.mem_cons.mp hx with rfl | hx
    · rw [if_pos rfl]
    · rw [if_neg (nd x hx)]; exact h.dj x hx
/-- a statement with a dict locked -/
def kLock (t : KS) : KS := fun D σ G M => ∃ (M1 M2 : Mem) (d : Addr) (kvs : List (Key × V)), M = M1 ++ (d, .dK kvs) :: M2 ∧ ∀ od : Obj, G d = none →
  t { nx := fun σ' G' M' => G' d = some (.frz od (.dK kvs)) ∧ D.nx σ' (unl G' d) ((d, .dK kvs) :: M'), rt := fun v G' M' => G' d = some (.frz od (.dK kvs)) ∧ D.rt v (unl G' d) ((d, .dK kvs) :: M'), bk := fun _ _ _ => False, ct := fun _ _ _ => False, xc := fun _ _ _ _ _ => False } σ (upd G d (.frz od (.dK kvs))) (M1 ++ M2)
section
variable {X : Cx} {W : WX} {pos : Pos} {o i e f tg : Expr}
theorem js_lock {s : Stmt} {t : KS} (h : JS X W s t) : JS X W s (kLock t) :=
  ps_mono (ps_lock h) fun D σ H ⟨G, M, d, hv, ⟨M1, M2, dd, kvs, e, q⟩, en⟩ => by
    subst e
    exact ⟨dd, .dK kvs, hv.mu (dd, .dK kvs) (by simp), trivial, fun od => ⟨upd G dd (.frz od (.dK kvs)), M1 ++ M2, _, hv_lock hv, q od (hv.dj (dd, .dK kvs) (by simp)), ⟨fun σ' G' M' H' hv' ⟨e1, e2⟩ => ⟨hv'.ex _ _ e1, en.nx σ' _ _ _ (hv_unlock hv' e1) e2⟩, fun v G' M' H' hv' ⟨e1, e2⟩ => ⟨hv'.ex _ _ e1, en.rt v _ _ _ (hv_unlock hv' e1) e2⟩, fun _ _ _ _ _ z => z.elim, fun _ _ _ _ _ z => z.elim, fun _ _ _ _ _ _ _ z => z.elim⟩⟩⟩
/-- an expression with a dict locked -/
def kLockE (t : KE) : KE := fun σ G M R E => ∃ (M1 M2 : Mem) (d : Addr) (kvs : List (Key × V)), M = M1 ++ (d, .dK kvs) :: M2 ∧ ∀ od : Obj, G d = none →
  t σ (upd G d (.frz od (.dK kvs))) (M1 ++ M2) (fun v G' M' => G' d = some (.frz od (.dK kvs)) ∧ R v (unl G' d) ((d, .dK kvs) :: M')) (fun _ _ _ _ => False)
theorem je_lock {t : KE} (h : JE X W e t) : JE X W e (kLockE t) :=
  pe_mono (pe_lock h) fun σ H Q ⟨G, M, R, E, hv, ⟨M1, M2, dd, kvs, e, q⟩, hR, hE⟩ => by
    subst e
    exact ⟨dd, .dK kvs, hv.mu (dd, .dK kvs) (by simp), trivial, fun od => ⟨upd G dd (.frz od (.dK kvs)), M1 ++ M2, _, _, hv_lock hv, q od (hv.dj (dd, .dK kvs) (by simp)), fun v G' M' H' hv' ⟨e1, e2⟩ => ⟨hv'.ex _ _ e1, hR v _ _ _ (hv_unlock hv' e1) e2⟩, fun _ _ _ _ _ _ z => z.elim⟩⟩
/-! what is walked -/
def srcK (d : Addr) (o : Obj) (kvs : List (Key × V)) : Src := ⟨kvs.length, fun i => .inl (match kvs[i]? with | some p => kV p.1 | none => .non), fun G M => G d = some (.frz o (.dK kvs))⟩
def srcVs (d : Addr) (o : Obj) (kvs : List (Key × V)) : Src := ⟨kvs.length, fun i => .inl (match kvs[i]? with | some p => p.2 | none => .non), fun G M => G d = some (.frz o (.dK kvs))⟩
def srcI (d : Addr) (o : Obj) (kvs : List (Key × V)) : Src := ⟨kvs.length, fun i => .inr (match kvs[i]? with | some p => [kV p.1, p.2] | none => []), fun G M => G d = some (.frz o (.dK kvs))⟩
theorem goes_K {d : Addr} {o : Obj} {kvs : List (Key × V)} : Goes (srcK d o kvs) (Itk d o kvs) where
  go := fun i G M H hv ok hi => ⟨hv.ex _ _ ok, hi⟩
  stop := fun i G M H hv ok hi => ⟨hv.ex _ _ ok, hi⟩
  yld := fun i G M H x H' hv ok hi y => by
    obtain ⟨e1, k, v, e2, e3⟩ := y
    show x = (match kvs[i]? with | some p => kV p.1 | none => .non) ∧ H' = H
    rw [e2]; exact ⟨e3, e1⟩
theorem goes_Vs {d : Addr} {o : Obj} {kvs : List (Key × V)} : Goes (srcVs d o kvs) (Itd d o kvs) where
  go := fun i G M H hv ok hi => ⟨hv.ex _ _ ok, hi⟩
  stop := fun i G M H hv ok hi => ⟨hv.ex _ _ ok, hi⟩
  yld := fun i G M H x H' hv ok hi y => by
    obtain ⟨e1, k, e2⟩ := y
    show x = (match kvs[i]? with | some p => p.2 | none => .non) ∧ H' = H
    rw [e2]; exact ⟨rfl, e1⟩
theorem goes_I {d : Addr} {o : Obj} {kvs : List (Key × V)} : Goes (srcI d o kvs) (Iti d o kvs) where
  go := fun i G M H hv ok hi => ⟨hv.ex _ _ ok, hi⟩
  stop := fun i G M H hv ok hi => ⟨hv.ex _ _ ok, hi⟩
  yld := fun i G M H x H' hv ok hi y => by
    obtain ⟨T, k, v, e1, e2, e3, e4⟩ := y
    show ∃ T, x = .ref T ∧ H T = none ∧ H' = upd H T (.tup (match kvs[i]? with | some p => [kV p.1, p.2] | none => []))
    rw [e1]; exact ⟨T, e2, e3, e4⟩
def kiKeys (t : KE) : KI := fun σ G M R E => t σ G M (fun x G M => match x with
  | .ref d => ∃ o kvs, G d = some (.frz o (.dK kvs)) ∧ R (srcK d o kvs) G M
  | _ => False) E
def kiVals (t : KE) : KI := fun σ G M R E => t σ G M (fun x G M => match x with
  | .ref d => ∃ o kvs, G d = some (.frz o (.dK kvs)) ∧ R (srcVs d o kvs) G M
  | _ => False) E
def kiItems (t : KE) : KI := fun σ G M R E => t σ G M (fun x G M => match x with
  | .ref d => ∃ o kvs, G d = some (.frz o (.dK kvs)) ∧ R (srcI d o kvs) G M
  | _ => False) E
theorem ji_keys {t : KE} (h : JE X W e t) : JI X W tg e (kiKeys t) :=
  pi_mono (pi_keys h) fun σ H Q ⟨G, M, R, E, hv, h, hR, hE⟩ => ⟨G, M, _, E, hv, h, fun x G1 M1 H1 hv1 q => by
    match x, q with
    | .ref d, ⟨o, kvs, q1, q2⟩ => exact ⟨d, o, rfl, .inl ⟨kvs, hv1.ex _ _ q1, hR _ G1 M1 H1 hv1 q2 _ goes_K⟩⟩, hE⟩
theorem ji_vals {t : KE} {apos cpos : Pos} (h : JE X W e t) (hbase : attributeBase e "values" X.env (eval e X.env) = eval e X.env := by rfl) (hline : (apos.endLine == cpos.line) = true := by rfl) : JI X W tg (.Call (.Attribute e "values" apos) [] [] cpos) (kiVals t) :=
  pi_mono (pi_values h hbase hline) fun σ H Q ⟨G, M, R, E, hv, h, hR, hE⟩ => ⟨G, M, _, E, hv, h, fun x G1 M1 H1 hv1 q => by
    match x, q with
    | .ref d, ⟨o, kvs, q1, q2⟩ => exact ⟨d, o, kvs, rfl, hv1.ex _ _ q1, hR _ G1 M1 H1 hv1 q2 _ goes_Vs⟩, hE⟩
theorem ji_items {t : KE} {apos cpos tpos : Pos} {elts : List Expr} {kk : Nat} (h : JE X W e t) (hbase : attributeBase e "items" X.env (eval e X.env) = eval e X.env := by rfl) (hline : (apos.endLine == cpos.line) = true := by rfl) : JI X W (.Tuple elts kk tpos) (.Call (.Attribute e "items" apos) [] [] cpos) (kiItems t) :=
  pi_mono (pi_items h hbase hline) fun σ H Q ⟨G, M, R, E, hv, h, hR, hE⟩ => ⟨G, M, _, E, hv, h, fun x G1 M1 H1 hv1 q => by
    match x, q with
    | .ref d, ⟨o, kvs, q1, q2⟩ => exact ⟨d, o, kvs, rfl, hv1.ex _ _ q1, hR _ G1 M1 H1 hv1 q2 _ goes_I⟩, hE⟩
theorem ex_lock {G : Hp} {d : Addr} {o : HO} (h : G d = none) : Ex G (upd G d o) := fun a u e => by
  rw [upd_ne (fun z => by rw [z, h] at e; cases e)]; exact e
/-- d[k], also while d is walked -/
def kDGetF : KR2 := fun x y G M R => match x with
  | .ref a => ∃ (kvs : List (Key × V)) (k : Key) (v : V), (At G M a (.dK kvs) ∨ ∃ od, G a = some (.frz od (.dK kvs))) ∧ y = kV k ∧ valV kvs k = some v ∧ R v G M
  | _ => False
theorem je_dgetF {ta tb : KE} (hu : X.A.units + 64 < cLine) (ha : JE X W o ta) (hb : JE X W i tb) (hs : NoSl i := by exact fun _ _ => rfl) : JE X W (.Subscript o i pos) (kBin kDGetF ta tb) :=
  pe_mono (pe_dget (by omega) ha hb hs) fun σ H Q ⟨G, M, R, E, hv, h, hR, hE⟩ => ⟨G, M, _, E, hv, h, fun x G1 M1 H1 hv1 q1 => ⟨G1, M1, _, E, hv1, q1, fun y G2 M2 H2 hv2 q2 => by
    match x, q2 with
    | .ref a, ⟨kvs, k, v, q3, q4, q5, q6⟩ =>
      subst q4
      refine ⟨a, v, rfl, ?_, hR _ G2 M2 H2 hv2 q6⟩
      rw [← q5]
      rcases q3 with q3 | ⟨od, q3⟩
      · exact DGet.k (hv2.at q3)
      · exact .inl ⟨kvs, k, .inr ⟨od, hv2.ex _ _ q3⟩, rfl, rfl⟩, hE⟩, hE⟩
/-- list(d.items()) -/
def kItems (t : KE) : KE := fun σ G M R E => t σ G M (fun x G M => match x with
  | .ref d => ∃ kvs, At G M d (.dK kvs) ∧ ∀ (G' : Hp) (p : Addr) (ts : List Addr), Ex G G' → Fr G' M p → ts.length = kvs.length → (∀ (i : Nat) (q : Key × V), kvs[i]? = some q → ∃ T, ts[i]? = some T ∧ G' T = some (.tup [kV q.1, q.2])) → R (.ref p) G' ((p, .lst (ts.map V.ref)) :: M)
  | _ => False) E
theorem paired_get2 {α β : Type} {F : α → β → Prop} : ∀ {xs : List α} {ys : List β}, Paired F xs ys → ∀ {i : Nat} {y : β}, ys[i]? = some y → ∃ x, xs[i]? = some x ∧ F x y
  | _, _, .nil, _, _, h => by simp at h
  | _, _, .cons r t, 0, y, h => by
    have e := Option.some.inj h
    subst e
    exact ⟨_, rfl, r⟩
  | _, _, .cons r t, i + 1, y, h => by
    obtain ⟨x, h1, h2⟩ := paired_get2 t (i := i) (y := y) (by simpa using h)
    exact ⟨x, by simpa using h1, h2⟩
theorem je_items {t : KE} {p apos cpos pos : Pos} (hm : X.mg "list" = none) (he : JE X W e t) (hc : X.calm = true := by rfl) (hg : Gl X "list" := by rfl) (hv : bootBuiltins "list" = some (.type "list") := by decide +kernel) (hbase : attributeBase e "items" X.env (eval e X.env) = eval e X.env := by rfl) (hline : (apos.endLine == cpos.line) = true := by rfl)
    (hs : starEach [.Call (.Attribute e "items" apos) [] [] cpos] X.env = (false, eval (.Call (.Attribute e "items" apos) [] [] cpos) X.env) :: starEach [] X.env := by rfl) :
    JE X W (.Call (.Name "list" p) [.Call (.Attribute e "items" apos) [] [] cpos] [] pos) (kItems t) :=
  pe_mono (LiI.pe_listItems hc he hg hm hv hbase hline hs) fun σ H Q ⟨G, M, R, E, hv, h, hR, hE⟩ => ⟨G, M, _, E, hv, h, fun x G1 M1 H1 hv1 q => by
    match x, q with
    | .ref d, ⟨kvs, q1, q2⟩ =>
      refine ⟨d, kvs, rfl, hv1.at q1, fun H' p ts ex hp hts hpt hpl pr => ?_⟩
      obtain ⟨G', hG'⟩ : ∃ G' : Hp, G' = fun a => if a ∈ ts then H' a else G1 a := ⟨_, rfl⟩
      have eG : Ex G1 G' := fun a u e => by
        rw [hG']
        show (if a ∈ ts then H' a else G1 a) = some u
        rw [if_neg (fun z => by have := hts a z; rw [hv1.ex a u e] at this; cases this)]; exact e
      have gp : G1 p = none := by
        cases e : G1 p with
        | none => rfl
        | some u => rw [hv1.ex p u e] at hp; cases hp
      have mp : ∀ x, x ∈ M1 → x.1 ≠ p := fun x hx z => by have := hv1.mu x hx; rw [z, hp] at this; cases this
      have mt : ∀ x, x ∈ M1 → x.1 ∉ ts := fun x hx z => by have := hv1.mu x hx; rw [hts _ z] at this; cases this
      have fp : Fr G' M1 p := ⟨by rw [hG']; show (if p ∈ ts then _ else _) = none; rw [if_neg hpt]; exact gp, mp⟩
      have hv2 : Hv G' ((p, .lst (ts.map V.ref)) :: M1) H' := by
        refine ⟨fun a u e => ?_, fun x hx => ?_, ?_, fun x hx => ?_⟩
        · rw [hG'] at e
          have e : (if a ∈ ts then H' a else G1 a) = some u := e
          split at e
          · exact e
          · exact ex a u (hv1.ex a u e)
        · rcases List.mem_cons.mp hx with rfl | hx
          · exact hpl
          · exact ex _ _ (hv1.mu x hx)
        · rw [List.map_cons, List.nodup_cons]
          refine ⟨fun z => ?_, hv1.nd⟩
          obtain ⟨x, hx, e⟩ := List.mem_map.mp z
          exact mp x hx e
        · rw [hG']
          rcases List.mem_cons.mp hx with rfl | hx
          · show (if p ∈ ts then _ else _) = none
            rw [if_neg hpt]; exact gp
          · show (if x.1 ∈ ts then _ else _) = none
            rw [if_neg (mt x hx)]; exact hv1.dj x hx
      refine hR _ G' _ H' hv2 (q2 G' p ts eG fp (Paired.length pr) fun i kv hkv => ?_)
      obtain ⟨T, h1, h2⟩ := paired_get2 pr hkv
      refine ⟨T, h1, ?_⟩
      rw [hG']
      show (if T ∈ ts then H' T else _) = _
      rw [if_pos (List.mem_of_getElem? h1)]; exact h2, hE⟩
end
end BT
set_option Elab.async false
set_option linter.all false
set_option maxRecDepth 100000
set_option maxHeartbeats 4000000
namespace BT
open PySem PySem.Spec L2
open PyProof.Rows hiding St
/-! ### a statement at which some heap is known to be as told -/
def kH (t : KS) : KS := fun D σ G M => (∃ H, Hv G M H) → ∃ G' M', Wk G M G' M' ∧ t D σ G' M'
theorem js_h {X : Cx} {W : WX} {s : Stmt} {t : KS} (h : JS X W s t) : JS X W s (kH t) := ps_mono h fun D σ H ⟨G, M, d, hv, q, en⟩ => by
  obtain ⟨G', M', wk, q⟩ := q ⟨H, hv⟩
  exact ⟨G', M', d, wk H hv, q, en⟩
/-- a cell may be frozen -/
theorem Hv.fz {G : Hp} {M : Mem} {p : Addr} {o : HO} (h : ∃ H, Hv G ((p, o) :: M) H) : Ex G (upd G p o) := by
  obtain ⟨H, hv⟩ := h
  exact Ex.new' (hv.dj (p, o) List.mem_cons_self)
theorem Hv.no {G : Hp} {M : Mem} {x : Addr × HO} (h : ∃ H, Hv G M H) (hx : x ∈ M) : G x.1 = none := by
  obtain ⟨H, hv⟩ := h
  exact hv.dj x hx
theorem Hv.ne {G : Hp} {M : Mem} {x y : Addr × HO} {i j : Nat} (h : ∃ H, Hv G M H) (hx : M[i]? = some x) (hy : M[j]? = some y) (n : i ≠ j) : x.1 ≠ y.1 := fun e => by
  obtain ⟨H, hv⟩ := h
  exact n (nodup_at M j y.1 y.2 x i hv.nd hy hx e)
end BT
namespace BT
open PySem PySem.Spec L2
theorem Hv.newc {G : Hp} {Mx M : Mem} (h : ∃ H, Hv G (Mx ++ M) H) : NewC G Mx := by
  obtain ⟨H, hv⟩ := h
  exact ⟨fun x hx => hv.dj x (List.mem_append.mpr (.inl hx)), hv.nd.sublist ((List.sublist_append_left Mx M).map _)⟩
end BT
set_option Elab.async false
set_option linter.all false
set_option maxRecDepth 100000
set_option maxHeartbeats 4000000
namespace BT
open PySem PySem.Spec L2
open PyProof.Rows hiding St
/-! ### defs that are called where no guard stands; repr -/
structure GFn (P : Program) (w : World) (K : PySem.W.Frag) (mg : Str → Option Value) (base : Heap) (k : Nat) (f : Addr) (fd : FuncData) (ps : List Str) (sp : Sp) : Prop where
  len : ∀ vs H Q E, sp vs H Q E → vs.length = ps.length
  go : ∀ {A : Around} {outer : List Env} {s : Shared} {H : Hp} {args : Args} {us : List Value} {vs : List V} {Q : VK} {E : XK}, A.guards = some [] → Room k A → Env0 P w K mg base A outer s H → BindsTo s fd args (ps.zip us) → Vals vs us → sp vs H Q E →
    codeAny (model P w) A (.call (.ref f) args) (CR (L2.CX P w) outer P w H s Q E) s
section
variable {P : Program} {w : World} {K : PySem.W.Frag} {mg : Str → Option Value} {base : Heap} {k : Nat} {f : Addr} {fd : FuncData} {ps : List Str} {sp : Sp}
theorem GFn.mono {j : Nat} (F : GFn P w K mg base j f fd ps sp) (h : j ≤ k) : GFn P w K mg base k f fd ps sp := ⟨F.len, fun g r => F.go g (r.mono h)⟩
theorem FnOk.guarded (F : FnOk P w K mg base (L2.CX P w) k f fd ps sp) : GFn P w K mg base k f fd ps sp := ⟨F.len, fun _ r e b v q => F.run _ _ _ _ _ _ _ _ _ r e b v q⟩
theorem gfn_mk {x qual : Str} {st : Stmt} {N : List Str} (F : Fun K x qual st f fd) (sc : FnScope N ps (defScope st)) (len : ∀ vs H Q E, sp vs H Q E → vs.length = ps.length)
    (hbd : ∀ (cdv : Value) (A : Around) (outer : List Env) (s : Shared) (H : Hp) (vs : List V) (Q : VK) (E : XK), A.guards = some [] → Room k (A.deeper (envOfC qual (defScope st) s.heap.objs.size f cdv)) → sp vs H Q E →
      ∃ t, PSs (cxOf (L2.CX P w) P w K mg base N qual (defScope st) f cdv A outer s H E) (defBody st) t ∧ t { nx := fun _ H' => Q .non H', rt := Q } (start N vs) H) : GFn P w K mg base (k + 1) f fd ps sp := by
  obtain ⟨o1, o2, o3, o4, o5, o6, cdv, o8, o9, rfl, lk, hcd⟩ := F.ex
  refine ⟨len, fun {A outer s H args us vs Q E} gd rm en bd rv hsp => ?_⟩
  have hln := len _ _ _ _ hsp
  have inK : K.In s.heap := en.mod.kin.keeps fun a u z => (en.bs a u z).1
  have nolim : s.heap.NoLimit := en.mod.nolimit.keeps fun a u z => (en.bs a u z).1
  have kinds : ∀ z ∈ ps.zip us, (defScope st).names.lookup z.1 = some .local ∨ ((defScope st).names.lookup z.1 = some .cell ∧ ((cellsFrom (s.heap.objs.size + 1) (defScope st).names []).lookup z.1).isSome = true) := fun z hz => by
    obtain ⟨n, u⟩ := z
    rcases sc.par n (List.of_mem_zip hz).1 with h | h
    · exact .inl h
    · exact .inr ⟨h, PySem.W.cellsFrom_some _ _ _ (.inl h)⟩
  refine codeAny_call_function rm.depth (inK _ _ lk) rfl sc.co sc.gen rfl (PySem.W.codeRec_of inK hcd) (bd _ _ _ _ ?_)
  refine wpAny_newFunctionEnv_cells sc.kind kinds fun env hen s1 x => ?_
  subst hen
  refine ⟨nolim.keeps x.toInCall.keep, codeAny_func ?_⟩
  obtain ⟨t, ht, hq⟩ := hbd cdv A outer s H vs Q E gd (rm.deeper _) hsp
  have I := inv_start (CX := L2.CX P w) (E := E) sc rm.hd en hln rv x
  have fin : ∀ {σ' : St} {H' : Hp} {v : V} {u : Value} {s' : Shared}, Inv (cxOf (L2.CX P w) P w K mg base N qual (defScope st) f cdv A outer s H E) [] σ' H' s' → RelV v u → Q v H' → CE outer P w H s Q u s' := fun J r2 q => ⟨_, _, J.os, J.bare, J.base, J.hok, r2, q⟩
  refine wpAny_mono (ht.run [] s1 (start N vs) H _ I hq) (fun fl s' hs => ?_) fun e s' hs => hs
  match fl, hs with
  | .ret u, ⟨v, σ', H', J, r2, q⟩ => exact fin J r2 q
  | .next, ⟨σ', H', J, q⟩ => exact fin (v := V.non) (u := Value.none) J rfl q
  | .brk, ⟨_, _, _, z⟩ => exact z.elim
  | .cont, ⟨_, _, _, z⟩ => exact z.elim
/-- a def with its promise, of this kind -/
theorem gfn_ok {x qual : Str} {st : Stmt} {N : List Str} {S : KSp} (F : Fun K x qual st f fd) (sc : FnScope N ps (defScope st)) (len : ∀ vs G M R X, S vs G M R X → vs.length = ps.length)
    (hbody : ∀ (cdv : Value) (A : Around) (outer : List Env) (s : Shared) (H : Hp) (E : XK), A.guards = some [] → Room k (A.deeper (envOfC qual (defScope st) s.heap.objs.size f cdv)) →
      ∃ t, JSs (cxOf (L2.CX P w) P w K mg base N qual (defScope st) f cdv A outer s H E) (fun c d _ H => E c d H) (defBody st) t ∧
        ∀ vs G M R Z, S vs G M R Z → t { nx := fun _ G M => wkR R .non G M, rt := wkR R, xc := fun c d _ G M => wkX Z c d G M } (start N vs) G M) : GFn P w K mg base (k + 1) f fd ps (lift S) := by
  refine gfn_mk F sc (fun vs H Q E ⟨G, M, R, Z, _, h, _⟩ => len vs G M R Z h) fun cdv A outer s H vs Q E hg hr ⟨G, M, R, Z, hv, h, hR, hZ⟩ => ?_
  obtain ⟨t, j, q⟩ := hbody cdv A outer s H E hg hr
  exact ⟨_, j, G, M, _, hv, q vs G M R Z h, ⟨fun σ G M H hv h => (h H hv).elim fun G' h => h.elim fun M' h => hR _ G' M' H h.1 h.2, fun v G M H hv h => (h H hv).elim fun G' h => h.elim fun M' h => hR _ G' M' H h.1 h.2, fun _ _ _ _ _ z => z.elim, fun _ _ _ _ _ z => z.elim, fun c a σ G M H hv ⟨G', M', w, q⟩ => hZ c a G' M' H (w H hv) q⟩⟩
structure DefG (P : Program) (w : World) (K : PySem.W.Frag) (mg : Str → Option Value) (base : Heap) (lev : Nat) (x : Str) (ps : List Str) (S : KSp) : Prop where
  ex : ∃ f fd, GFn P w K mg base lev f fd ps (lift S) ∧ mg x = some (.ref f) ∧ PySem.W.keepIn K (.ref f) = true ∧ Binds K fd ps []
end
section
variable {X : Cx} {W : WX} {pos p : Pos} {e : Expr} {es : List Expr} {x : Str} {k lev : Nat} {ps : List Str} {S : KSp} {t : KA}
theorem je_callG (D : DefG X.prog X.w X.K X.mg X.base lev x ps S) (hg0 : X.A.guards = some []) (hr : Room k X.A) (tk : Takes X W) (ha : JA X W (e :: es) t) (hl : lev ≤ k := by decide) (hg : Gl X x := by rfl)
    (hdb : (x == ("__debug__" : Str)) = false := by decide) (he : starEach (e :: es) X.env = (false, eval e X.env) :: starEach es X.env := by rfl) (hpl : (backTo pos (starEach es X.env)).any (·.1) = false := by rfl) :
    JE X W (.Call (.Name x p) (e :: es) [] pos) (kCall S t) := by
  obtain ⟨f, fd, F, hm, hk, hb⟩ := D.ex
  have F := F.mono hl
  refine ⟨fun pins s σ H Q I ⟨G, M, R, E, hv, h, hR, hE⟩ => ?_⟩
  refine wpAny_Call_Name_kw (ld_glob I hg hm ?_ hdb)
  refine PySem.W.callWith_K (h₀ := X.base) I.ok.mod.kin hk (thn (ha.run pos pins s σ H (fun vs H1 => lift S vs H1 Q (WE W σ)) I ?_) fun us s1 ⟨vs, H1, I1, r, q⟩ => ⟨I1.kIn, ?_⟩) he hpl
  · exact ⟨G, M, _, E, hv, h, fun vs G1 M1 H1 hv1 q => ⟨G1, M1, R, E, hv1, q, hR, hE⟩, hE⟩
  have hl : us.length = ps.length := by rw [← r.length]; exact F.len _ _ _ _ q
  have b := hb s1 us I1.kIn (by rw [List.append_nil]; exact hl)
  rw [List.append_nil] at b
  refine wpAny_call (codeAny_mono (F.go (args := ⟨us, []⟩) hg0 hr I1.env0 b r q) fun r s' hq => ?_)
  match r, hq with
  | .error e, hq => exact passAt tk σ pins H1 s1 e s' I1 hq
  | .ok (.ret u), hq => exact I1.after hq
  | .ok .next, hq => exact False.elim hq
  | .ok .brk, hq => exact False.elim hq
  | .ok .cont, hq => exact False.elim hq
/-- repr of data -/
def kRepr (K : PySem.W.Frag) : KC := fun vs G M R => match vs with
  | [x] => ∃ (d : PyData), DatAt K G M x d ∧ d.showable = true ∧ d.hasDict = false ∧ d.depth ≤ 30 ∧ d.shown.length ≤ sizeLine ∧ R (.str d.shown) G M
  | _ => False
theorem kc_repr (hg : X.A.guards = some []) (hu : X.A.units + 64 < cLine) : KCall X (.builtin "repr") (kRepr X.K) := by
  intro pins s σ H vs us Q I r h
  obtain ⟨G, M, R, hv, h, hR⟩ := h
  match vs, h with
  | [x], ⟨d, h1, h2, h3, h4, h5, h6⟩ =>
    have hd := hv.dat h1
    cases r with
    | @cons _ u _ _ rx rr =>
      cases rr
      have fin : ∀ (h' : Heap) (t : Tok) (tk : Tok), (∀ b o, s.heap.get? b = some o → h'.get? b = some o) → EP X pins σ Q (.str d.shown t) { s with heap := h', toks := tk } := fun h' t tk hk => ⟨.str d.shown, H, I.kept hk, ⟨t, rfl⟩, hR _ _ _ _ hv h6⟩
      cases hd with
      | non =>
        obtain rfl : u = Value.none := rx
        exact PySem.P.repr_of_none (fin _ _ _ fun _ _ z => z)
      | bl b =>
        obtain rfl : u = Value.bool b := rx
        exact PySem.P.repr_of_bool (fin _ _ _ fun _ _ z => z)
      | int i =>
        obtain ⟨t, rfl⟩ := (show ∃ t, u = Value.int i t from rx)
        exact PySem.P.repr_of_int (of_decide_eq_true (by simpa [PyData.showable] using h2)) (fin _ _ _ fun _ _ z => z)
      | str z =>
        obtain ⟨t, rfl⟩ := (show ∃ t, u = Value.str z t from rx)
        exact PySem.P.repr_of_str (fin _ _ _ fun _ _ z => z) h5
      | @lst a xs ds h7 h8 =>
        obtain rfl : u = Value.ref a := rx
        obtain ⟨as, rd⟩ := Dp.reads I (.list ds) (.ref a) (.ref a) (.lst h7 h8) rfl
        exact repr_of_reads' rd h2 (fun z => by rw [h3] at z; cases z) hg (by omega) (fun _ _ z => z) (fun h' u tk hk => fin _ _ _ hk) h5
      | @tup a xs ds h7 h8 =>
        obtain rfl : u = Value.ref a := rx
        obtain ⟨as, rd⟩ := Dp.reads I (.tuple ds) (.ref a) (.ref a) (.tup h7 h8) rfl
        exact repr_of_reads' rd h2 (fun z => by rw [h3] at z; cases z) hg (by omega) (fun _ _ z => z) (fun h' u tk hk => fin _ _ _ hk) h5
end
end BT
namespace BT
open PySem PySem.Spec L2
open PyProof.Rows hiding St
/-- the law's own call, where nothing but the script is known of the heap -/
theorem call_known {P : Program} {w : World} {K : PySem.W.Frag} {mg mb : Str → Option Value} {k : Nat} {fa a : Addr} {fd : FuncData} {x : Str} {sp : Sp} {s : Shared} {us : List Value} {ns : List Int} (inK : K.In s.heap) (gl : s.heap.Ns mainGlobals mg) (bi : s.heap.Ns builtinsNs mb) (boot : ∀ x : Str, x ≠ "__name__" → mb x = bootBuiltins x)
    (nolim : s.heap.NoLimit) (gens : s.gens = #[]) (hobj : s.heap.get? a = some { cls := .type "list", data := .seq us.toArray }) (rm : Room k callerA) (F : ∀ base : Heap, K.In base → base.Ns mainGlobals mg → GFn P w K mg base k fa fd [x] sp) (bd : ∀ (s : Shared) (u : Value), BindsTo s fd ⟨[u], []⟩ [(x, u)])
    (H : Hp) (only : L2.Only H) (hs : sp [.ref a] H (fun v _ => v = .bl true) fun _ _ _ => False) (hok : HOk P w H s.heap) (one : ∀ b, H b ≠ none → b = a) (own : H a ≠ none → K.lookup a = none) :
    codeAny (model P w) callerA (.call (.ref fa) ⟨[.ref a], []⟩) (fun r s' => r = .ok (.ret (.bool true)) ∧ OldK s.heap s'.heap ∧ s'.os = s.os ∧ AllBare s'.gens) s := by
  have seen : ∀ {b : Addr} {o : Obj}, s.heap.get? b = some o → H b = none → (hidT s.heap H).get? b = some o := fun e z => hidT_get e z
  have nodict : ∀ {b : Addr} {o : Obj} {es : Array DictEntry} {ep : Nat}, s.heap.get? b = some o → o.data = .dict es ep → H b = none := fun {b o es ep} e dd => by
    apply Classical.byContradiction
    intro z
    have ba := one b z
    subst ba
    rw [hobj] at e
    cases e
    exact absurd (show Data.seq us.toArray _ = Data.dict es ep from dd) (by intro y; cases y)
  have ns2 : ∀ {b : Addr} {m : Str → Option Value}, s.heap.Ns b m → (hidT s.heap H).Ns b m := fun ⟨o, es, ep, e, dd, r⟩ => ⟨o, es, ep, seen e (nodict e dd), dd, r⟩
  have inB : K.In (hidT s.heap H) := fun b o e => seen (inK b o e) (by
    apply Classical.byContradiction
    intro z
    have ba := one b z
    subst ba
    rw [own z] at e
    cases e)
  obtain ⟨mc, l1, l2⟩ := nolim
  have md : Mod K mg (hidT s.heap H) := ⟨inB, ns2 gl, ⟨mb, ns2 bi, boot⟩, ⟨mc, ns2 l1, l2⟩⟩
  have en : Env0 P w K mg (hidT s.heap H) callerA [] s H := ⟨rfl, md, fun b o e => of_hidT e, Nat.le_of_eq (hidT_size _ _), trivial, (fun b z => nomatch z), hok, .of_eq gens⟩
  refine codeAny_mono ((F _ inB (ns2 gl)).go (args := ⟨[.ref a], []⟩) (us := [.ref a]) (vs := [.ref a]) rfl rm en (bd s (.ref a)) (.cons rfl .nil) hs) fun r s' h => ?_
  match r, h with
  | .error e, h => exact (cx_none h).elim
  | .ok .next, h => exact False.elim h
  | .ok .brk, h => exact False.elim h
  | .ok .cont, h => exact False.elim h
  | .ok (.ret u), ⟨v, H', h1, h2, un, h3, h4, h5⟩ =>
    have e5 : v = .bl true := h5
    subst e5
    obtain rfl : u = Value.bool true := h4
    refine ⟨rfl, OldK.of_keep fun b o e => ?_, h1, h2⟩
    by_cases z : H b = none
    · exact un.keep b o e z (fun y => nomatch y) (by simp)
    · rcases only b with y | ⟨ob, xs, y⟩
      · exact (z y).elim
      · obtain ⟨e1, _⟩ := hok b _ y
        obtain ⟨e2, _⟩ := h3 b _ (un.frzs b ob _ y)
        rw [e] at e1
        cases e1
        exact e2
theorem law_callG {P : Program} {w : World} {K : PySem.W.Frag} {mg mb : Str → Option Value} {k : Nat} {fa a : Addr} {fd : FuncData} {x : Str} {sp : Sp} {s : Shared} {us : List Value} {ns : List Int} (inK : K.In s.heap) (gl : s.heap.Ns mainGlobals mg) (bi : s.heap.Ns builtinsNs mb) (boot : ∀ x : Str, x ≠ "__name__" → mb x = bootBuiltins x)
    (nolim : s.heap.NoLimit) (gens : s.gens = #[]) (hobj : s.heap.get? a = some { cls := .type "list", data := .seq us.toArray }) (hi : IntsAre us ns) (hl : ns.length ≤ sizeLine) (rm : Room k callerA) (F : ∀ base : Heap, K.In base → base.Ns mainGlobals mg → GFn P w K mg base k fa fd [x] sp)
    (bd : ∀ (s : Shared) (u : Value), BindsTo s fd ⟨[u], []⟩ [(x, u)]) (hs : ∀ H : Hp, L2.Only H → SqL K H a (ns.map V.int) → sp [.ref a] H (fun v _ => v = .bl true) fun _ _ _ => False) :
    codeAny (model P w) callerA (.call (.ref fa) ⟨[.ref a], []⟩) (fun r s' => r = .ok (.ret (.bool true)) ∧ OldK s.heap s'.heap ∧ s'.os = s.os ∧ AllBare s'.gens) s := by
  have rv := L2.vals_ints hi
  by_cases own : K.lookup a = none
  · obtain ⟨H, hH⟩ : ∃ H : Hp, H = fun b => if b = a then some (.frz { cls := .type "list", data := .seq us.toArray } (.lst (ns.map V.int))) else none := ⟨_, rfl⟩
    have at_ : ∀ b, (b = a ∧ H b = some (.frz { cls := .type "list", data := .seq us.toArray } (.lst (ns.map V.int)))) ∨ (b ≠ a ∧ H b = none) := fun b => by
      rw [hH]
      by_cases z : b = a
      · exact .inl ⟨z, if_pos z⟩
      · exact .inr ⟨z, if_neg z⟩
    have atA : H a = some (.frz { cls := .type "list", data := .seq us.toArray } (.lst (ns.map V.int))) := by
      rcases at_ a with h | h
      · exact h.2
      · exact (h.1 rfl).elim
    have only : L2.Only H := fun b => (at_ b).elim (fun h => .inr ⟨_, _, h.2⟩) fun h => .inl h.2
    refine call_known (ns := ns) inK gl bi boot nolim gens hobj rm F bd H only (hs H only (.inl (.inr ⟨_, atA⟩))) (fun b u z => ?_) (fun b z => ?_) fun _ => own
    · rcases at_ b with h | h
      · rw [h.2] at z
        cases z
        rw [h.1]
        exact ⟨hobj, by rw [List.length_map]; exact hl, us, _, rv, hobj⟩
      · rw [h.2] at z
        cases z
    · rcases at_ b with h | h
      · exact h.1
      · exact (z h.2).elim
  · obtain ⟨o, ho⟩ : ∃ o, K.lookup a = some o := by
      cases e : K.lookup a with
      | none => exact (own e).elim
      | some o => exact ⟨o, rfl⟩
    have e := inK a o ho
    rw [hobj] at e
    cases e
    refine call_known (ns := ns) inK gl bi boot nolim gens hobj rm F bd (fun _ => none) (fun _ => .inl rfl) (hs _ (fun _ => .inl rfl) (.inr ⟨_, us.toArray, _, ho, rfl, rfl, rfl, ?_, by simpa using rv⟩)) (fun b u z => nomatch (show (none : Option HO) = some u from z)) (fun b z => (z rfl).elim) fun z => (z rfl).elim
    rw [List.size_toArray, hi.length]
    exact hl
theorem walk_ofG {l : PySem.W.OpenLaw} {n k : Nat} {q : Program} {loose : List Str} {XP : (Str → Option Value) → Heap → Prop} {YP : World → Heap → Prop} {d : DefRec} {K : Params → PySem.W.Frag} {sp : World → Sp} {x : Str} (hn : l.most = some n) (hn2 : n ≤ sizeLine) (hdf : d.params.defaults = []) (rm : Room k callerA)
    (hY : ∀ (w : World) (h : Heap), YP w h → (K w.params).In h) (F : ∀ (w : World) (mg : Str → Option Value) (fa : Addr) (h : Heap), (K w.params).In h → h.Ns mainGlobals mg → mg d.name = some (.ref fa) → ∃ fd : FuncData, (∀ (s : Shared) (u : Value), BindsTo s fd ⟨[u], []⟩ [(x, u)]) ∧ ∀ base : Heap, (K w.params).In base → base.Ns mainGlobals mg → GFn l.prog w (K w.params) mg base k fa fd [x] (sp w))
    (hsp : ∀ (w : World) (H : Hp) (a : Addr) (ns : List Int), ns.length ≤ n → L2.Only H → SqL (K w.params) H a (ns.map V.int) → sp w [.ref a] H (fun v _ => v = .bl true) fun _ _ _ => False) : PySem.W.WalkO q loose XP YP l.row.toRowW d [] (fun f vs => PySem.call f vs) := by
  refine Att.attach_call hn hdf fun w s₀ s₁ mg mb fa o pm cd doc a vs ns G Y ho hd hcd hmg hobj hints hlen hg => ?_
  obtain ⟨fd, hb, hF⟩ := F w mg fa _ (hY w _ Y) G.T.g hmg
  exact law_callG (hY w _ Y) G.T.g G.T.b G.T.builtins G.T.nolimit hg hobj hints (Nat.le_trans hlen hn2) rm hF hb fun H hO hS => hsp w H a ns hlen hO hS
end BT
namespace BT
open PySem PySem.Spec L2
/-! ### data that may be shown -/
structure Sho (p w : Nat) (d : PyData) : Prop where
  s : d.showable = true
  n : d.hasDict = false
  l : d.leavesShort 25 = true
  p : d.depth ≤ p
  w : d.weight ≤ w
theorem Sho.up {p p' w w' : Nat} {d : PyData} (h : Sho p w d) (hp : p ≤ p') (hw : w ≤ w') : Sho p' w' d := ⟨h.s, h.n, h.l, Nat.le_trans h.p hp, Nat.le_trans h.w hw⟩
theorem sho_int {i : Int} (h0 : 0 ≤ i) (h : i < 10 ^ 20) : Sho 0 70 (.int i) := by
  have hl : i.natAbs < 2 ^ 67 := by
    have : (10 : Int) ^ 20 < 2 ^ 67 := by decide
    have e : ((i.natAbs : Nat) : Int) = i := by omega
    have : ((i.natAbs : Nat) : Int) < ((2 ^ 67 : Nat) : Int) := by rw [e]; exact Int.lt_trans h this
    exact Int.ofNat_lt.mp this
  have h67 : i.natAbs ≠ 0 → i.natAbs.log2 < 67 := fun z => (Nat.log2_lt z).mpr hl
  have hlog : i.natAbs.log2 < 67 := by
    by_cases z : i.natAbs = 0
    · rw [z]; decide
    · exact h67 z
  refine ⟨?_, rfl, ?_, Nat.le_refl _, ?_⟩
  · show decide (i.natAbs.log2 < 1920) = true
    exact decide_eq_true (by omega)
  · show decide ((PyData.shown (.int i)).length ≤ 25) = true
    have := PyProof.Rows.toString_length_le h0 (k := 20) (by decide) h
    exact decide_eq_true (Nat.le_trans this (by decide))
  · show (if i == 0 then 0 else i.natAbs.log2 + 1) ≤ 70
    split <;> omega
theorem sho_non : Sho 0 0 .none := ⟨rfl, rfl, rfl, Nat.le_refl _, Nat.le_refl _⟩
theorem sho_bl {b : Bool} : Sho 0 0 (.bool b) := ⟨rfl, rfl, rfl, Nat.le_refl _, Nat.le_refl _⟩
theorem sho_all {p w : Nat} : ∀ {ds : List PyData}, (∀ d, d ∈ ds → Sho p w d) → PyData.showableAll ds = true ∧ PyData.hasDictAll ds = false ∧ PyData.leavesShortAll 25 ds = true ∧ PyData.depthAll ds ≤ p ∧ PyData.weightAll ds ≤ ds.length * (w + 1)
  | [], _ => ⟨rfl, rfl, rfl, Nat.zero_le _, Nat.zero_le _⟩
  | d :: ds, h => by
    obtain ⟨a1, a2, a3, a4, a5⟩ := sho_all fun x hx => h x (List.mem_cons_of_mem _ hx)
    have b := h d List.mem_cons_self
    refine ⟨?_, ?_, ?_, ?_, ?_⟩
    · show (d.showable && PyData.showableAll ds) = true
      rw [b.s, a1]; rfl
    · show (d.hasDict || PyData.hasDictAll ds) = false
      rw [b.n, a2]; rfl
    · show (d.leavesShort 25 && PyData.leavesShortAll 25 ds) = true
      rw [b.l, a3]; rfl
    · show max d.depth (PyData.depthAll ds) ≤ p
      have := b.p; omega
    · show d.weight + 1 + PyData.weightAll ds ≤ (ds.length + 1) * (w + 1)
      have := b.w
      rw [Nat.succ_mul]; omega
theorem sho_list {p w : Nat} {ds : List PyData} (h : ∀ d, d ∈ ds → Sho p w d) : Sho (p + 1) (ds.length * (w + 1)) (.list ds) := by
  obtain ⟨a1, a2, a3, a4, a5⟩ := sho_all h
  exact ⟨a1, a2, a3, Nat.succ_le_succ a4, a5⟩
theorem sho_tup {p w : Nat} {ds : List PyData} (h : ∀ d, d ∈ ds → Sho p w d) : Sho (p + 1) (ds.length * (w + 1)) (.tuple ds) := by
  obtain ⟨a1, a2, a3, a4, a5⟩ := sho_all h
  exact ⟨a1, a2, a3, Nat.succ_le_succ a4, a5⟩
theorem repr_sho {K : PySem.W.Frag} {G : Hp} {M : Mem} {R : KR} {x : V} {d : PyData} {p w : Nat} (h : DatAt K G M x d) (s : Sho p w d) (hp : p ≤ 30) (hw : w ≤ 600000) (q : R (.str d.shown) G M) : kRepr K [x] G M R :=
  ⟨d, h, s.s, s.n, Nat.le_trans s.p hp, Nat.le_trans (PyData.shown_le 25 (by decide) d s.l) (Nat.le_trans (m := (25 + 2) * 600000 + 25) (Nat.add_le_add_right (Nat.mul_le_mul_left _ (Nat.le_trans s.w hw)) _) (by decide)), q⟩
end BT
namespace BT
open PySem PySem.Spec L2
open PyProof.Rows hiding St
def storeKs : List Nat := []
/-! ### whole numbers -/
def isIntV : V → Bool
  | .int _ => true
  | _ => false
def withinV (x : V) (lo hi : Int) : Bool := match x with
  | .int i => decide (lo ≤ i) && decide (i ≤ hi)
  | _ => false
def S_is_whole (K : PySem.W.Frag) : KSp := sp1 fun x G M R Z => ∃ T : PT, TyK K G M x T ∧ R (.bl (T == .int)) G M
def S_is_within (K : PySem.W.Frag) : KSp := sp3 fun x y z G M R Z => ∃ (T : PT) (lo hi : Int), y = .int lo ∧ z = .int hi ∧ TyK K G M x T ∧ (T == .int) = isIntV x ∧ R (.bl (withinV x lo hi)) G M
def isStrV : V → Bool
  | .str _ => true
  | _ => false

/-! ### kinds and draws -/
structure Kn where
  leaf : Bool
  n : Nat
def Kn.txt (k : Kn) : Str := if k.leaf then "leaf" else "shuffle"
def KnOk (k : Kn) : Prop := k.n ≤ 64 ∧ (k.leaf = true → k.n ≤ 6) ∧ (k.leaf = false → 1 ≤ k.n)
def fac : Nat → Nat
  | 0 => 1
  | n + 1 => (n + 1) * fac n
def manyK (k : Kn) : Nat := if k.leaf then 2 ^ k.n else fac k.n
def prK : List Kn → Nat
  | [] => 1
  | k :: ks => manyK k * prK ks
def knD (k : Kn) : PyData := .tuple [.str k.txt, .int k.n]
def rowAt : Nat → Nat → List Nat
  | 0, _ => []
  | s + 1, n => rowAt s (n / (s + 1)) ++ [n % (s + 1)]
/-- a draw: a leaf's number, or a row -/
inductive Dr | leaf (n : Nat) | row (l : List Nat)
def dOf (k : Kn) (n : Nat) : Dr := if k.leaf then .leaf n else .row (rowAt k.n n)
def drR : List Kn → Nat → List Dr
  | [], _ => []
  | k :: ks, n => dOf k (n % manyK k) :: drR ks (n / manyK k)
def drawsAt (ks : List Kn) (n : Nat) : List Dr := (drR ks.reverse n).reverse
def natsV (l : List Nat) : List V := l.map fun (n : Nat) => V.int (n : Int)
inductive A2 {α β : Type} (r : α → β → Prop) : List α → List β → Prop
  | nil : A2 r [] []
  | cons {a : α} {b : β} {as : List α} {bs : List β} : r a b → A2 r as bs → A2 r (a :: as) (b :: bs)
/-- a draw as it lies: a row's list is one of the cells -/
def DrM (M : Mem) (v : V) (d : Dr) : Prop := match d with
  | .leaf n => v = .int n
  | .row l => ∃ b, v = .ref b ∧ (b, HO.lst (natsV l)) ∈ M
def DrV (K : PySem.W.Frag) (G : Hp) (M : Mem) (v : V) (d : Dr) : Prop := match d with
  | .leaf n => v = .int n
  | .row l => ∃ b, v = .ref b ∧ LstAt K G M b (natsV l)
def KnAt (K : PySem.W.Frag) (G : Hp) (M : Mem) (a : Addr) (ks : List Kn) : Prop := ∃ us, LstAt K G M a us ∧ DpAll K G us (ks.map knD) ∧ (∀ k, k ∈ ks → KnOk k) ∧ ks.length ≤ 1000
def DrAt (K : PySem.W.Frag) (G : Hp) (M : Mem) (a : Addr) (ds : List Dr) : Prop := ∃ us, LstAt K G M a us ∧ A2 (DrV K G M) us ds
def DrOk (k : Kn) (d : Dr) : Prop := match d with
  | .leaf n => k.leaf = true ∧ n < 2 ^ k.n
  | .row l => k.leaf = false ∧ l.length = k.n ∧ ∀ (i v : Nat), l[i]? = some v → v ≤ i
def S_leaves (K : PySem.W.Frag) : KSp := sp1 fun x G M R Z => ∃ n : Nat, x = .int n ∧ n ≤ 1000 ∧ R (.int ((2 ^ n : Nat) : Int)) G M
def S_many_of (K : PySem.W.Frag) : KSp := sp1 fun x G M R Z => ∃ k : Kn, Dp K G x (knD k) ∧ KnOk k ∧ R (.int (manyK k)) G M
def S_how_many (K : PySem.W.Frag) : KSp := sp1 fun x G M R Z => ∃ (a : Addr) (ks : List Kn), x = .ref a ∧ KnAt K G M a ks ∧ R (.int (prK ks)) G M
def S_row_at (K : PySem.W.Frag) : KSp := sp2 fun x y G M R Z => ∃ s n : Nat, x = .int s ∧ y = .int n ∧ s ≤ 64 ∧ ∀ p, Fr G M p → R (.ref p) G ((p, .lst (natsV (rowAt s n))) :: M)
def S_draws_at (K : PySem.W.Frag) : KSp := sp2 fun x y G M R Z => ∃ (a : Addr) (ks : List Kn) (T : PT), x = .ref a ∧ KnAt K G M a ks ∧ TyK K G M y T ∧ (T == .int) = isIntV y ∧
  (∀ n : Nat, y = .int n → n < prK ks → ∀ (p : Addr) (us : List V) (Mn : Mem), A2 (DrM Mn) us (drawsAt ks n) → R (.ref p) G ((p, .lst us) :: (Mn ++ M))) ∧
  (withinV y 0 ((prK ks : Int) - 1) = false → Z (.ref (cl K "NoNumber")) none G M)

/-! ### nets: what they are -/
def joinL : Nat → Int → Int → List (Int × Int)
  | 0, f, s => [(f, f + s)]
  | j + 1, f, s => joinL j f (2 * s) ++ joinL j (f + s) (2 * s) ++ (List.range (2 ^ (j + 1) - 1)).map fun (i : Nat) => (f + s + (i : Int) * (2 * s), f + s + (i : Int) * (2 * s) + s)
def sortL : Nat → Int → List (Int × Int)
  | 0, _ => []
  | j + 1, f => sortL j f ++ sortL j (f + 2 ^ j) ++ joinL j f 1
def lg (n : Int) : Nat := if n ≤ 1 then 0 else if n ≤ 2 then 1 else if n ≤ 4 then 2 else if n ≤ 8 then 3 else if n ≤ 16 then 4 else if n ≤ 32 then 5 else 6
def netL (n : Int) : List (Int × Int) := (sortL (lg n) 0).filter fun p => decide (p.2 < n)
/-- a new list of pairs is told -/
def NetR (K : PySem.W.Frag) (ps : List (Int × Int)) (G : Hp) (M : Mem) (R : KR) : Prop := ∀ (t : Addr) (vs : List V) (G' : Hp), Ex G G' → Fr G' M t → DpAll K G' vs (ps.map prD) → R (.ref t) G' ((t, .lst vs) :: M)
def joinSp (d : Nat) (K : PySem.W.Frag) : V → V → V → Hp → Mem → KR → KX → Prop := fun x y z G M R Z => ∃ (f w s : Int) (j : Nat), x = .int f ∧ y = .int w ∧ z = .int s ∧ j < d ∧ w = 2 * s * 2 ^ j ∧ 0 < s ∧ w ≤ 64 ∧ 0 ≤ f ∧ f ≤ 5000 - 100 * (j : Int) ∧ j < 8 ∧ NetR K (joinL j f s) G M R
def sortSp (d : Nat) (K : PySem.W.Frag) : V → V → Hp → Mem → KR → KX → Prop := fun x y G M R Z => ∃ (f w : Int) (j : Nat), x = .int f ∧ y = .int w ∧ j < d ∧ w = 2 ^ j ∧ j ≤ 6 ∧ 0 ≤ f ∧ f + w ≤ 1000 ∧ NetR K (sortL j f) G M R
def netSp1 (K : PySem.W.Frag) : V → Hp → Mem → KR → KX → Prop := fun x G M R Z => ∃ n : Int, x = .int n ∧ 1 ≤ n ∧ n ≤ 64 ∧ NetR K (netL n) G M R
def S_joining (d : Nat) (K : PySem.W.Frag) : KSp := sp3 (joinSp d K)
def S_sorting (d : Nat) (K : PySem.W.Frag) : KSp := sp2 (sortSp d K)
def S_net_of (K : PySem.W.Frag) : KSp := sp1 (netSp1 K)

/-! ### the run of a net -/
def stepN (l : List Int) (p : Int × Int) : List Int :=
  if l.getD p.2.toNat 0 < l.getD p.1.toNat 0 then (l.set p.1.toNat (l.getD p.2.toNat 0)).set p.2.toNat (l.getD p.1.toNat 0) else l
def runN (ps : List (Int × Int)) (ns : List Int) : List Int := ps.foldl stepN ns
def GoodP (n : Nat) (p : Int × Int) : Prop := 0 ≤ p.1 ∧ p.1 < p.2 ∧ p.2 < n
def netSp (K : PySem.W.Frag) : V → V → Hp → Mem → KR → KX → Prop := fun x y G M R Z => ∃ (a b : Addr) (vs : List V) (ps : List (Int × Int)) (ns : List Int), x = .ref a ∧ y = .ref b ∧
  LstAt K G M a vs ∧ DpAll K G vs (ps.map prD) ∧ LstAt K G M b (ns.map V.int) ∧ (∀ p, p ∈ ps → GoodP ns.length p) ∧ ∀ t, Fr G M t → R (.ref t) G ((t, .lst ((runN ps ns).map V.int)) :: M)
def S_run_net (K : PySem.W.Frag) : KSp := sp2 (netSp K)

/-! ### lists of lists of ints, frozen -/
inductive LL (G : Hp) : List V → List (List Int) → Prop
  | nil : LL G [] []
  | cons {w : Addr} {r : List Int} {vs : List V} {rs : List (List Int)} : G w = some (.lst (r.map V.int)) → LL G vs rs → LL G (.ref w :: vs) (r :: rs)
def rowsB : Nat → List (List Int)
  | 0 => [[]]
  | n + 1 => (rowsB n).map (fun r => r ++ [0]) ++ (rowsB n).map fun r => r ++ [1]
def srtB (n : Nat) (ps : List (Int × Int)) : Bool := (rowsB n).all fun r => decide ((runN ps r).Pairwise (· ≤ ·))
def S_rows_of (K : PySem.W.Frag) : KSp := sp1 fun x G M R Z => ∃ n : Int, x = .int n ∧ 0 ≤ n ∧ n ≤ 10 ∧ ∀ (t : Addr) (vs : List V) (G' : Hp), Ex G G' → G' t = some (.lst vs) → LL G' vs (rowsB n.toNat) → R (.ref t) G' M

/-- a pair of a net, and what it is -/
def pkD (n : Int) : PyData → Bool
  | .tuple [.int a, .int b] => decide (0 ≤ a) && (decide (a < b) && decide (b < n))
  | _ => false
def prOf : PyData → Int × Int
  | .tuple [.int a, .int b] => (a, b)
  | _ => (0, 0)
/-- a thing that may be a net: a list of things, or another thing -/
def ThV (K : PySem.W.Frag) (G : Hp) (M : Mem) (x : V) : Option (List PyData) → Prop
  | some ds => ∃ (a : Addr) (us : List V), x = .ref a ∧ LstAt K G M a us ∧ DpAll K G us ds ∧ ds.length ≤ 2000
  | none => ∃ T : PT, TyK K G M x T ∧ isaB T .list = false
def netB (n : Int) : Option (List PyData) → Bool
  | some ds => ds.all (pkD n)
  | none => false
def psOf : Option (List PyData) → List (Int × Int)
  | some ds => ds.map prOf
  | none => []
def sortsB (n : Int) (th : Option (List PyData)) : Bool := netB n th && srtB n.toNat (psOf th)
def S_law_whole (K : PySem.W.Frag) : KSp := sp1 fun x G M R Z => ∃ T : PT, TyK K G M x T ∧ R (.bl (T == .int)) G M
def S_is_pair (K : PySem.W.Frag) : KSp := sp2 fun x y G M R Z => ∃ (n : Int) (d : PyData), x = .int n ∧ Dp K G y d ∧ R (.bl (pkD n d)) G M
def S_sorts (K : PySem.W.Frag) : KSp := sp2 fun x y G M R Z => ∃ (n : Int) (th : Option (List PyData)), x = .int n ∧ 1 ≤ n ∧ n ≤ 10 ∧ ThV K G M y th ∧ ∀ G', Ex G G' → R (.bl (sortsB n th)) G' M
def S_law_drawn (K : PySem.W.Frag) : KSp := sp2 fun x y G M R Z => ∃ (p : Addr) (m : Int) (n : Nat) (c s : Int), x = .ref p ∧ y = .int m ∧ M[n]? = some (p, pool c s) ∧ PoolOk s ∧ 1 ≤ m ∧ m ≤ 10 ∧
  ∀ (t : Addr) (vs : List V) (ps : List (Int × Int)) (G' : Hp) (c' s' : Int), Ex G G' → DpAll K G' vs (ps.map prD) → (∀ q, q ∈ ps → GoodP m.toNat q) → ps.length ≤ 400 → PoolOk s' → R (.ref t) G' ((t, .lst vs) :: M.set n (p, pool c' s'))
def S_law_bent (K : PySem.W.Frag) : KSp := sp3 fun x y z G M R Z => ∃ (p t : Addr) (m : Int) (n : Nat) (c s : Int) (us : List V) (ps : List (Int × Int)), x = .ref p ∧ y = .ref t ∧ z = .int m ∧ M[n + 1]? = some (p, pool c s) ∧ M[0]? = some (t, .lst us) ∧ PoolOk s ∧ 1 ≤ m ∧ m ≤ 10 ∧ DpAll K G us (ps.map prD) ∧ (∀ q, q ∈ ps → GoodP m.toNat q) ∧ ps.length ≤ 400 ∧
  ∀ (v : V) (th : Option (List PyData)) (d : PyData) (G' : Hp) (c' s' : Int), Ex G G' → ThV K G' (M.set (n + 1) (p, pool c' s')) v th → DatAt K G' (M.set (n + 1) (p, pool c' s')) v d → Sho 3 500000 d → PoolOk s' → R v G' (M.set (n + 1) (p, pool c' s'))
def S_law_is_net (K : PySem.W.Frag) : KSp := sp2 fun x y G M R Z => ∃ (n : Int) (th : Option (List PyData)), x = .int n ∧ ThV K G M y th ∧ R (.bl (netB n th)) G M
def S_law_sorts (K : PySem.W.Frag) : KSp := sp2 fun x y G M R Z => ∃ (n : Int) (a : Addr) (vs : List V) (ps : List (Int × Int)), x = .int n ∧ y = .ref a ∧ 1 ≤ n ∧ n ≤ 10 ∧ LstAt K G M a vs ∧ DpAll K G vs (ps.map prD) ∧ (∀ p, p ∈ ps → GoodP n.toNat p) ∧ R (.bl (srtB n.toNat ps)) G M
def S_law_right (K : PySem.W.Frag) : KSp := sp2 fun x y G M R Z => ∃ (p : Addr) (m : Int) (n : Nat) (c s : Int), x = .ref p ∧ y = .int m ∧ M[n]? = some (p, pool c s) ∧ PoolOk s ∧ 1 ≤ m ∧ m ≤ 10 ∧ ∀ G' M', Ex G G' → R (.bl true) G' M'
/-! readings of the defs, printed by gen.py -/
/-- law_pool(_law_script, _law_k); slots 0 _law_script, 1 _law_k, 2 _law_cell, 3 _law_seed -/
def rd_law_pool_3 (K : PySem.W.Frag) : KS :=
  kSeq (kRet (kLst (kCons (kBin (kMul) (kVar 2) (kCB (kInt) (kCons (kBin (kI0 fun i j => .bl (decide (j ≤ i))) (kVar 2) (kBin (kI CPow fun i j => .int (i ^ j.toNat)) (kC (.int 10)) (kC (.int 18)))) (kNil)))) (kCons (kVar 3) (kNil))))) (kNext)
def rd_law_pool_2 (K : PySem.W.Frag) : KS :=
  kSeq (kSet 3 (kBin (kI (fun _ j => 0 < j) fun i j => .int (i % j)) (kBin (kMul) (kBin (kAdd) (kBin (kAdd) (kBin (kI (fun _ j => 0 < j) fun i j => .int (i % j)) (kVar 2) (kC (.int 1000003))) (kBin (kMul) (kC (.int 104729)) (kVar 1))) (kC (.int 13))) (kC (.int 48271))) (kC (.int 2147483647)))) (rd_law_pool_3 K)
def rd_law_pool_1 (K : PySem.W.Frag) : KS :=
  kSeq (kIf (kT (kBin (kI0 fun i j => .bl (decide (i < j))) (kVar 1) (kCB (kLen K) (kCons (kVar 0) (kNil))))) (kSeq (kSet 2 (kBin (kIx K) (kVar 0) (kVar 1))) (kNext)) (kNext)) (rd_law_pool_2 K)
def rd_law_pool (K : PySem.W.Frag) : KS :=
  kSeq (kSet 2 (kCB (kLen K) (kCons (kVar 0) (kNil)))) (rd_law_pool_1 K)
/-- law_take(_law_pool_here, _law_many); slots 0 _law_pool_here, 1 _law_many, 2 _law_digit -/
def rd_law_take_2 (K : PySem.W.Frag) : KS :=
  kSeq (kRet (kBin (kI (fun _ j => 0 < j) fun i j => .int (i % j)) (kBin (kI CDivW fun i j => .int (i / j)) (kBin (kI (fun _ j => 0 < j) fun i j => .int (i % j)) (kBin (kMul) (kBin (kIx K) (kVar 0) (kC (.int 1))) (kBin (kIx K) (kVar 0) (kC (.int 1)))) (kC (.int 2147483629))) (kC (.int 64))) (kVar 1))) (kNext)
def rd_law_take_1 (K : PySem.W.Frag) : KS :=
  kSeq (kAsg (kBin (kI (fun _ j => 0 < j) fun i j => .int (i % j)) (kBin (kAdd) (kBin (kMul) (kBin (kIx K) (kVar 0) (kC (.int 1))) (kC (.int 48271))) (kC (.int 11))) (kC (.int 2147483647))) (kgIx (kVar 0) (kC (.int 1)))) (rd_law_take_2 K)
def rd_law_take (K : PySem.W.Frag) : KS :=
  kSeq (kIf (kT (kBin (kI0 fun i j => .bl (decide (j < i))) (kBin (kIx K) (kVar 0) (kC (.int 0))) (kC (.int 0)))) (kSeq (kSet 2 (kBin (kI (fun _ j => 0 < j) fun i j => .int (i % j)) (kBin (kIx K) (kVar 0) (kC (.int 0))) (kVar 1))) (kSeq (kAsg (kBin (kI CDivW fun i j => .int (i / j)) (kBin (kIx K) (kVar 0) (kC (.int 0))) (kVar 1)) (kgIx (kVar 0) (kC (.int 0)))) (kSeq (kRet (kVar 2)) (kNext)))) (kNext)) (rd_law_take_1 K)
/-- joining(first, width, step); slots 0 first, 1 width, 2 step, 3 found, 4 place -/
def rd_joining_2 (K : PySem.W.Frag) (Sr : KSp) : KS :=
  kSeq (kRet (kBin (kAdd) (kVar 3) (kComp (kiR3 (kCons (kBin (kAdd) (kVar 0) (kVar 2)) (kCons (kBin (kI0 fun i j => .int (i - j)) (kBin (kAdd) (kVar 0) (kVar 1)) (kVar 2)) (kCons (kBin (kMul) (kC (.int 2)) (kVar 2)) (kNil))))) (kgName 4) (kYes) (kTup (kCons (kVar 4) (kCons (kBin (kAdd) (kVar 4) (kVar 2)) (kNil)))) [4]))) (kNext)
def rd_joining_1 (K : PySem.W.Frag) (Sr : KSp) : KS :=
  kSeq (kSet 3 (kBin (kAdd) (kCall Sr (kCons (kVar 0) (kCons (kVar 1) (kCons (kBin (kMul) (kC (.int 2)) (kVar 2)) (kNil))))) (kCall Sr (kCons (kBin (kAdd) (kVar 0) (kVar 2)) (kCons (kVar 1) (kCons (kBin (kMul) (kC (.int 2)) (kVar 2)) (kNil))))))) (rd_joining_2 K Sr)
def rd_joining (K : PySem.W.Frag) (Sr : KSp) : KS :=
  kSeq (kIf (kT (kBin (kEqv false K) (kBin (kMul) (kC (.int 2)) (kVar 2)) (kVar 1))) (kSeq (kRet (kLst (kCons (kTup (kCons (kVar 0) (kCons (kBin (kAdd) (kVar 0) (kVar 2)) (kNil)))) (kNil)))) (kNext)) (kNext)) (rd_joining_1 K Sr)
/-- sorting(first, width); slots 0 first, 1 width, 2 half -/
def rd_sorting_2 (K : PySem.W.Frag) (Sr : KSp) : KS :=
  kSeq (kRet (kBin (kAdd) (kBin (kAdd) (kCall Sr (kCons (kVar 0) (kCons (kVar 2) (kNil)))) (kCall Sr (kCons (kBin (kAdd) (kVar 0) (kVar 2)) (kCons (kVar 2) (kNil))))) (kCall (S_joining 6 K) (kCons (kVar 0) (kCons (kVar 1) (kCons (kC (.int 1)) (kNil))))))) (kNext)
def rd_sorting_1 (K : PySem.W.Frag) (Sr : KSp) : KS :=
  kSeq (kSet 2 (kBin (kI CDivW fun i j => .int (i / j)) (kVar 1) (kC (.int 2)))) (rd_sorting_2 K Sr)
def rd_sorting (K : PySem.W.Frag) (Sr : KSp) : KS :=
  kSeq (kIf (kT (kBin (kEqv false K) (kVar 1) (kC (.int 1)))) (kSeq (kRet (kLst (kNil))) (kNext)) (kNext)) (rd_sorting_1 K Sr)
/-- net_of(size); slots 0 size, 1 width, 2 pair -/
def rd_net_of_b0 (K : PySem.W.Frag) : KS :=
  kSeq (kSet 1 (kBin (kMul) (kC (.int 2)) (kVar 1))) (kNext)
def rd_net_of_2 (K : PySem.W.Frag) : KS :=
  kSeq (kRet (kComp (kiSeq K (kCall (S_sorting 7 K) (kCons (kC (.int 0)) (kCons (kVar 1) (kNil))))) (kgName 2) (kT (kBin (kI0 fun i j => .bl (decide (i < j))) (kBin (kIx K) (kVar 2) (kC (.int 1))) (kVar 0))) (kVar 2) [2])) (kNext)
def rd_net_of_1 (K : PySem.W.Frag) : KS :=
  kSeq (kWhile (kT (kBin (kI0 fun i j => .bl (decide (i < j))) (kVar 1) (kVar 0))) (rd_net_of_b0 K)) (rd_net_of_2 K)
def rd_net_of (K : PySem.W.Frag) : KS :=
  kSeq (kSet 1 (kC (.int 1))) (rd_net_of_1 K)
/-- law_drawn(_law_pool_here, _law_size); slots 0 _law_pool_here, 1 _law_size, 2 _law_way, 3 _law_net, 4 _law_k, 5 _law_b -/
def rd_law_drawn_b0_1 (K : PySem.W.Frag) : KS :=
  kSeq (kExpr (kBM K "list" (kAppend) (kVar 3) (kCons (kTup (kCons (kCall (S_law_take K) (kCons (kVar 0) (kCons (kVar 5) (kNil)))) (kCons (kVar 5) (kNil)))) (kNil)))) (kNext)
def rd_law_drawn_b0 (K : PySem.W.Frag) : KS :=
  kSeq (kSet 5 (kBin (kAdd) (kC (.int 1)) (kCall (S_law_take K) (kCons (kVar 0) (kCons (kBin (kI0 fun i j => .int (i - j)) (kVar 1) (kC (.int 1))) (kNil)))))) (rd_law_drawn_b0_1 K)
def rd_law_drawn_5 (K : PySem.W.Frag) : KS :=
  kSeq (kRet (kBin (kMul) (kComp (kiR1 (kCons (kBin (kI0 fun i j => .int (i - j)) (kVar 1) (kC (.int 1))) (kNil))) (kgName 4) (kYes) (kTup (kCons (kVar 4) (kCons (kBin (kAdd) (kVar 4) (kC (.int 1))) (kNil)))) [4]) (kCall (S_law_take K) (kCons (kVar 0) (kCons (kBin (kAdd) (kCB (kMin2) (kCons (kVar 1) (kCons (kC (.int 8)) (kNil)))) (kC (.int 1))) (kNil)))))) (kNext)
def rd_law_drawn_4 (K : PySem.W.Frag) : KS :=
  kSeq (kIf (kT (kBin (kEqv false K) (kVar 2) (kC (.int 3)))) (kSeq (kRet (kBin (kMul) (kCall (S_net_of K) (kCons (kVar 1) (kNil))) (kBin (kIx K) (kLst (kCons (kC (.int 2)) (kCons (kBin (kI CDivW fun i j => .int (i / j)) (kC (.int 390)) (kCB (kMax2) (kCons (kC (.int 1)) (kCons (kCB (kLen K) (kCons (kCall (S_net_of K) (kCons (kVar 1) (kNil))) (kNil))) (kNil))))) (kNil)))) (kCB (kInt) (kCons (kBin (kI0 fun i j => .bl (decide (i < j))) (kVar 1) (kC (.int 5))) (kNil)))))) (kNext)) (kNext)) (rd_law_drawn_5 K)
def rd_law_drawn_3 (K : PySem.W.Frag) : KS :=
  kSeq (kIf (kT (kBin (kEqv false K) (kVar 2) (kC (.int 1)))) (kSeq (kSet 3 (kLst (kNil))) (kSeq (kFor (kiR1 (kCons (kCall (S_law_take K) (kCons (kVar 0) (kCons (kC (.int 21)) (kNil)))) (kNil))) (kgName 4) (rd_law_drawn_b0 K)) (kSeq (kRet (kVar 3)) (kNext)))) (kNext)) (rd_law_drawn_4 K)
def rd_law_drawn_2 (K : PySem.W.Frag) : KS :=
  kSeq (kIf (kOr (kT (kBin (kEqv false K) (kVar 2) (kC (.int 0)))) (kT (kBin (kEqv false K) (kVar 1) (kC (.int 1))))) (kSeq (kRet (kCB (kList K) (kCons (kCall (S_net_of K) (kCons (kVar 1) (kNil))) (kNil)))) (kNext)) (kNext)) (rd_law_drawn_3 K)
def rd_law_drawn_1 (K : PySem.W.Frag) : KS :=
  kSeq (kIf (kT (kBin (kI0 fun i j => .bl (decide (j < i))) (kVar 1) (kC (.int 8)))) (kSeq (kSet 2 (kBin (kI (fun _ j => 0 < j) fun i j => .int (i % j)) (kVar 2) (kC (.int 2)))) (kNext)) (kNext)) (rd_law_drawn_2 K)
def rd_law_drawn (K : PySem.W.Frag) : KS :=
  kSeq (kSet 2 (kCall (S_law_take K) (kCons (kVar 0) (kCons (kC (.int 4)) (kNil))))) (rd_law_drawn_1 K)
/-- law_bent(_law_pool_here, _law_net, _law_size); slots 0 _law_pool_here, 1 _law_net, 2 _law_size, 3 _law_way, 4 _law_at, 5 _law_a, 6 _law_b, 7 _law_some -/
def rd_law_bent_7 (K : PySem.W.Frag) : KS :=
  kSeq (kRet (kBin (kAdd) (kBin (kAdd) (kSl K (kVar 1) (kNoP) (kPart (kVar 4))) (kLst (kCons (kBin (kIx K) (kVar 7) (kBin (kI0 fun i j => .int (i - j)) (kVar 3) (kC (.int 3)))) (kNil)))) (kSl K (kVar 1) (kPart (kBin (kAdd) (kVar 4) (kC (.int 1)))) (kNoP)))) (kNext)
def rd_law_bent_6 (K : PySem.W.Frag) : KS :=
  kSeq (kSet 7 (kLst (kCons (kTup (kCons (kVar 6) (kCons (kVar 5) (kNil)))) (kCons (kTup (kCons (kVar 5) (kCons (kVar 5) (kNil)))) (kCons (kTup (kCons (kVar 5) (kCons (kVar 2) (kNil)))) (kCons (kTup (kCons (kUn kNeg (kC (.int 1))) (kCons (kVar 6) (kNil)))) (kCons (kLst (kCons (kVar 5) (kCons (kVar 6) (kNil)))) (kCons (kTup (kCons (kVar 5) (kCons (kVar 6) (kCons (kVar 6) (kNil))))) (kCons (kTup (kCons (kVar 5) (kCons (kC (.bl true)) (kNil)))) (kCons (kTup (kCons (kC (.bl false)) (kCons (kVar 6) (kNil)))) (kCons (kTup (kCons (kVar 5) (kCons (kC (.str "1")) (kNil)))) (kCons (kC .non) (kCons (kTup (kCons (kVar 5) (kNil))) (kNil)))))))))))))) (rd_law_bent_7 K)
def rd_law_bent_5 (K : PySem.W.Frag) : KS :=
  kSeq (kIf (kT (kBin (kEqv false K) (kVar 3) (kC (.int 14)))) (kSeq (kRet (kCB (kTuple K) (kCons (kVar 1) (kNil)))) (kNext)) (kNext)) (rd_law_bent_6 K)
def rd_law_bent_4 (K : PySem.W.Frag) : KS :=
  kSeq (kIf (kT (kBin (kI0 fun i j => .bl (decide (i < j))) (kVar 3) (kC (.int 3)))) (kSeq (kRet (kBin (kAdd) (kBin (kAdd) (kSl K (kVar 1) (kNoP) (kPart (kVar 4))) (kBin (kIx K) (kLst (kCons (kLst (kNil)) (kCons (kLst (kCons (kTup (kCons (kVar 5) (kCons (kVar 6) (kNil)))) (kCons (kTup (kCons (kVar 5) (kCons (kVar 6) (kNil)))) (kNil)))) (kCons (kUn (kRevL K) (kSl K (kVar 1) (kPart (kVar 4)) (kPart (kBin (kAdd) (kVar 4) (kC (.int 2)))))) (kNil))))) (kVar 3))) (kSl K (kVar 1) (kPart (kBin (kAdd) (kBin (kAdd) (kVar 4) (kC (.int 1))) (kCB (kInt) (kCons (kBin (kEqv false K) (kVar 3) (kC (.int 2))) (kNil))))) (kNoP)))) (kNext)) (kNext)) (rd_law_bent_5 K)
def rd_law_bent_3 (K : PySem.W.Frag) : KS :=
  kSeq (kAsg (kBin (kIx K) (kVar 1) (kVar 4)) (kgTup K 2 (kgsCons (kgName 5) (kgsCons (kgName 6) (kgsNil))))) (rd_law_bent_4 K)
def rd_law_bent_2 (K : PySem.W.Frag) : KS :=
  kSeq (kSet 4 (kCall (S_law_take K) (kCons (kVar 0) (kCons (kCB (kLen K) (kCons (kVar 1) (kNil))) (kNil))))) (rd_law_bent_3 K)
def rd_law_bent_1 (K : PySem.W.Frag) : KS :=
  kSeq (kIf (kOr (kT (kBin (kI0 fun i j => .bl (decide (j < i))) (kVar 3) (kC (.int 14)))) (kT (kBin (kEqv false K) (kVar 1) (kLst (kNil))))) (kSeq (kRet (kVar 1)) (kNext)) (kNext)) (rd_law_bent_2 K)
def rd_law_bent (K : PySem.W.Frag) : KS :=
  kSeq (kSet 3 (kCall (S_law_take K) (kCons (kVar 0) (kCons (kC (.int 20)) (kNil))))) (rd_law_bent_1 K)
/-- law_whole(_law_thing); slots 0 _law_thing -/
def rd_law_whole (K : PySem.W.Frag) : KS :=
  kSeq (kRet (kAndV (kCB (kIsi K) (kCons (kVar 0) (kCons (kC (.ty "int")) (kNil)))) (kNotV (kCB (kIsi K) (kCons (kVar 0) (kCons (kC (.ty "bool")) (kNil))))))) (kNext)
/-- law_is_net(_law_size, _law_thing); slots 0 _law_size, 1 _law_thing, 2 _law_pair -/
def rd_law_is_net_b0_1 (K : PySem.W.Frag) : KS :=
  kSeq (kIf (kOr (kT (kBin (kI0 fun i j => .bl (decide (i < j))) (kBin (kIx K) (kVar 2) (kC (.int 0))) (kC (.int 0)))) (kOr (kT (kBin (kI0 fun i j => .bl (decide (j ≤ i))) (kBin (kIx K) (kVar 2) (kC (.int 0))) (kBin (kIx K) (kVar 2) (kC (.int 1))))) (kT (kBin (kI0 fun i j => .bl (decide (j ≤ i))) (kBin (kIx K) (kVar 2) (kC (.int 1))) (kVar 0))))) (kSeq (kRet (kC (.bl false))) (kNext)) (kNext)) (kNext)
def rd_law_is_net_b0 (K : PySem.W.Frag) : KS :=
  kSeq (kIf (kOr (kNot (kT (kCB (kIsi K) (kCons (kVar 2) (kCons (kC (.ty "tuple")) (kNil)))))) (kOr (kT (kBin (kEqv true K) (kCB (kLen K) (kCons (kVar 2) (kNil))) (kC (.int 2)))) (kOr (kNot (kT (kCall (S_law_whole K) (kCons (kBin (kIx K) (kVar 2) (kC (.int 0))) (kNil))))) (kNot (kT (kCall (S_law_whole K) (kCons (kBin (kIx K) (kVar 2) (kC (.int 1))) (kNil)))))))) (kSeq (kRet (kC (.bl false))) (kNext)) (kNext)) (rd_law_is_net_b0_1 K)
def rd_law_is_net_2 (K : PySem.W.Frag) : KS :=
  kSeq (kRet (kC (.bl true))) (kNext)
def rd_law_is_net_1 (K : PySem.W.Frag) : KS :=
  kSeq (kFor (kiSeq K (kVar 1)) (kgName 2) (rd_law_is_net_b0 K)) (rd_law_is_net_2 K)
def rd_law_is_net (K : PySem.W.Frag) : KS :=
  kSeq (kIf (kNot (kT (kCB (kIsi K) (kCons (kVar 1) (kCons (kC (.ty "list")) (kNil)))))) (kSeq (kRet (kC (.bl false))) (kNext)) (kNext)) (rd_law_is_net_1 K)
/-- law_sorts(_law_size, _law_net); slots 0 _law_size, 1 _law_net, 2 _law_number, 3 _law_row, 4 _law_a, 5 _law_b, 6 _law_k -/
def rd_law_sorts_b1 (K : PySem.W.Frag) : KS :=
  kSeq (kIf (kT (kBin (kI0 fun i j => .bl (decide (j < i))) (kBin (kIx K) (kVar 3) (kVar 4)) (kBin (kIx K) (kVar 3) (kVar 5)))) (kSeq (kAsg (kC (.int 0)) (kgIx (kVar 3) (kVar 4))) (kSeq (kAsg (kC (.int 1)) (kgIx (kVar 3) (kVar 5))) (kNext))) (kNext)) (kNext)
def rd_law_sorts_b0_2 (K : PySem.W.Frag) : KS :=
  kSeq (kIf (kT (kBin (kEqv true K) (kVar 3) (kCB (kSorted K) (kCons (kVar 3) (kNil))))) (kSeq (kRet (kC (.bl false))) (kNext)) (kNext)) (kNext)
def rd_law_sorts_b0_1 (K : PySem.W.Frag) : KS :=
  kSeq (kFor (kiSeq K (kVar 1)) (kgTup K 2 (kgsCons (kgName 4) (kgsCons (kgName 5) (kgsNil)))) (rd_law_sorts_b1 K)) (rd_law_sorts_b0_2 K)
def rd_law_sorts_b0 (K : PySem.W.Frag) : KS :=
  kSeq (kSet 3 (kComp (kiR1 (kCons (kVar 0) (kNil))) (kgName 6) (kYes) (kBin (kI (fun _ j => 0 < j) fun i j => .int (i % j)) (kBin (kI CDivW fun i j => .int (i / j)) (kVar 2) (kBin (kI CPow fun i j => .int (i * 2 ^ j.toNat)) (kC (.int 1)) (kVar 6))) (kC (.int 2))) [6])) (rd_law_sorts_b0_1 K)
def rd_law_sorts_1 (K : PySem.W.Frag) : KS :=
  kSeq (kRet (kC (.bl true))) (kNext)
def rd_law_sorts (K : PySem.W.Frag) : KS :=
  kSeq (kFor (kiR1 (kCons (kBin (kI CPow fun i j => .int (i * 2 ^ j.toNat)) (kC (.int 1)) (kVar 0)) (kNil))) (kgName 2) (rd_law_sorts_b0 K)) (rd_law_sorts_1 K)
/-- is_whole(thing); slots 0 thing -/
def rd_is_whole (K : PySem.W.Frag) : KS :=
  kSeq (kRet (kAndV (kCB (kIsi K) (kCons (kVar 0) (kCons (kC (.ty "int")) (kNil)))) (kNotV (kCB (kIsi K) (kCons (kVar 0) (kCons (kC (.ty "bool")) (kNil))))))) (kNext)
/-- is_within(thing, least, most); slots 0 thing, 1 least, 2 most -/
def rd_is_within (K : PySem.W.Frag) : KS :=
  kSeq (kRet (kAndV (kCall (S_is_whole K) (kCons (kVar 0) (kNil))) (kChain (kI0 fun i j => .bl (decide (i ≤ j))) (kI0 fun i j => .bl (decide (i ≤ j))) (kVar 1) (kVar 0) (kVar 2)))) (kNext)
/-- is_pair(size, thing); slots 0 size, 1 thing -/
def rd_is_pair_1 (K : PySem.W.Frag) : KS :=
  kSeq (kRet (kAndV (kCall (S_is_within K) (kCons (kBin (kIx K) (kVar 1) (kC (.int 1))) (kCons (kC (.int 0)) (kCons (kBin (kI0 fun i j => .int (i - j)) (kVar 0) (kC (.int 1))) (kNil))))) (kCall (S_is_within K) (kCons (kBin (kIx K) (kVar 1) (kC (.int 0))) (kCons (kC (.int 0)) (kCons (kBin (kI0 fun i j => .int (i - j)) (kBin (kIx K) (kVar 1) (kC (.int 1))) (kC (.int 1))) (kNil))))))) (kNext)
def rd_is_pair (K : PySem.W.Frag) : KS :=
  kSeq (kIf (kOr (kNot (kT (kCB (kIsi K) (kCons (kVar 1) (kCons (kC (.ty "tuple")) (kNil)))))) (kT (kBin (kEqv true K) (kCB (kLen K) (kCons (kVar 1) (kNil))) (kC (.int 2))))) (kSeq (kRet (kC (.bl false))) (kNext)) (kNext)) (rd_is_pair_1 K)
/-- rows_of(size); slots 0 size, 1 rows, 2 place, 3 row -/
def rd_rows_of_b0 (K : PySem.W.Frag) : KS :=
  kSeq (kSet 1 (kBin (kAdd) (kComp (kiSeq K (kVar 1)) (kgName 3) (kYes) (kBin (kAdd) (kVar 3) (kLst (kCons (kC (.int 0)) (kNil)))) [3]) (kComp (kiSeq K (kVar 1)) (kgName 3) (kYes) (kBin (kAdd) (kVar 3) (kLst (kCons (kC (.int 1)) (kNil)))) [3]))) (kNext)
def rd_rows_of_2 (K : PySem.W.Frag) : KS :=
  kSeq (kRet (kVar 1)) (kNext)
def rd_rows_of_1 (K : PySem.W.Frag) : KS :=
  kSeq (kFor (kiR1 (kCons (kVar 0) (kNil))) (kgName 2) (rd_rows_of_b0 K)) (rd_rows_of_2 K)
def rd_rows_of (K : PySem.W.Frag) : KS :=
  kSeq (kSet 1 (kLst (kCons (kLst (kNil)) (kNil)))) (rd_rows_of_1 K)
/-- run_net(net, row); slots 0 net, 1 row, 2 told, 3 one, 4 other -/
def rd_run_net_b0 (K : PySem.W.Frag) : KS :=
  kSeq (kIf (kT (kBin (kI0 fun i j => .bl (decide (j < i))) (kBin (kIx K) (kVar 2) (kVar 3)) (kBin (kIx K) (kVar 2) (kVar 4)))) (kSeq (kAsg (kTup (kCons (kBin (kIx K) (kVar 2) (kVar 4)) (kCons (kBin (kIx K) (kVar 2) (kVar 3)) (kNil)))) (kgTup K 2 (kgsCons (kgIx (kVar 2) (kVar 3)) (kgsCons (kgIx (kVar 2) (kVar 4)) (kgsNil))))) (kNext)) (kNext)) (kNext)
def rd_run_net_2 (K : PySem.W.Frag) : KS :=
  kSeq (kRet (kVar 2)) (kNext)
def rd_run_net_1 (K : PySem.W.Frag) : KS :=
  kSeq (kFor (kiSeq K (kVar 0)) (kgTup K 2 (kgsCons (kgName 3) (kgsCons (kgName 4) (kgsNil)))) (rd_run_net_b0 K)) (rd_run_net_2 K)
def rd_run_net (K : PySem.W.Frag) : KS :=
  kSeq (kSet 2 (kCB (kList K) (kCons (kVar 1) (kNil)))) (rd_run_net_1 K)
/-- sorts(size, thing); slots 0 size, 1 thing, 2 pair, 3 row -/
def rd_sorts_1 (K : PySem.W.Frag) : KS :=
  kSeq (kRet (kCB (kAll K) (kCons (kComp (kiSeq K (kCall (S_rows_of K) (kCons (kVar 0) (kNil)))) (kgName 3) (kYes) (kBin (kEqv false K) (kCall (S_run_net K) (kCons (kVar 1) (kCons (kVar 3) (kNil)))) (kCB (kSorted K) (kCons (kVar 3) (kNil)))) [3]) (kNil)))) (kNext)
def rd_sorts (K : PySem.W.Frag) : KS :=
  kSeq (kIf (kOr (kNot (kT (kCB (kIsi K) (kCons (kVar 1) (kCons (kC (.ty "list")) (kNil)))))) (kNot (kT (kCB (kAll K) (kCons (kComp (kiSeq K (kVar 1)) (kgName 2) (kYes) (kCall (S_is_pair K) (kCons (kVar 0) (kCons (kVar 2) (kNil)))) [2]) (kNil)))))) (kSeq (kRet (kC (.bl false))) (kNext)) (kNext)) (rd_sorts_1 K)
/-- law_right(_law_pool_here, _law_most); slots 0 _law_pool_here, 1 _law_most, 2 _law_size, 3 _law_net, 4 _law_due, 5 _law_kept, 6 _law_turn, 7 _law_found, 8 _law_odd -/
def rd_law_right_b0_1 (K : PySem.W.Frag) : KS :=
  kSeq (kIf (kOr (kNot (kT (kCB (kIsi K) (kCons (kVar 7) (kCons (kC (.ty "bool")) (kNil)))))) (kOr (kT (kBin (kEqv true K) (kVar 7) (kVar 4))) (kT (kBin (kEqv true K) (kCB (kRepr K) (kCons (kVar 3) (kNil))) (kVar 5))))) (kSeq (kRet (kC (.bl false))) (kNext)) (kNext)) (kNext)
def rd_law_right_b0 (K : PySem.W.Frag) : KS :=
  kSeq (kSet 7 (kCall (S_sorts K) (kCons (kVar 2) (kCons (kVar 3) (kNil))))) (rd_law_right_b0_1 K)
def rd_law_right_6 (K : PySem.W.Frag) : KS :=
  kSeq (kRet (kBin (kIs2 false) (kCall (S_sorts K) (kCons (kVar 2) (kCons (kVar 8) (kNil)))) (kC (.bl false)))) (kNext)
def rd_law_right_5 (K : PySem.W.Frag) : KS :=
  kSeq (kSet 8 (kBin (kIx K) (kLst (kCons (kC .non) (kCons (kC (.int 0)) (kCons (kC (.bl true)) (kCons (kC (.str "net")) (kCons (kTup (kNil)) (kCons (kDNew) (kCons (kLst (kCons (kC .non) (kNil))) (kCons (kLst (kCons (kLst (kNil)) (kNil))) (kCons (kLst (kCons (kTup (kNil)) (kNil))) (kCons (kLst (kCons (kTup (kCons (kC (.int 0)) (kCons (kC (.int 1)) (kCons (kC (.int 2)) (kNil))))) (kNil))) (kNil)))))))))))) (kCall (S_law_take K) (kCons (kVar 0) (kCons (kC (.int 10)) (kNil)))))) (rd_law_right_6 K)
def rd_law_right_4 (K : PySem.W.Frag) : KS :=
  kSeq (kFor (kiR1 (kCons (kC (.int 2)) (kNil))) (kgName 6) (rd_law_right_b0 K)) (rd_law_right_5 K)
def rd_law_right_3 (K : PySem.W.Frag) : KS :=
  kSeq (kSet 5 (kCB (kRepr K) (kCons (kVar 3) (kNil)))) (rd_law_right_4 K)
def rd_law_right_2 (K : PySem.W.Frag) : KS :=
  kSeq (kSet 4 (kAndV (kCall (S_law_is_net K) (kCons (kVar 2) (kCons (kVar 3) (kNil)))) (kCall (S_law_sorts K) (kCons (kVar 2) (kCons (kVar 3) (kNil)))))) (rd_law_right_3 K)
def rd_law_right_1 (K : PySem.W.Frag) : KS :=
  kSeq (kSet 3 (kCall (S_law_bent K) (kCons (kVar 0) (kCons (kCall (S_law_drawn K) (kCons (kVar 0) (kCons (kVar 2) (kNil)))) (kCons (kVar 2) (kNil)))))) (rd_law_right_2 K)
def rd_law_right (K : PySem.W.Frag) : KS :=
  kSeq (kSet 2 (kBin (kAdd) (kC (.int 1)) (kCall (S_law_take K) (kCons (kVar 0) (kCons (kVar 1) (kNil)))))) (rd_law_right_1 K)
/-- law(_law_script); slots 0 _law_script, 1 _law_last, 2 _law_k -/
def rd_law_b0 (K : PySem.W.Frag) : KS :=
  kSeq (kIf (kNot (kT (kCall (S_law_right K) (kCons (kCall (S_law_pool K) (kCons (kVar 0) (kCons (kVar 2) (kNil)))) (kCons (kBin (kIx K) (kLst (kCons (kC (.int 6)) (kCons (kC (.int 10)) (kNil)))) (kCB (kInt) (kCons (kBin (kEqv false K) (kVar 2) (kVar 1)) (kNil)))) (kNil)))))) (kSeq (kRet (kC (.bl false))) (kNext)) (kNext)) (kNext)
def rd_law_2 (K : PySem.W.Frag) : KS :=
  kSeq (kRet (kC (.bl true))) (kNext)
def rd_law_1 (K : PySem.W.Frag) : KS :=
  kSeq (kFor (kiR1 (kCons (kBin (kAdd) (kVar 1) (kC (.int 1))) (kNil))) (kgName 2) (rd_law_b0 K)) (rd_law_2 K)
def rd_law (K : PySem.W.Frag) : KS :=
  kSeq (kSet 1 (kCB (kMin2) (kCons (kCB (kLen K) (kCons (kVar 0) (kNil))) (kCons (kC (.int 12)) (kNil))))) (rd_law_1 K)
section
variable {K : PySem.W.Frag} {vs : List V} {G : Hp} {M : Mem} {R : KR} {Z : KX}
theorem pf_law_take (h : S_law_take K vs G M R Z) : rd_law_take K (ends R Z) (sta 3 vs) G M := by
  obtain ⟨_, _, rfl, p, m, n, c, s, rfl, rfl, hn, hs, hm0, hm1, q⟩ := sp2_of h
  have hS : SeqAt' K G M p [.int c, .int s] := lst_n hn
  refine ⟨G, M, Wk.refl, _, _, hS, rfl, ite2' (fun e => ?_) (fun e => ?_)⟩
  · refine ⟨G, M, Wk.refl, _, _, hS, rfl, hm0, ?_⟩
    refine ⟨G, M, Wk.refl, _, _, hS, rfl, divW hm0 hm1 c, n, _, 0, hn, rfl, ?_⟩
    refine ⟨G, _, Wk.refl, ?_⟩
    exact ret0 (q _ _ _ (Int.emod_nonneg _ (by omega)) (Int.emod_lt_of_pos _ hm0) hs)
  · obtain ⟨s0, s1⟩ := hs
    have hs' : PoolOk ((s * 48271 + 11) % 2147483647) := ⟨Int.emod_nonneg _ (by decide), Int.emod_lt_of_pos _ (by decide)⟩
    refine ⟨G, M, Wk.refl, _, _, hS, rfl, mul_r (by decide) (by decide), (by show (0 : Int) < _; decide), n, _, 1, hn, rfl, ?_⟩
    have hn' : (M.set n (p, pool c ((s * 48271 + 11) % 2147483647)))[n]? = some (p, pool c ((s * 48271 + 11) % 2147483647)) := set_n hn
    have hS' : SeqAt' K G (M.set n (p, pool c ((s * 48271 + 11) % 2147483647))) p [.int c, .int ((s * 48271 + 11) % 2147483647)] := lst_n hn'
    refine ⟨G, _, Wk.refl, _, _, hS', rfl, _, _, hS', rfl, mul_l (by have := hs'.1; omega) (by have := hs'.2; omega), (by show (0 : Int) < _; decide), divW (by decide) (by decide) _, hm0, ?_⟩
    exact ret0 (q _ _ _ (Int.emod_nonneg _ (by omega)) (Int.emod_lt_of_pos _ hm0) hs')
theorem b01 (b : Bool) : -(2 ^ 64) < (if b then (1 : Int) else 0) ∧ (if b then (1 : Int) else 0) < 2 ^ 64 := by cases b <;> decide
end

section
variable {K : PySem.W.Frag} {vs : List V} {G : Hp} {M : Mem} {R : KR} {Z : KX}
theorem pf_law_pool (h : S_law_pool K vs G M R Z) : rd_law_pool K (ends R Z) (sta 4 vs) G M := by
  obtain ⟨_, _, rfl, a, ns, k, rfl, rfl, hS, k0, k1, hl, q⟩ := sp2_of h
  have rest : ∀ cell : Int, rd_law_pool_2 K (ends R Z) [some (.ref a), some (.int k), some (.int cell), none] G M := fun cell => by
    refine ⟨G, M, Wk.refl, (by show (0 : Int) < _; decide), mul_l (by decide) (by decide), mul_r (by decide) (by decide), (by show (0 : Int) < _; decide), ?_⟩
    refine ⟨G, M, Wk.refl, pow10_18, mul_r (b01 _).1 (b01 _).2, sz2, fun p fp => ?_⟩
    exact ret0 (q p _ _ fp ⟨Int.emod_nonneg _ (by decide), Int.emod_lt_of_pos _ (by decide)⟩)
  refine ⟨G, M, Wk.refl, _, lst_g hS, ?_⟩
  refine ⟨G, M, Wk.refl, _, lst_g hS, ite2' (fun e => ?_) (fun e => rest _)⟩
  have e1 : k < ((ns.map V.int).length : Int) := of_decide_eq_true e
  rw [List.length_map] at e1
  exact ⟨G, M, Wk.refl, _, _, lst_g hS, atI_int k0 e1, rest _⟩
end

section
variable {K : PySem.W.Frag} {vs : List V} {G : Hp} {M : Mem} {R : KR} {Z : KX}
theorem set_self {α : Type} {l : List α} {n : Nat} {x : α} (h : l[n]? = some x) : l.set n x = l := by
  apply List.ext_getElem? 
  intro i
  rw [List.getElem?_set]
  by_cases e : n = i
  · subst e
    rw [if_pos rfl, if_pos (List.getElem?_eq_some_iff.mp h).1, h]
  · rw [if_neg e]
theorem at_two {x y : V} {r : Int} (h0 : 0 ≤ r) (h1 : r < 2) : ∃ v, atI [x, y] r = some v ∧ (v = x ∨ v = y) := by
  have e : r = 0 ∨ r = 1 := by omega
  rcases e with rfl | rfl
  · exact ⟨x, rfl, .inl rfl⟩
  · exact ⟨y, rfl, .inr rfl⟩
theorem fr_set {n : Nat} {p : Addr} {o : HO} {x : Addr × HO} {t : Addr} (hn : M[n]? = some (p, o)) (h : Fr G M t) (e : x.1 = p := by rfl) : Fr G (M.set n x) t := by
  refine ⟨h.1, fun y hy => ?_⟩
  rcases List.mem_or_eq_of_mem_set hy with hy | rfl
  · exact h.2 y hy
  · rw [e]; exact h.2 _ (List.mem_of_getElem? hn)
theorem fr_unset {n : Nat} {p : Addr} {o : HO} {x : Addr × HO} {t : Addr} (hn : M[n]? = some (p, o)) (h : Fr G (M.set n x) t) (e : x.1 = p := by rfl) : Fr G M t := by
  have hl : n < M.length := (List.getElem?_eq_some_iff.mp hn).1
  refine ⟨h.1, fun y hy => ?_⟩
  obtain ⟨m, hm⟩ := List.getElem?_of_mem hy
  by_cases z : n = m
  · subst z
    rw [hn] at hm; cases hm
    have := h.2 x (List.mem_of_getElem? (List.getElem?_set_self hl))
    rw [e] at this; exact this
  · exact h.2 y (List.mem_of_getElem? (by rw [List.getElem?_set_ne z]; exact hm))
end

section
variable {K : PySem.W.Frag} {vs : List V} {G : Hp} {M : Mem} {R : KR} {Z : KX} {d : Nat}
theorem z_joining {K : PySem.W.Frag} : ∀ vs G M R Z, ¬ S_joining 0 K vs G M R Z := fun vs G M R Z h => by
  obtain ⟨_, _, _, _, _, _, _, _, _, _, _, hj, _⟩ := sp3_of h
  omega
theorem z_sorting {K : PySem.W.Frag} : ∀ vs G M R Z, ¬ S_sorting 0 K vs G M R Z := fun vs G M R Z h => by
  obtain ⟨_, _, _, _, _, _, _, _, hj, _⟩ := sp2_of h
  omega
theorem pow_pos' (j : Nat) : (0 : Int) < 2 ^ j := Int.pow_pos (by decide)
theorem w_one {s : Int} (j : Nat) (hs : 0 < s) : 2 * s ≠ 2 * s * 2 ^ (j + 1) := by
  intro e
  have h1 := pow_pos' j
  rw [Int.pow_succ, show 2 * s * (2 ^ j * 2) = 2 * (2 * (s * 2 ^ j)) by simp only [Int.mul_comm, Int.mul_left_comm, Int.mul_assoc]] at e
  have h2 : s * 1 ≤ s * 2 ^ j := Int.mul_le_mul_of_nonneg_left (by omega) (by omega)
  omega
theorem w_half {s : Int} (j : Nat) : 2 * s * 2 ^ (j + 1) = 2 * (2 * s) * 2 ^ j := by
  rw [Int.pow_succ]; simp only [Int.mul_comm, Int.mul_left_comm, Int.mul_assoc]
theorem s_le {s : Int} {j : Nat} (hs : 0 < s) (h : 2 * s * 2 ^ j ≤ 64) : s ≤ 32 := by
  have h1 := pow_pos' j
  have h2 : 2 * s * 1 ≤ 2 * s * 2 ^ j := Int.mul_le_mul_of_nonneg_left (by omega) (by omega)
  omega
theorem joinL_len : ∀ (j : Nat) (f s : Int), j < 8 → (joinL j f s).length ≤ 4000
  | 0, _, _, _ => by simp [joinL]
  | 1, f, s, _ => by simp [joinL]
  | 2, f, s, _ => by simp [joinL]
  | 3, f, s, _ => by simp [joinL]
  | 4, f, s, _ => by simp [joinL]
  | 5, f, s, _ => by simp [joinL]
  | 6, f, s, _ => by simp [joinL]
  | 7, f, s, _ => by simp [joinL]
  | _ + 8, _, _, h => by omega
theorem sortL_len : ∀ (j : Nat) (f : Int), j ≤ 7 → (sortL j f).length + 4000 ≤ 4000 * 2 ^ j
  | 0, _, _ => by simp [sortL]
  | j + 1, f, h => by
    have h1 := sortL_len j f (by omega)
    have h2 := sortL_len j (f + 2 ^ j) (by omega)
    have h3 := joinL_len j f 1 (by omega)
    have h4 : 0 < 2 ^ j := Nat.pow_pos (by decide)
    simp only [sortL, List.length_append, Nat.pow_succ]
    omega
theorem range_snoc (n : Nat) (f : Nat → Int × Int) : (List.range (n + 1)).map f = (List.range n).map f ++ [f n] := by
  rw [List.range_succ, List.map_append]; rfl
theorem map_len_le {vs : List V} {ps : List (Int × Int)} {G : Hp} (h : DpAll K G vs (ps.map prD)) : vs.length = ps.length := by rw [dpall_len h, List.length_map]
theorem dpall_app {K : PySem.W.Frag} {G : Hp} : ∀ {vs ws : List V} {ds es : List PyData}, DpAll K G vs ds → DpAll K G ws es → DpAll K G (vs ++ ws) (ds ++ es)
  | _, _, _, _, .nil, h => h
  | _, _, _, _, .cons a b, h => .cons a (dpall_app b h)
theorem pf_joining (h : S_joining (d + 1) K vs G M R Z) : rd_joining K (S_joining d K) (ends R Z) (sta 5 vs) G M := by
  obtain ⟨_, _, _, rfl, f, w, s, j, rfl, rfl, rfl, hj, hw, hs, hw2, f0, f1, hj8, q⟩ := sp3_of h
  have hs32 : s ≤ 32 := s_le hs (by rw [← hw]; exact hw2)
  refine ⟨G, M, Wk.refl, mul_l (by decide) (by decide), ite2' (fun e => ?_) (fun e => ?_)⟩
  · have e : V.int (2 * s) = V.int w := of_decide_eq_true e
    have e : 2 * s = w := V.int.inj e
    have hj0 : j = 0 := by
      cases j with
      | zero => rfl
      | succ j => exact absurd (e.trans hw) (w_one j hs)
    subst hj0
    refine ⟨G, M, Wk.refl, sz2, fun t ft => ⟨sz1, fun l fl => ?_⟩⟩
    exact ret0 (q l [.ref t] _ (Ex.new ft) fl (.cons (dp_pr sqt_new) .nil))
  · obtain ⟨j, rfl⟩ : ∃ j', j = j' + 1 := by
      cases j with
      | zero =>
        have e : ¬ (V.int (2 * s) = V.int w) := of_decide_eq_false e
        exact absurd (by rw [hw]; simp) e
      | succ j => exact ⟨j, rfl⟩
    refine ⟨G, M, Wk.refl, mul_l (by decide) (by decide), f, w, 2 * s, j, rfl, rfl, rfl, by omega, by rw [hw]; exact w_half j, by omega, hw2, f0, by omega, by omega, fun t1 v1 G1 x1 f1' d1 => ?_⟩
    refine ⟨mul_l (by decide) (by decide), f + s, w, 2 * s, j, rfl, rfl, rfl, by omega, by rw [hw]; exact w_half j, by omega, hw2, by omega, by omega, by omega, fun t2 v2 G2 x2 f2 d2 => ?_⟩
    have l1 := map_len_le d1
    have l2 := map_len_le d2
    have b1 := joinL_len j f (2 * s) (by omega)
    have b2 := joinL_len j (f + s) (2 * s) (by omega)
    refine ⟨_, _, .inl (List.mem_cons_of_mem _ List.mem_cons_self), .inl List.mem_cons_self, sz (by omega), fun t3 f3 => ?_⟩
    have hn : 2 ^ (j + 1) - 1 < 100000 := by
      have : 2 ^ (j + 1) ≤ 2 ^ 8 := Nat.pow_le_pow_right (by decide) (by omega)
      omega
    have hp : 1 ≤ 2 ^ (j + 1) := Nat.one_le_two_pow
    have hend : f + w - s = f + s + 2 * s * ((2 ^ (j + 1) - 1 : Nat) : Int) := by
      rw [hw, Int.ofNat_sub hp, Int.mul_sub]
      simp only [Int.natCast_pow, Int.cast_ofNat_Int]
      omega
    have d12 : DpAll K G2 (v1 ++ v2) ((joinL j f (2 * s) ++ joinL j (f + s) (2 * s)).map prD) := by
      rw [List.map_append]
      exact dpall_app (ex_ds x2 _ d1) d2
    have dr : Wk G2 ((t3, HO.lst (v1 ++ v2)) :: (t2, HO.lst v2) :: (t1, HO.lst v1) :: M) G2 ((t3, HO.lst (v1 ++ v2)) :: M) := Wk.drop1.trans Wk.drop1
    refine ⟨G2, _, dr, mul_l (by decide) (by decide), 2 ^ (j + 1) - 1, ?_, sz (by show 2 ^ (j + 1) - 1 ≤ _; omega), fun i acc G' M' => Ex G2 G' ∧ M' = (t3, .lst (v1 ++ v2)) :: M ∧ DpAll K G' acc (((List.range i).map fun (i : Nat) => (f + s + (i : Int) * (2 * s), f + s + (i : Int) * (2 * s) + s)).map prD) ∧ Fr G' M t3,
      ⟨Ex.refl, rfl, .nil, ⟨f3.1, fun x hx => f3.2 x (List.mem_cons_of_mem _ (List.mem_cons_of_mem _ hx))⟩⟩, fun _ _ _ _ _ _ => trivial, ?_, ?_⟩
    · have := rg_mul (i := f + s) (c := 2 * s) (n := 2 ^ (j + 1) - 1) (by omega) (by omega) (by omega) (by omega) hn
      rw [← hend] at this
      exact this
    · rintro i acc G' M' D hi hacc ⟨x3, rfl, d3, f3'⟩ fD
      refine ⟨rfl, sz2, fun t ft => ⟨_, _, Wk.refl, x3.trans (Ex.new ft), rfl, ?_, ?_⟩⟩
      · rw [range_snoc, List.map_append]
        exact dpall_snoc (ex_ds (Ex.new ft) _ d3) (dp_pr sqt_new)
      · refine ⟨?_, f3'.2⟩
        rw [upd_ne (ft.2 (t3, _) (List.mem_cons_of_mem _ List.mem_cons_self))]
        exact f3'.1
    · rintro acc G' M' p ⟨x3, rfl, d3, f3'⟩ hacc fp
      have hacc : acc.length ≤ 2 ^ (j + 1) - 1 := hacc
      refine ⟨_, _, .inl (List.mem_cons_of_mem _ List.mem_cons_self), .inl List.mem_cons_self, sz (by rw [List.length_append]; omega), fun t4 f4 => ?_⟩
      refine retW (G' := G') (M' := (t4, .lst (v1 ++ v2 ++ acc)) :: M) (Wk.drop1.trans Wk.drop1) (q t4 _ G' ((x1.trans x2).trans x3) ⟨f4.1, fun x hx => f4.2 x (List.mem_cons_of_mem _ (List.mem_cons_of_mem _ hx))⟩ ?_)
      show DpAll K G' _ ((joinL j f (2 * s) ++ joinL j (f + s) (2 * s) ++ _).map prD)
      rw [List.map_append]
      exact dpall_app (ex_ds x3 _ d12) d3
theorem sort_go {j : Nat} {f w : Int} {t1 t2 t3 t4 : Addr} {v1 v2 v3 : List V} {G1 G2 G3 : Hp} (x1 : Ex G G1) (x2 : Ex G1 G2) (x3 : Ex G2 G3) (d1 : DpAll K G1 v1 ((sortL j f).map prD)) (d2 : DpAll K G2 v2 ((sortL j (f + 2 ^ j)).map prD)) (d3 : DpAll K G3 v3 ((joinL j f 1).map prD)) :
    DpAll K G3 (v1 ++ v2 ++ v3) ((sortL (j + 1) f).map prD) := by
  show DpAll K G3 _ ((sortL j f ++ sortL j (f + 2 ^ j) ++ joinL j f 1).map prD)
  rw [List.map_append, List.map_append]
  exact dpall_app (dpall_app (ex_ds (x2.trans x3) _ d1) (ex_ds x3 _ d2)) d3
theorem pf_sorting (h : S_sorting (d + 1) K vs G M R Z) : rd_sorting K (S_sorting d K) (ends R Z) (sta 3 vs) G M := by
  obtain ⟨_, _, rfl, f, w, j, rfl, rfl, hj, hw, hj6, f0, f1, q⟩ := sp2_of h
  refine ⟨G, M, Wk.refl, ite2' (fun e => ?_) (fun e => ?_)⟩
  · have e : V.int w = V.int 1 := of_decide_eq_true e
    have e : w = 1 := V.int.inj e
    have hj0 : j = 0 := by
      cases j with
      | zero => rfl
      | succ j =>
        rw [hw, Int.pow_succ] at e
        have := pow_pos' j
        omega
    subst hj0
    exact ⟨G, M, Wk.refl, sz0, fun l fl => ret0 (q l [] G Ex.refl fl .nil)⟩
  · obtain ⟨j, rfl⟩ : ∃ j', j = j' + 1 := by
      cases j with
      | zero =>
        have e : ¬ (V.int w = V.int 1) := of_decide_eq_false e
        exact absurd (by rw [hw]; rfl) e
      | succ j => exact ⟨j, rfl⟩
    have hw' : w = 2 ^ j * 2 := by rw [hw, Int.pow_succ]
    have hp := pow_pos' j
    have hh : w / 2 = 2 ^ j := by omega
    have hw64 : w ≤ 64 := by
      have : ∀ k, k < 7 → (2 : Int) ^ k ≤ 64 := by decide
      rw [hw]; exact this _ (by omega)
    refine ⟨G, M, Wk.refl, divW (by decide) (by decide) _, ?_⟩
    refine ⟨G, M, Wk.refl, f, w / 2, j, rfl, rfl, by omega, hh, by omega, f0, by omega, fun t1 v1 G1 x1 f1' d1 => ?_⟩
    refine ⟨f + w / 2, w / 2, j, rfl, rfl, by omega, hh, by omega, by omega, by omega, fun t2 v2 G2 x2 f2 d2 => ?_⟩
    rw [hh] at d2
    have l1 := map_len_le d1
    have l2 := map_len_le d2
    have b1 := sortL_len j f (by omega)
    have b2 := sortL_len j (f + 2 ^ j) (by omega)
    have b0 : 2 ^ j ≤ 2 ^ 5 := Nat.pow_le_pow_right (by decide) (by omega)
    refine ⟨_, _, .inl (List.mem_cons_of_mem _ List.mem_cons_self), .inl List.mem_cons_self, sz (by omega), fun t3 f3 => ?_⟩
    refine ⟨f, w, 1, j, rfl, rfl, rfl, by omega, by rw [hw']; omega, by decide, hw64, f0, by omega, by omega, fun t4 v3 G3 x3 f4 d3 => ?_⟩
    have l3 := map_len_le d3
    have b3 := joinL_len j f 1 (by omega)
    refine ⟨_, _, .inl (List.mem_cons_of_mem _ List.mem_cons_self), .inl List.mem_cons_self, sz (by rw [List.length_append]; omega), fun t5 f5 => ?_⟩
    refine retW (G' := G3) (M' := (t5, .lst (v1 ++ v2 ++ v3)) :: M) (((Wk.drop1.trans Wk.drop1).trans Wk.drop1).trans Wk.drop1) (q t5 _ G3 ((x1.trans x2).trans x3) ⟨f5.1, fun x hx => f5.2 x ?_⟩ (sort_go x1 x2 x3 d1 d2 d3 (w := w) (t1 := t1) (t2 := t2) (t3 := t3) (t4 := t4)))
    exact List.mem_cons_of_mem _ (List.mem_cons_of_mem _ (List.mem_cons_of_mem _ (List.mem_cons_of_mem _ hx)))
theorem lg_of {n : Int} (hn : n ≤ 64) : ∀ j : Nat, j < 7 → n ≤ 2 ^ j → (j = 0 ∨ 2 ^ (j - 1) < n) → j = lg n
  | 0, _, h, _ => by unfold lg; rw [if_pos (by simpa using h)]
  | 1, _, h, k => by
    have h : n ≤ 2 := h
    have k : 1 < n := by simpa using k
    unfold lg; rw [if_neg (by omega), if_pos (by omega)]
  | 2, _, h, k => by
    have h : n ≤ 4 := h
    have k : 2 < n := by simpa using k
    unfold lg; rw [if_neg (by omega), if_neg (by omega), if_pos (by omega)]
  | 3, _, h, k => by
    have h : n ≤ 8 := h
    have k : 4 < n := by simpa using k
    unfold lg; rw [if_neg (by omega), if_neg (by omega), if_neg (by omega), if_pos (by omega)]
  | 4, _, h, k => by
    have h : n ≤ 16 := h
    have k : 8 < n := by simpa using k
    unfold lg; rw [if_neg (by omega), if_neg (by omega), if_neg (by omega), if_neg (by omega), if_pos (by omega)]
  | 5, _, h, k => by
    have h : n ≤ 32 := h
    have k : 16 < n := by simpa using k
    unfold lg; rw [if_neg (by omega), if_neg (by omega), if_neg (by omega), if_neg (by omega), if_neg (by omega), if_pos (by omega)]
  | 6, _, h, k => by
    have k : 32 < n := by simpa using k
    unfold lg; rw [if_neg (by omega), if_neg (by omega), if_neg (by omega), if_neg (by omega), if_neg (by omega), if_neg (by omega)]
  | _ + 7, h, _, _ => by omega
theorem lg_lt (n : Int) : lg n < 7 := by unfold lg; repeat' split <;> try decide
theorem filter_snoc {p : Int × Int} {P : Int × Int → Bool} {ps : List (Int × Int)} {i : Nat} (h : ps[i]? = some p) : (ps.take (i + 1)).filter P = if P p = true then (ps.take i).filter P ++ [p] else (ps.take i).filter P := by
  rw [List.take_add_one, h, List.filter_append]
  show _ ++ [p].filter P = _
  cases e : P p with
  | true => rw [List.filter_cons_of_pos e]; rfl
  | false => rw [List.filter_cons_of_neg (by simp [e])]; simp
theorem pf_net_of (h : S_net_of K vs G M R Z) : rd_net_of K (ends R Z) (sta 3 vs) G M := by
  obtain ⟨_, rfl, n, rfl, n0, n1, q⟩ := sp1_of h
  refine ⟨G, M, Wk.refl, ?_⟩
  refine ⟨G, M, Wk.refl, fun m σ G' M' => ∃ j : Nat, σ = [some (.int n), some (.int (2 ^ j)), none] ∧ G' = G ∧ M' = M ∧ j < 7 ∧ m = 6 - j ∧ (j = 0 ∨ 2 ^ (j - 1) < n), ⟨6, 0, rfl, rfl, rfl, by decide, rfl, .inl rfl⟩, ?_⟩
  rintro m σ G' M' ⟨j, rfl, rfl, rfl, hj, rfl, hk⟩
  refine ite2' (fun e => ?_) (fun e => ?_)
  · have e : (2 : Int) ^ j < n := of_decide_eq_true e
    have hj6 : j < 6 := by
      have : ∀ k, k < 7 → ¬ k < 6 → (64 : Int) ≤ 2 ^ k := by decide
      by_cases h6 : j < 6
      · exact h6
      · have := this j hj h6; omega
    refine ⟨G', M', Wk.refl, mul_l (by decide) (by decide), 6 - (j + 1), by omega, G', M', Wk.refl, j + 1, ?_, rfl, rfl, by omega, rfl, .inr (by simpa using e)⟩
    have : (2 : Int) * 2 ^ j = 2 ^ (j + 1) := by rw [Int.pow_succ]; omega
    show [some (V.int n), some (V.int (2 * 2 ^ j)), none] = _
    rw [this]
  · have e : ¬ (2 : Int) ^ j < n := of_decide_eq_false e
    have hlg := lg_of n1 j hj (by omega) hk
    have hb := sortL_len j 0 (by omega)
    have hp : 2 ^ j ≤ 2 ^ 6 := Nat.pow_le_pow_right (by decide) (by omega)
    have hpi : ∀ k, k < 7 → (2 : Int) ^ k ≤ 64 := by decide
    refine ⟨G', M', Wk.refl, 0, 2 ^ j, j, rfl, rfl, hj, rfl, by omega, by decide, by have := hpi j hj; omega, fun t vs G1 x1 f1 d1 => ?_⟩
    have hl := map_len_le d1
    refine ⟨_, lat_0, sz (by show vs.length ≤ _; omega), fun i acc G2 M2 => G2 = G1 ∧ M2 = (t, .lst vs) :: M' ∧ DpAll K G1 acc ((((sortL j 0).take i).filter fun p => decide (p.2 < n)).map prD), ⟨rfl, rfl, .nil⟩, ?_, ?_, ?_⟩
    · rintro i acc G2 M2 hi ⟨rfl, rfl, _⟩
      exact lat_0
    · rintro i acc G2 M2 D hi hacc ⟨rfl, rfl, da⟩ fD
      have hi : i < vs.length := hi
      have hi' : i < (sortL j 0).length := by omega
      have hp := List.getElem?_eq_getElem hi'
      obtain ⟨v, hv, hd1⟩ := dpall_get (d := prD (sortL j 0)[i]) d1 (by rw [List.getElem?_map, hp]; rfl)
      obtain ⟨tt, rfl, ht⟩ := dp_pr_inv hd1
      have fs := filter_snoc (P := fun p : Int × Int => decide (p.2 < n)) hp
      refine asg_L hv ⟨rfl, _, _, tup_g ht, rfl, ite2' (fun e => ?_) (fun e => ?_)⟩
      · refine ⟨_, _, Wk.refl, rfl, rfl, ?_⟩
        rw [fs, if_pos e, List.map_append]
        exact dpall_snoc da hd1
      · refine ⟨_, _, Wk.refl, rfl, rfl, ?_⟩
        rw [fs, if_neg (by rw [e]; exact Bool.false_ne_true)]
        exact da
    · rintro acc G2 M2 p ⟨rfl, rfl, da⟩ hacc fp
      rw [List.take_of_length_le (by show (sortL j 0).length ≤ vs.length; omega)] at da
      refine retW (G' := G2) (M' := (p, .lst acc) :: M') Wk.drop1 (q p acc G2 x1 ⟨fp.1, fun x hx => fp.2 x (List.mem_cons_of_mem _ hx)⟩ ?_)
      unfold netL
      rw [← hlg]
      exact da
end

section
variable {K : PySem.W.Frag} {vs : List V} {G : Hp} {M : Mem} {R : KR} {Z : KX}
theorem stepN_len (l : List Int) (p : Int × Int) : (stepN l p).length = l.length := by
  unfold stepN; split <;> simp
theorem runN_len : ∀ (ps : List (Int × Int)) (l : List Int), (runN ps l).length = l.length
  | [], _ => rfl
  | p :: ps, l => by
    show (runN ps (stepN l p)).length = l.length
    rw [runN_len ps, stepN_len]
theorem runN_take {ps : List (Int × Int)} {i : Nat} {p : Int × Int} (h : ps[i]? = some p) (l : List Int) : runN (ps.take (i + 1)) l = stepN (runN (ps.take i) l) p := by
  unfold runN
  rw [List.take_add_one, h, List.foldl_append]; rfl
theorem pf_run_net (h : S_run_net K vs G M R Z) : rd_run_net K (ends R Z) (sta 5 vs) G M := by
  obtain ⟨_, _, rfl, a, b, us, ps, ns, rfl, rfl, ha, hd, hb, hg, q⟩ := sp2_of h
  have hlen : us.length = ps.length := by rw [dpall_len hd, List.length_map]
  refine ⟨G, M, Wk.refl, _, .inl hb, fun t ft => ?_⟩
  refine ⟨G, _, Wk.refl, _, lat_cons ha, fun i σ G' M' => ∃ y3 y4, σ = [some (.ref a), some (.ref b), some (.ref t), y3, y4] ∧ G' = G ∧ M' = (t, .lst ((runN (ps.take i) ns).map V.int)) :: M,
    ⟨none, none, rfl, rfl, rfl⟩, ?_, ?_, ?_⟩
  · rintro i σ G' M' hi ⟨y3, y4, rfl, rfl, rfl⟩
    exact lat_cons ha
  · rintro i σ G' M' hi ⟨y3, y4, rfl, rfl, rfl⟩
    have hi' : i < ps.length := by rw [← hlen]; exact hi
    have hp : ps[i]? = some ps[i] := List.getElem?_eq_getElem hi'
    obtain ⟨v, hv, hd1⟩ := dpall_get (d := prD ps[i]) hd (by rw [List.getElem?_map, hp]; rfl)
    obtain ⟨tt, rfl, ht⟩ := dp_pr_inv hd1
    obtain ⟨g0, g1, g2⟩ := hg ps[i] (List.getElem_mem hi')
    have hL : (runN (ps.take i) ns).length = ns.length := runN_len _ _
    generalize hl : runN (ps.take i) ns = l at *
    have s1 := runN_take hp ns
    rw [hl] at s1
    refine asg_L hv ⟨_, ht, ?_⟩
    refine ⟨G', _, Wk.refl, _, _, seq_0, atI_int g0 (by omega), _, _, seq_0, atI_int (by omega) (by omega), ite2' (fun e => ?_) (fun e => ?_)⟩
    · refine ⟨G', _, Wk.refl, _, _, seq_0, atI_int (by omega) (by omega), _, _, seq_0, atI_int g0 (by omega), sz2, fun w fw => ?_⟩
      refine ⟨_, sqt_new, 0, _, _, rfl, ixN_int g0 (by rw [List.length_map]; omega), 0, _, _, rfl, ixN_int (by omega) (by rw [List.length_set, List.length_map]; omega), ?_⟩
      refine ⟨G', _, (Wk.less (Ex.new fw)), _, _, rfl, rfl, ?_⟩
      rw [s1]
      unfold stepN
      rw [if_pos (of_decide_eq_true e), map_set_int, map_set_int]
      rfl
    · refine ⟨G', _, Wk.refl, _, _, rfl, rfl, ?_⟩
      rw [s1]
      unfold stepN
      rw [if_neg (of_decide_eq_false e)]
  · rintro σ G' M' ⟨y3, y4, rfl, rfl, rfl⟩
    refine ⟨G', _, Wk.refl, ?_⟩
    have e : ps.take (srcL K a us).n = ps := List.take_of_length_le (by show ps.length ≤ us.length; omega)
    rw [e]
    exact ret0 (q t ft)
end

/-! ### the told nets sort: noughts and ones first -/
section
def stB (x : Int → Bool) (p : Int × Int) : Int → Bool := fun k => if k = p.1 then (x p.1 && x p.2) else if k = p.2 then (x p.1 || x p.2) else x k
def ruB (ps : List (Int × Int)) (x : Int → Bool) : Int → Bool := ps.foldl stB x
theorem ruB_app (ps qs : List (Int × Int)) (x : Int → Bool) : ruB (ps ++ qs) x = ruB qs (ruB ps x) := List.foldl_append ..
def joinE : Nat → (Nat → Int) → List (Int × Int)
  | 0, e => [(e 0, e 1)]
  | j + 1, e => joinE j (fun i => e (2 * i)) ++ joinE j (fun i => e (2 * i + 1)) ++ (List.range (2 ^ (j + 1) - 1)).map fun i => (e (2 * i + 1), e (2 * i + 2))
theorem joinL_E : ∀ (j : Nat) (f s : Int), joinL j f s = joinE j fun i => f + (i : Int) * s
  | 0, f, s => by simp [joinL, joinE]
  | j + 1, f, s => by
    simp only [joinL, joinE]
    rw [joinL_E j f (2 * s), joinL_E j (f + s) (2 * s)]
    have e1 : (fun i : Nat => f + (i : Int) * (2 * s)) = fun i : Nat => f + ((2 * i : Nat) : Int) * s := by
      funext i
      rw [show ((2 * i : Nat) : Int) = 2 * (i : Int) by omega, show (i : Int) * (2 * s) = 2 * (i : Int) * s by simp only [Int.mul_comm, Int.mul_left_comm]]
    have e2 : (fun i : Nat => f + s + (i : Int) * (2 * s)) = fun i : Nat => f + ((2 * i + 1 : Nat) : Int) * s := by
      funext i
      rw [show ((2 * i + 1 : Nat) : Int) = 2 * (i : Int) + 1 by omega, Int.add_mul, show (i : Int) * (2 * s) = 2 * (i : Int) * s by simp only [Int.mul_comm, Int.mul_left_comm]]
      omega
    have e3 : (fun i : Nat => (f + s + (i : Int) * (2 * s), f + s + (i : Int) * (2 * s) + s)) = fun i : Nat => (f + ((2 * i + 1 : Nat) : Int) * s, f + ((2 * i + 2 : Nat) : Int) * s) := by
      funext i
      rw [show ((2 * i + 1 : Nat) : Int) = 2 * (i : Int) + 1 by omega, show ((2 * i + 2 : Nat) : Int) = 2 * (i : Int) + 1 + 1 by omega, Int.add_mul, Int.add_mul, Int.add_mul, show (i : Int) * (2 * s) = 2 * (i : Int) * s by simp only [Int.mul_comm, Int.mul_left_comm]]
      congr 1 <;> omega
    rw [e1, e2, e3]
theorem tail_run (e : Nat → Int) (inj : ∀ i i', e i = e i' → i = i') (x : Int → Bool) : ∀ n : Nat,
    (∀ i, i < n → ruB ((List.range n).map fun i => (e (2 * i + 1), e (2 * i + 2))) x (e (2 * i + 1)) = (x (e (2 * i + 1)) && x (e (2 * i + 2))) ∧
      ruB ((List.range n).map fun i => (e (2 * i + 1), e (2 * i + 2))) x (e (2 * i + 2)) = (x (e (2 * i + 1)) || x (e (2 * i + 2)))) ∧
    (∀ k, (∀ i, i < n → k ≠ e (2 * i + 1) ∧ k ≠ e (2 * i + 2)) → ruB ((List.range n).map fun i => (e (2 * i + 1), e (2 * i + 2))) x k = x k)
  | 0 => ⟨fun i h => by omega, fun k _ => rfl⟩
  | n + 1 => by
    obtain ⟨h1, h2⟩ := tail_run e inj x n
    have hs : (List.range (n + 1)).map (fun i => (e (2 * i + 1), e (2 * i + 2))) = (List.range n).map (fun i => (e (2 * i + 1), e (2 * i + 2))) ++ [(e (2 * n + 1), e (2 * n + 2))] := by
      rw [List.range_succ, List.map_append]; rfl
    rw [hs, ruB_app]
    generalize hx : ruB ((List.range n).map fun i => (e (2 * i + 1), e (2 * i + 2))) x = y at *
    have a1 : y (e (2 * n + 1)) = x (e (2 * n + 1)) := h2 _ fun i hi => ⟨fun z => by have := inj _ _ z; omega, fun z => by have := inj _ _ z; omega⟩
    have a2 : y (e (2 * n + 2)) = x (e (2 * n + 2)) := h2 _ fun i hi => ⟨fun z => by have := inj _ _ z; omega, fun z => by have := inj _ _ z; omega⟩
    have ne : e (2 * n + 2) ≠ e (2 * n + 1) := fun z => by have := inj _ _ z; omega
    refine ⟨fun i hi => ?_, fun k hk => ?_⟩
    · by_cases hin : i = n
      · subst hin
        show stB y (e (2 * i + 1), e (2 * i + 2)) _ = _ ∧ stB y (e (2 * i + 1), e (2 * i + 2)) _ = _
        unfold stB
        dsimp only
        rw [if_pos rfl, if_neg ne, if_pos rfl, a1, a2]
        exact ⟨rfl, rfl⟩
      · have hin : i < n := by omega
        have q : ∀ m, m < 2 * n + 1 → ruB [(e (2 * n + 1), e (2 * n + 2))] y (e m) = y (e m) := fun m hm => by
          show stB y (e (2 * n + 1), e (2 * n + 2)) (e m) = y (e m)
          unfold stB
          dsimp only
          rw [if_neg (fun z => by have := inj _ _ z; omega), if_neg (fun z => by have := inj _ _ z; omega)]
        rw [q _ (by omega), q _ (by omega)]
        exact h1 i hin
    · show stB y (e (2 * n + 1), e (2 * n + 2)) k = x k
      unfold stB
      dsimp only
      obtain ⟨n1, n2⟩ := hk n (by omega)
      rw [if_neg n1, if_neg n2]
      exact h2 k fun i hi => hk i (by omega)
theorem dec_half {p i : Nat} : decide (p ≤ 2 * i) = decide ((p + 1) / 2 ≤ i) := by
  rw [decide_eq_decide]; omega
theorem dec_half' {p i : Nat} : decide (p ≤ 2 * i + 1) = decide (p / 2 ≤ i) := by
  rw [decide_eq_decide]; omega
theorem join_run : ∀ (j : Nat) (e : Nat → Int) (x : Int → Bool) (p q : Nat), (∀ i i', e i = e i' → i = i') → p ≤ 2 ^ j → q ≤ 2 ^ j →
    (∀ i, i < 2 ^ j → x (e i) = decide (p ≤ i)) → (∀ i, i < 2 ^ j → x (e (2 ^ j + i)) = decide (q ≤ i)) →
    (∀ i, i < 2 ^ (j + 1) → ruB (joinE j e) x (e i) = decide (p + q ≤ i)) ∧ (∀ k, (∀ i, i < 2 ^ (j + 1) → k ≠ e i) → ruB (joinE j e) x k = x k)
  | 0, e, x, p, q, inj, hp, hq, h1, h2 => by
    have x0 : x (e 0) = decide (p ≤ 0) := h1 0 (by decide)
    have x1 : x (e 1) = decide (q ≤ 0) := h2 0 (by decide)
    have ne : e 1 ≠ e 0 := fun z => by have := inj _ _ z; omega
    have hp : p ≤ 1 := hp
    have hq : q ≤ 1 := hq
    refine ⟨fun i hi => ?_, fun k hk => ?_⟩
    · show stB x (e 0, e 1) (e i) = _
      unfold stB
      dsimp only
      have hi : i < 2 := hi
      have ei : i = 0 ∨ i = 1 := by omega
      rcases ei with rfl | rfl
      · rw [if_pos rfl, x0, x1, ← Bool.decide_and, decide_eq_decide]; omega
      · rw [if_neg ne, if_pos rfl, x0, x1, ← Bool.decide_or, decide_eq_decide]; omega
    · show stB x (e 0, e 1) k = x k
      unfold stB
      dsimp only
      rw [if_neg (hk 0 (by decide)), if_neg (hk 1 (by decide))]
  | j + 1, e, x, p, q, inj, hp, hq, h1, h2 => by
    have hpw : 2 ^ (j + 1) = 2 * 2 ^ j := by rw [Nat.pow_succ]; omega
    have hpw2 : 2 ^ (j + 1 + 1) = 2 * 2 ^ (j + 1) := by rw [Nat.pow_succ]; omega
    have i1 : ∀ i i' : Nat, e (2 * i) = e (2 * i') → i = i' := fun i i' z => by have := inj _ _ z; omega
    have i2 : ∀ i i' : Nat, e (2 * i + 1) = e (2 * i' + 1) → i = i' := fun i i' z => by have := inj _ _ z; omega
    obtain ⟨ev, eo⟩ := join_run j (fun i => e (2 * i)) x ((p + 1) / 2) ((q + 1) / 2) i1 (by omega) (by omega) (fun i hi => by rw [h1 (2 * i) (by omega)]; exact dec_half)
      (fun i hi => by
        show x (e (2 * (2 ^ j + i))) = _
        rw [show 2 * (2 ^ j + i) = 2 ^ (j + 1) + 2 * i by omega, h2 (2 * i) (by omega)]; exact dec_half)
    have hjs : joinE (j + 1) e = joinE j (fun i => e (2 * i)) ++ joinE j (fun i => e (2 * i + 1)) ++ (List.range (2 ^ (j + 1) - 1)).map fun i => (e (2 * i + 1), e (2 * i + 2)) := rfl
    rw [hjs, ruB_app, ruB_app]
    generalize hx1 : ruB (joinE j fun i => e (2 * i)) x = x1 at *
    have odd1 : ∀ i, x1 (e (2 * i + 1)) = x (e (2 * i + 1)) := fun i => eo _ fun i' _ z => by have := inj _ _ z; omega
    obtain ⟨ov, oo⟩ := join_run j (fun i => e (2 * i + 1)) x1 (p / 2) (q / 2) i2 (by omega) (by omega) (fun i hi => by rw [odd1, h1 (2 * i + 1) (by omega)]; exact dec_half')
      (fun i hi => by
        show x1 (e (2 * (2 ^ j + i) + 1)) = _
        rw [odd1, show 2 * (2 ^ j + i) + 1 = 2 ^ (j + 1) + (2 * i + 1) by omega, h2 (2 * i + 1) (by omega)]; exact dec_half')
    generalize hx2 : ruB (joinE j fun i => e (2 * i + 1)) x1 = x2 at *
    have even2 : ∀ i, i < 2 ^ (j + 1) → x2 (e (2 * i)) = decide ((p + 1) / 2 + (q + 1) / 2 ≤ i) := fun i hi => by
      rw [oo _ fun i' _ z => by have := inj _ _ z; omega]
      exact ev i hi
    have odd2 : ∀ i, i < 2 ^ (j + 1) → x2 (e (2 * i + 1)) = decide (p / 2 + q / 2 ≤ i) := fun i hi => ov i hi
    have same : ∀ k, (∀ i, i < 2 ^ (j + 1 + 1) → k ≠ e i) → x2 k = x k := fun k hk => by
      rw [oo k fun i hi => hk _ (by omega)]
      exact eo k fun i hi => hk _ (by omega)
    obtain ⟨t1, t2⟩ := tail_run e inj x2 (2 ^ (j + 1) - 1)
    have hpos : 0 < 2 ^ j := Nat.pow_pos (by decide)
    refine ⟨fun i hi => ?_, fun k hk => ?_⟩
    · by_cases i0 : i = 0
      · subst i0
        rw [t2 _ fun i' _ => ⟨fun z => by have := inj _ _ z; omega, fun z => by have := inj _ _ z; omega⟩]
        have := even2 0 (by omega)
        rw [show 2 * 0 = 0 from rfl] at this
        rw [this, decide_eq_decide]; omega
      by_cases il : i = 2 ^ (j + 1 + 1) - 1
      · rw [t2 _ fun i' _ => ⟨fun z => by have := inj _ _ z; omega, fun z => by have := inj _ _ z; omega⟩]
        rw [show i = 2 * (2 ^ (j + 1) - 1) + 1 by omega, odd2 _ (by omega), decide_eq_decide]; omega
      obtain ⟨m, hm⟩ : ∃ m, i = 2 * m + 1 ∨ i = 2 * m + 2 := ⟨(i - 1) / 2, by omega⟩
      have hm2 : m < 2 ^ (j + 1) - 1 := by omega
      rcases hm with rfl | rfl
      · rw [(t1 m hm2).1, odd2 m (by omega), show 2 * m + 2 = 2 * (m + 1) by omega, even2 (m + 1) (by omega), ← Bool.decide_and, decide_eq_decide]; omega
      · rw [(t1 m hm2).2, odd2 m (by omega), show 2 * m + 2 = 2 * (m + 1) by omega, even2 (m + 1) (by omega), ← Bool.decide_or, decide_eq_decide]; omega
    · rw [t2 _ fun i' hi' => ⟨hk _ (by omega), hk _ (by omega)⟩]
      exact same k hk
theorem sort_run : ∀ (j : Nat) (f : Int) (x : Int → Bool), (∃ p, p ≤ 2 ^ j ∧ ∀ i, i < 2 ^ j → ruB (sortL j f) x (f + (i : Nat)) = decide (p ≤ i)) ∧ (∀ k, (∀ i, i < 2 ^ j → k ≠ f + (i : Nat)) → ruB (sortL j f) x k = x k)
  | 0, f, x => by
    refine ⟨⟨if x f then 0 else 1, by split <;> decide, fun i hi => ?_⟩, fun k _ => rfl⟩
    have hi : i < 1 := hi
    have e : i = 0 := by omega
    subst e
    show x (f + ((0 : Nat) : Int)) = _
    rw [show f + ((0 : Nat) : Int) = f by omega]
    cases x f <;> rfl
  | j + 1, f, x => by
    have hpw : 2 ^ (j + 1) = 2 * 2 ^ j := by rw [Nat.pow_succ]; omega
    have hc : (((2 : Nat) ^ j : Nat) : Int) = (2 : Int) ^ j := by simp
    obtain ⟨⟨p, hp, h1⟩, s1⟩ := sort_run j f x
    have hs : sortL (j + 1) f = sortL j f ++ sortL j (f + 2 ^ j) ++ joinL j f 1 := rfl
    rw [hs, ruB_app, ruB_app]
    generalize hx1 : ruB (sortL j f) x = x1 at *
    obtain ⟨⟨q, hq, h2⟩, s2⟩ := sort_run j (f + 2 ^ j) x1
    generalize hx2 : ruB (sortL j (f + 2 ^ j)) x1 = x2 at *
    have inj : ∀ i i' : Nat, (fun i : Nat => f + (i : Int) * 1) i = (fun i : Nat => f + (i : Int) * 1) i' → i = i' := fun i i' z => by
      have z : f + (i : Int) * 1 = f + (i' : Int) * 1 := z
      omega
    obtain ⟨r1, r2⟩ := join_run j (fun i => f + (i : Int) * 1) x2 p q inj hp hq (fun i hi => by
        show x2 (f + (i : Int) * 1) = _
        rw [Int.mul_one, s2 _ fun i' _ => by omega]
        exact h1 i hi) (fun i hi => by
        show x2 (f + ((2 ^ j + i : Nat) : Int) * 1) = _
        rw [Int.mul_one, show f + ((2 ^ j + i : Nat) : Int) = f + 2 ^ j + (i : Int) by omega]
        exact h2 i hi)
    rw [← joinL_E] at r1 r2
    refine ⟨⟨p + q, by omega, fun i hi => ?_⟩, fun k hk => ?_⟩
    · have := r1 i hi
      rw [show f + (i : Int) * 1 = f + (i : Int) by omega] at this
      exact this
    · rw [r2 k fun i hi => by rw [show f + (i : Int) * 1 = f + (i : Int) by omega]; exact hk i hi, s2 k fun i hi => by
        have := hk (2 ^ j + i) (by omega)
        omega]
      exact s1 k fun i hi => hk i (by omega)
end

/-! ### .. then whole numbers -/
section
def xt (t : Int) (ns : List Int) : Int → Bool := fun k => if 0 ≤ k ∧ k < ns.length then decide (t < ns.getD k.toNat 0) else true
theorem getD_setI (l : List Int) (i j : Nat) (v : Int) (hi : i < l.length) : (l.set i v).getD j 0 = if j = i then v else l.getD j 0 := by
  rw [List.getD_eq_getElem?_getD, List.getD_eq_getElem?_getD]
  by_cases e : j = i
  · subst e; rw [if_pos rfl, List.getElem?_set_self hi]; rfl
  · rw [if_neg e, List.getElem?_set_ne (Ne.symm e)]
theorem dec_min (t a b : Int) : decide (t < min a b) = (decide (t < a) && decide (t < b)) := by
  rw [← Bool.decide_and, decide_eq_decide]; omega
theorem dec_max (t a b : Int) : decide (t < max a b) = (decide (t < a) || decide (t < b)) := by
  rw [← Bool.decide_or, decide_eq_decide]; omega
theorem set_getD_self (l : List Int) (i : Nat) : l.set i (l.getD i 0) = l := by
  apply List.ext_getElem?
  intro j
  by_cases e : i = j
  · subst e
    by_cases hi : i < l.length
    · rw [List.getElem?_set_self hi, List.getD_eq_getElem?_getD, List.getElem?_eq_getElem hi]; rfl
    · rw [List.getElem?_eq_none (by rw [List.length_set]; omega), List.getElem?_eq_none (by omega)]
  · rw [List.getElem?_set_ne e]
theorem stepN_mm (l : List Int) (p : Int × Int) : stepN l p = (l.set p.1.toNat (min (l.getD p.1.toNat 0) (l.getD p.2.toNat 0))).set p.2.toNat (max (l.getD p.1.toNat 0) (l.getD p.2.toNat 0)) := by
  unfold stepN
  split
  · rw [Int.min_eq_right (by omega), Int.max_eq_left (by omega)]
  · rw [Int.min_eq_left (by omega), Int.max_eq_right (by omega), set_getD_self, set_getD_self]
theorem xt_step {t : Int} {ns : List Int} {p : Int × Int} (g : GoodP ns.length p) : xt t (stepN ns p) = stB (xt t ns) p := by
  obtain ⟨g0, g1, g2⟩ := g
  have ha : p.1.toNat < ns.length := by omega
  have hb : p.2.toNat < ns.length := by omega
  have xa : xt t ns p.1 = decide (t < ns.getD p.1.toNat 0) := by unfold xt; rw [if_pos ⟨by omega, by omega⟩]
  have xb : xt t ns p.2 = decide (t < ns.getD p.2.toNat 0) := by unfold xt; rw [if_pos ⟨by omega, by omega⟩]
  funext k
  have hl : (stepN ns p).length = ns.length := stepN_len ns p
  by_cases hk : 0 ≤ k ∧ k < ns.length
  · have : xt t (stepN ns p) k = decide (t < (stepN ns p).getD k.toNat 0) := by unfold xt; rw [hl, if_pos hk]
    rw [this, stepN_mm, getD_setI _ _ _ _ (by rw [List.length_set]; exact hb), getD_setI _ _ _ _ ha]
    unfold stB
    rw [xa, xb]
    by_cases e1 : k = p.1
    · rw [if_pos e1, if_neg (by omega), if_pos (by omega), dec_min]
    · rw [if_neg e1]
      by_cases e2 : k = p.2
      · rw [if_pos e2, if_pos (by omega), dec_max]
      · rw [if_neg e2, if_neg (by omega), if_neg (by omega)]
        unfold xt
        rw [if_pos hk]
  · have h1 : xt t (stepN ns p) k = true := by unfold xt; rw [hl, if_neg hk]
    have h2 : xt t ns k = true := by unfold xt; rw [if_neg hk]
    rw [h1]
    unfold stB
    rw [if_neg (by omega), if_neg (by omega), h2]
theorem xt_out {t : Int} {ns : List Int} {p : Int × Int} (h : (ns.length : Int) ≤ p.2) : stB (xt t ns) p = xt t ns := by
  have x2 : xt t ns p.2 = true := by unfold xt; rw [if_neg (by omega)]
  funext k
  unfold stB
  rw [x2]
  by_cases e1 : k = p.1
  · rw [if_pos e1, e1, Bool.and_true]
  · rw [if_neg e1]
    by_cases e2 : k = p.2
    · rw [if_pos e2, e2, Bool.or_true, x2]
    · rw [if_neg e2]
theorem xt_run {t : Int} : ∀ (ps : List (Int × Int)) (ns : List Int), (∀ p, p ∈ ps → 0 ≤ p.1 ∧ p.1 < p.2) → ruB ps (xt t ns) = xt t (runN (ps.filter fun p => decide (p.2 < (ns.length : Int))) ns)
  | [], _, _ => rfl
  | p :: ps, ns, h => by
    obtain ⟨h0, h1⟩ := h p List.mem_cons_self
    have ht := fun q hq => h q (List.mem_cons_of_mem _ hq)
    show ruB ps (stB (xt t ns) p) = _
    by_cases e : p.2 < (ns.length : Int)
    · rw [List.filter_cons_of_pos (by exact decide_eq_true e), ← xt_step ⟨h0, h1, e⟩, xt_run ps (stepN ns p) ht, stepN_len]
      rfl
    · rw [List.filter_cons_of_neg (by rw [decide_eq_false e]; exact Bool.false_ne_true), xt_out (by omega), xt_run ps ns ht]
theorem joinL_nn : ∀ (j : Nat) (f s : Int), 0 ≤ f → 0 < s → ∀ p, p ∈ joinL j f s → 0 ≤ p.1 ∧ p.1 < p.2
  | 0, f, s, hf, hs, p, h => by
    have e : p = (f, f + s) := by simpa [joinL] using h
    subst e; exact ⟨hf, by show f < f + s; omega⟩
  | j + 1, f, s, hf, hs, p, h => by
    simp only [joinL, List.mem_append] at h
    rcases h with (h | h) | h
    · exact joinL_nn j f (2 * s) hf (by omega) p h
    · exact joinL_nn j (f + s) (2 * s) (by omega) (by omega) p h
    · obtain ⟨i, _, rfl⟩ := List.mem_map.mp h
      have : 0 ≤ (i : Int) * (2 * s) := Int.mul_nonneg (by omega) (by omega)
      exact ⟨by show 0 ≤ f + s + (i : Int) * (2 * s); omega, by show f + s + (i : Int) * (2 * s) < f + s + (i : Int) * (2 * s) + s; omega⟩
theorem sortL_nn : ∀ (j : Nat) (f : Int), 0 ≤ f → ∀ p, p ∈ sortL j f → 0 ≤ p.1 ∧ p.1 < p.2
  | 0, f, _, p, h => by simp [sortL] at h
  | j + 1, f, hf, p, h => by
    have := pow_pos' j
    simp only [sortL, List.mem_append] at h
    rcases h with (h | h) | h
    · exact sortL_nn j f hf p h
    · exact sortL_nn j _ (by omega) p h
    · exact joinL_nn j f 1 hf (by decide) p h
theorem netL_good {n : Int} {p : Int × Int} (h : p ∈ netL n) : 0 ≤ p.1 ∧ p.1 < p.2 ∧ p.2 < n := by
  obtain ⟨h1, h2⟩ := List.mem_filter.mp h
  obtain ⟨a, b⟩ := sortL_nn _ _ (by decide) p h1
  exact ⟨a, b, of_decide_eq_true h2⟩
theorem lg_pow : ∀ n : Nat, n < 65 → n ≤ 2 ^ lg n := by decide
theorem net_pairwise {ns : List Int} (h1 : 1 ≤ ns.length) (h2 : ns.length ≤ 64) : (runN (netL ns.length) ns).Pairwise (· ≤ ·) := by
  rw [List.pairwise_iff_getElem]
  intro i k hi hk hik
  have hl : (runN (netL ns.length) ns).length = ns.length := runN_len _ _
  have hi' : i < ns.length := by omega
  have hk' : k < ns.length := by omega
  apply Decidable.byContradiction
  intro hn
  have e := xt_run (t := (runN (netL ns.length) ns)[k]) (sortL (lg ns.length) 0) ns (sortL_nn _ _ (by decide))
  obtain ⟨⟨p, _, hp⟩, _⟩ := sort_run (lg ns.length) 0 (xt (runN (netL ns.length) ns)[k] ns)
  rw [e] at hp
  have hpw := lg_pow ns.length (by omega)
  have q1 := hp i (by omega)
  have q2 := hp k (by omega)
  rw [show (0 : Int) + (i : Nat) = (i : Int) by omega] at q1
  rw [show (0 : Int) + (k : Nat) = (k : Int) by omega] at q2
  have v : ∀ m : Nat, (hm : m < ns.length) → xt (runN (netL ns.length) ns)[k] (runN (netL ns.length) ns) (m : Int) = decide ((runN (netL ns.length) ns)[k] < (runN (netL ns.length) ns)[m]) := fun m hm => by
    unfold xt
    rw [if_pos ⟨by omega, by omega⟩, Int.toNat_natCast, List.getD_eq_getElem?_getD, List.getElem?_eq_getElem (by omega)]; rfl
  have v1 : xt (runN (netL ns.length) ns)[k] (runN (netL ns.length) ns) (i : Int) = decide (p ≤ i) := q1
  have v2 : xt (runN (netL ns.length) ns)[k] (runN (netL ns.length) ns) (k : Int) = decide (p ≤ k) := q2
  rw [v i hi', decide_eq_decide] at v1
  rw [v k hk', decide_eq_decide] at v2
  have a1 := v1.mp (by omega)
  have a2 := v2.mpr (by omega)
  omega
theorem stepN_perm {ns : List Int} {p : Int × Int} (g : GoodP ns.length p) : (stepN ns p).Perm ns := by
  obtain ⟨g0, g1, g2⟩ := g
  unfold stepN
  split
  · have ha : p.1.toNat < ns.length := by omega
    have hb : p.2.toNat < ns.length := by omega
    rw [List.getD_eq_getElem?_getD, List.getD_eq_getElem?_getD, List.getElem?_eq_getElem ha, List.getElem?_eq_getElem hb]
    exact List.set_set_perm ha hb
  · exact .refl _
theorem runN_perm : ∀ (ps : List (Int × Int)) (ns : List Int), (∀ p, p ∈ ps → GoodP ns.length p) → (runN ps ns).Perm ns
  | [], _, _ => .refl _
  | p :: ps, ns, h => by
    have h1 := stepN_perm (h p List.mem_cons_self)
    exact (runN_perm ps (stepN ns p) fun q hq => by rw [stepN_len]; exact h q (List.mem_cons_of_mem _ hq)).trans h1
theorem net_good {ns : List Int} : ∀ p, p ∈ netL ns.length → GoodP ns.length p := fun p hp => netL_good hp
theorem sorted_eq {a b : List Int} (h : a.Perm b) (ha : a.Pairwise (· ≤ ·)) (hb : b.Pairwise (· ≤ ·)) : a = b := List.Perm.eq_of_pairwise (fun x y _ _ h1 h2 => by omega) ha hb h
end

section
variable {K : PySem.W.Frag} {vs : List V} {G : Hp} {M : Mem} {R : KR} {Z : KX}
theorem pf_is_whole (h : S_is_whole K vs G M R Z) : rd_is_whole K (ends R Z) (sta 1 vs) G M := by
  obtain ⟨x, rfl, T, hT, q⟩ := sp1_of h
  refine ⟨G, M, Wk.refl, .type T.name, .type "int", _, .ty "int", hT, kit_pt T .int, ite2' (fun e => ?_) (fun e => ?_)⟩
  · refine ⟨.type T.name, .type "bool", _, .ty "bool", hT, kit_pt T .bool, ret0 ?_⟩
    have e2 : (!isaB T .bool) = (T == .int) := by revert e; cases T <;> decide
    rw [e2]; exact q
  · have e2 : false = (T == .int) := by revert e; cases T <;> decide
    refine ret0 ?_
    rw [e2]; exact q
theorem pf_is_within (h : S_is_within K vs G M R Z) : rd_is_within K (ends R Z) (sta 3 vs) G M := by
  obtain ⟨x, _, _, rfl, T, lo, hi, rfl, rfl, hT, hx, q⟩ := sp3_of h
  refine ⟨G, M, Wk.refl, T, hT, ite2' (fun e => ?_) (fun e => ?_)⟩
  · rw [e] at hx
    cases x with
    | int i =>
      have q : R (.bl (decide (lo ≤ i) && decide (i ≤ hi))) G M := q
      refine ite2' (fun e1 => ?_) (fun e1 => ?_)
      · rw [e1, Bool.true_and] at q; exact ret0 q
      · rw [e1, Bool.false_and] at q; exact ret0 q
    | _ => cases hx
  · rw [e] at hx
    have e2 : withinV x lo hi = false := by cases x <;> first | rfl | cases hx
    rw [e2] at q
    exact ret0 q
end

section
variable {K : PySem.W.Frag} {vs : List V} {G : Hp} {M : Mem} {R : KR} {Z : KX}
section
variable {α β : Type} {r : α → β → Prop}
theorem A2.len {as : List α} {bs : List β} (h : A2 r as bs) : as.length = bs.length := by
  induction h with
  | nil => rfl
  | cons _ _ ih => simp [ih]
theorem A2.app {as as' : List α} {bs bs' : List β} (h : A2 r as bs) (h' : A2 r as' bs') : A2 r (as ++ as') (bs ++ bs') := by
  induction h with
  | nil => exact h'
  | cons a _ ih => exact .cons a ih
theorem A2.rev {as : List α} {bs : List β} (h : A2 r as bs) : A2 r as.reverse bs.reverse := by
  induction h with
  | nil => exact .nil
  | cons a _ ih => rw [List.reverse_cons, List.reverse_cons]; exact ih.app (.cons a .nil)
theorem A2.get {as : List α} {bs : List β} (h : A2 r as bs) : ∀ {i : Nat} {b : β}, bs[i]? = some b → ∃ a, as[i]? = some a ∧ r a b := by
  induction h with
  | nil => intro i b e; simp at e
  | cons a _ ih =>
    intro i b e
    cases i with
    | zero => cases e; exact ⟨_, rfl, a⟩
    | succ i => exact ih e
theorem A2.get' {as : List α} {bs : List β} (h : A2 r as bs) : ∀ {i : Nat} {a : α}, as[i]? = some a → ∃ b, bs[i]? = some b ∧ r a b := by
  induction h with
  | nil => intro i b e; simp at e
  | cons a _ ih =>
    intro i b e
    cases i with
    | zero => cases e; exact ⟨_, rfl, a⟩
    | succ i => exact ih e
theorem A2.mono {r' : α → β → Prop} (m : ∀ a b, r a b → r' a b) {as : List α} {bs : List β} (h : A2 r as bs) : A2 r' as bs := by
  induction h with
  | nil => exact .nil
  | cons a _ ih => exact .cons (m _ _ a) ih
end
theorem drM_v {Mn : Mem} (hs : ∀ x, x ∈ Mn → x ∈ M) {v : V} {d : Dr} (h : DrM Mn v d) : DrV K G M v d := by
  cases d with
  | leaf n => exact h
  | row l => obtain ⟨b, rfl, h⟩ := h; exact ⟨b, rfl, .inl (hs _ h)⟩
theorem drM_sub {Mn Mm : Mem} (hs : ∀ x, x ∈ Mn → x ∈ Mm) {v : V} {d : Dr} (h : DrM Mn v d) : DrM Mm v d := by
  cases d with
  | leaf n => exact h
  | row l => obtain ⟨b, rfl, h⟩ := h; exact ⟨b, rfl, hs _ h⟩
theorem dp_kn_inv {v : V} {k : Kn} (h : Dp K G v (knD k)) : ∃ t, v = .ref t ∧ SqT K G t [.str k.txt, .int k.n] := by
  obtain ⟨t, xs, rfl, s, a⟩ := dp_tup_inv h
  refine ⟨t, rfl, ?_⟩
  cases a with
  | cons a b =>
    cases b with
    | cons b c =>
      cases c
      cases a
      cases b
      exact s
theorem dp_kn {t : Addr} {k : Kn} (h : SqT K G t [.str k.txt, .int k.n]) : Dp K G (.ref t) (knD k) := .tup h (.cons (.str _) (.cons (.int _) .nil))
theorem shp_kns {n : Nat} (ks : List Kn) : Shp (n + 2) (.list (ks.map knD)) := .list fun d hd => by
  obtain ⟨p, _, rfl⟩ := List.mem_map.mp hd
  refine .tuple fun d hd => ?_
  rcases List.mem_cons.mp hd with rfl | hd
  · exact .str (by obtain ⟨b, n⟩ := p; cases b <;> (show PyData.strOk _ = true; first | exact (by decide +kernel : PyData.strOk ("leaf" : Str) = true) | exact (by decide +kernel : PyData.strOk ("shuffle" : Str) = true)))
  · rcases List.mem_cons.mp hd with rfl | hd
    · exact .int
    · cases hd
theorem txt_leaf (k : Kn) : decide ((V.str k.txt) = (.str "leaf")) = k.leaf := by
  obtain ⟨b, n⟩ := k
  cases b
  · exact decide_eq_false (by intro h; injection h with h; exact absurd (show ("shuffle" : Str) = "leaf" from h) (by decide))
  · exact decide_eq_true rfl
/-! sizes -/
theorem fac_pos : ∀ n, 0 < fac n
  | 0 => by decide
  | n + 1 => Nat.mul_pos (by omega) (fac_pos n)
theorem fac_mono : ∀ {m n : Nat}, m ≤ n → fac m ≤ fac n := by
  intro m n h
  induction n with
  | zero => have : m = 0 := by omega
            subst this; exact Nat.le_refl _
  | succ n ih =>
    by_cases e : m = n + 1
    · subst e; exact Nat.le_refl _
    · have h1 := ih (by omega)
      show fac m ≤ (n + 1) * fac n
      have : 1 * fac n ≤ (n + 1) * fac n := Nat.mul_le_mul_right _ (by omega)
      omega
theorem fac_64 : fac 64 < 2 ^ 300 := by decide +kernel
theorem manyK_pos (k : Kn) : 0 < manyK k := by
  unfold manyK; split
  · exact Nat.pow_pos (by decide)
  · exact fac_pos _
theorem manyK_lt {k : Kn} (h : KnOk k) : manyK k < 2 ^ 300 := by
  unfold manyK; split
  · exact Nat.pow_lt_pow_right (by decide) (by have := h.1; omega)
  · exact Nat.lt_of_le_of_lt (fac_mono h.1) fac_64
theorem prK_pos : ∀ ks, 0 < prK ks
  | [] => by decide
  | k :: ks => Nat.mul_pos (manyK_pos k) (prK_pos ks)
theorem prK_lt : ∀ ks : List Kn, (∀ k, k ∈ ks → KnOk k) → prK ks < 2 ^ (300 * ks.length + 1)
  | [], _ => by decide
  | k :: ks, h => by
    have h1 := manyK_lt (h k List.mem_cons_self)
    have h2 := prK_lt ks fun q hq => h q (List.mem_cons_of_mem _ hq)
    show manyK k * prK ks < _
    rw [List.length_cons, show 300 * (ks.length + 1) + 1 = 300 + (300 * ks.length + 1) by omega, Nat.pow_add]
    exact Nat.mul_lt_mul'' h1 h2
theorem prK_snoc (ks : List Kn) (k : Kn) : prK (ks ++ [k]) = prK ks * manyK k := by
  induction ks with
  | nil => simp [prK]
  | cons a ks ih => show manyK a * prK (ks ++ [k]) = manyK a * prK ks * manyK k; rw [ih, Nat.mul_assoc]
theorem prK_take_le (ks : List Kn) (i : Nat) (h : ∀ k, k ∈ ks → KnOk k) : ∀ k, k ∈ ks.take i → KnOk k := fun k hk => h k (List.mem_of_mem_take hk)
theorem take_succ' {α : Type} {l : List α} {i : Nat} {x : α} (h : l[i]? = some x) : l.take (i + 1) = l.take i ++ [x] := by
  rw [List.take_succ, h]; rfl
end

section
variable {K : PySem.W.Frag} {vs : List V} {G : Hp} {M : Mem} {R : KR} {Z : KX}
theorem natsV_get {l : List Nat} {i v : Nat} (h : l[i]? = some v) : (natsV l)[i]? = some (.int (v : Int)) := by
  unfold natsV; rw [List.getElem?_map, h]; rfl
theorem natsV_len (l : List Nat) : (natsV l).length = l.length := by unfold natsV; rw [List.length_map]
theorem atI_nats {l : List Nat} {i v : Nat} (h : l[i]? = some v) : atI (natsV l) (i : Int) = some (.int (v : Int)) := atI_nat (natsV_get h)
theorem at_mem {l : List V} {r : Int} (h0 : 0 ≤ r) (h1 : r < l.length) : ∃ v, atI l r = some v ∧ v ∈ l := by
  obtain ⟨j, rfl⟩ := Int.eq_ofNat_of_zero_le h0
  have hj : l[j]? = some l[j] := List.getElem?_eq_getElem (by omega)
  exact ⟨_, atI_nat hj, List.mem_of_getElem? hj⟩
theorem dpall_rep {v : V} {d : PyData} (h : Dp K G v d) : ∀ n, DpAll K G (List.replicate n v) (List.replicate n d)
  | 0 => .nil
  | n + 1 => .cons h (dpall_rep h n)
theorem dpall_app2 : ∀ {vs ws : List V} {ds es : List PyData}, DpAll K G vs ds → DpAll K G ws es → DpAll K G (vs ++ ws) (ds ++ es)
  | _, _, _, _, .nil, h => h
  | _, _, _, _, .cons a b, h => .cons a (dpall_app2 b h)
theorem dpall_flat {us : List V} {ds : List PyData} (h : DpAll K G us ds) : ∀ n, DpAll K G (List.replicate n us).flatten (List.replicate n ds).flatten
  | 0 => .nil
  | n + 1 => dpall_app2 h (dpall_flat h n)
theorem ex_lat {G' : Hp} {M' : Mem} {a : Addr} {us : List V} (x : Ex G G') (hm : ∀ x, x ∈ M → x ∈ M') (h : LstAt K G M a us) : LstAt K G' M' a us := by
  rcases h with h | h
  · exact .inl (hm _ h)
  · exact .inr (ex_l x h)
theorem wi_hi {i lo hi : Int} (h : hi < i) : withinV (.int i) lo hi = false := by
  show (decide (lo ≤ i) && decide (i ≤ hi)) = false
  rw [decide_eq_false (p := i ≤ hi) (by omega), Bool.and_false]
theorem wi_lo {i lo hi : Int} (h : i < lo) : withinV (.int i) lo hi = false := by
  show (decide (lo ≤ i) && decide (i ≤ hi)) = false
  rw [decide_eq_false (p := lo ≤ i) (by omega), Bool.false_and]
theorem wi_in {i lo hi : Int} (h : lo ≤ i) (h2 : i ≤ hi) : withinV (.int i) lo hi = true := by
  show (decide (lo ≤ i) && decide (i ≤ hi)) = true
  rw [decide_eq_true h, decide_eq_true h2]; rfl
theorem Wk.sub' {G : Hp} {M M' : Mem} (h : List.Sublist M' M) : Wk G M G M' := fun H hv => ⟨hv.ex, fun x hx => hv.mu x (h.subset hx), hv.nd.sublist (h.map _), fun x hx => hv.dj x (h.subset hx)⟩
end

section
variable {K : PySem.W.Frag} {vs : List V} {G : Hp} {M : Mem} {R : KR} {Z : KX}
theorem asg_C {lo c v : Int} {n i : Nat} {g : KG} {σ : St} {R : St → Hp → Mem → Prop} (e : lo + (i : Nat) * c = v) (q : g.val (.int v) σ G M R) : asg g ((srcC lo c n).get i) σ G M R := by subst e; exact q
theorem asg_R {lo v : Int} {n i : Nat} {g : KG} {σ : St} {R : St → Hp → Mem → Prop} (e : lo + (i : Nat) = v) (q : g.val (.int v) σ G M R) : asg g ((srcR lo n).get i) σ G M R := by subst e; exact q
theorem rgV_nats (n : Nat) : rgV 0 (n : Int) = natsV (List.range n) := by
  unfold rgV natsV
  rw [show ((n : Int) - 0).toNat = n by omega]
  refine List.map_congr_left fun i _ => ?_
  rw [Int.zero_add]
theorem ixN_nat {n i : Nat} (h : i < n) : ixN n (i : Int) = some i := by rw [ixN_int (by omega) (by omega)]; rfl
theorem natsV_set {l : List Nat} {i v : Nat} : (natsV l).set i (.int (v : Int)) = natsV (l.set i v) := by unfold natsV; rw [List.map_set]
theorem tyk_cons {x : V} {T : PT} {y : Addr × HO} (h : TyK K G M x T) : TyK K G (y :: M) x T := fun H hv => h H (Wk.drop0 H hv)
theorem all_snoc (bs : List Bool) (b : Bool) : (bs ++ [b]).all id = (bs.all id && b) := by simp
theorem within_int {x : V} {lo hi : Int} (h : withinV x lo hi = true) : ∃ i, x = .int i ∧ lo ≤ i ∧ i ≤ hi := by
  cases x with
  | int i =>
    have h : (decide (lo ≤ i) && decide (i ≤ hi)) = true := h
    rw [Bool.and_eq_true] at h
    exact ⟨i, rfl, of_decide_eq_true h.1, of_decide_eq_true h.2⟩
  | _ => cases h
theorem natsV_flat (l : List Nat) : (natsV l).all flatV = true := List.all_eq_true.mpr fun x hx => by
  obtain ⟨n, _, rfl⟩ := List.mem_map.mp hx
  rfl
theorem rep_zeros (n : Nat) : (List.replicate n [V.int 0]).flatten = natsV (List.replicate n 0) := by
  induction n with
  | zero => rfl
  | succ n ih => rw [List.replicate_succ, List.flatten_cons, ih]; rfl
end

section
variable {K : PySem.W.Frag} {vs : List V} {G : Hp} {M : Mem} {R : KR} {Z : KX}
theorem eq_ref {a b : Addr} {d : PyData} {n : Nat} {neg : Bool} (ha : DatAt K G M (.ref a) d) (hb : DatAt K G M (.ref b) d) (sh : Shp n d) (hn : n ≤ 64) (q : R (.bl (!neg)) G M) : kEqv neg K (.ref a) (.ref b) G M R := by
  refine ⟨d, d, ha, hb, sh.shaped hn, sh.shaped hn, ?_⟩
  rw [sh.refl]
  cases neg <;> exact q
theorem neq_self {x : V} (h : (!decide (x = x)) = true) : False := by rw [decide_eq_true rfl] at h; cases h
end

section
variable {K : PySem.W.Frag} {vs : List V} {G : Hp} {M : Mem} {R : KR} {Z : KX}
theorem pf_law_whole (h : S_law_whole K vs G M R Z) : rd_law_whole K (ends R Z) (sta 1 vs) G M := by
  obtain ⟨x, rfl, T, hT, q⟩ := sp1_of h
  refine ⟨G, M, Wk.refl, .type T.name, .type "int", _, .ty "int", hT, kit_pt T .int, ite2' (fun e => ?_) (fun e => ?_)⟩
  · refine ⟨.type T.name, .type "bool", _, .ty "bool", hT, kit_pt T .bool, ret0 ?_⟩
    have e2 : (!isaB T .bool) = (T == .int) := by revert e; cases T <;> decide
    rw [e2]; exact q
  · have e2 : false = (T == .int) := by revert e; cases T <;> decide
    refine ret0 ?_
    rw [e2]; exact q
end

section
variable {K : PySem.W.Frag} {vs : List V} {G : Hp} {M : Mem} {R : KR} {Z : KX}
theorem LL.ex {G' : Hp} (e : Ex G G') : ∀ {vs : List V} {rs : List (List Int)}, LL G vs rs → LL G' vs rs
  | _, _, .nil => .nil
  | _, _, .cons h t => .cons (e _ _ h) (LL.ex e t)
theorem LL.app : ∀ {vs ws : List V} {rs ss : List (List Int)}, LL G vs rs → LL G ws ss → LL G (vs ++ ws) (rs ++ ss)
  | _, _, _, _, .nil, h => h
  | _, _, _, _, .cons a b, h => .cons a (LL.app b h)
theorem LL.len : ∀ {vs : List V} {rs : List (List Int)}, LL G vs rs → vs.length = rs.length
  | _, _, .nil => rfl
  | _, _, .cons _ t => by simp [LL.len t]
theorem LL.get : ∀ {vs : List V} {rs : List (List Int)} {i : Nat} {r : List Int}, LL G vs rs → rs[i]? = some r → ∃ w, vs[i]? = some (.ref w) ∧ G w = some (.lst (r.map V.int))
  | _, _, _, _, .nil, e => by simp at e
  | _, _, 0, _, .cons a _, e => by rw [List.getElem?_cons_zero] at e; cases e; exact ⟨_, rfl, a⟩
  | _, _, i + 1, r, .cons _ b, e => by
    obtain ⟨w, h1, h2⟩ := LL.get (i := i) (r := r) b (by simpa using e)
    exact ⟨w, by simpa using h1, h2⟩
theorem rowsB_len : ∀ n, (rowsB n).length = 2 ^ n
  | 0 => rfl
  | n + 1 => by simp [rowsB, rowsB_len n, Nat.pow_succ]; omega
theorem rowsB_each : ∀ n r, r ∈ rowsB n → r.length = n
  | 0, r, h => by
    have e : r = [] := by simpa [rowsB] using h
    subst e; rfl
  | n + 1, r, h => by
    simp only [rowsB, List.mem_append, List.mem_map] at h
    rcases h with ⟨q, hq, rfl⟩ | ⟨q, hq, rfl⟩ <;> simp [rowsB_each n q hq]
theorem pow10 {n : Nat} (h : n ≤ 10) : 2 ^ n ≤ 1024 := Nat.pow_le_pow_right (n := 2) (by decide) h
/-- [row + [d] for row in rows] -/
theorem rows_comp {d : Int} {r : Addr} {us : List V} {rs : List (List Int)} {σ : St} {RR : KR} {E : KX} (h3 : ∀ v, (wipe σ [3]).set 3 (some v) = ((wipe σ [3]).set 3 (some v))) (hr : LstAt K G M r us) (hl : LL G us rs) (hz : us.length ≤ 100000) (h1 : σ[1]? = some (some (.ref r)))
    (hs : ∀ v, wipe ((wipe σ [3]).set 3 (some v)) [3] = wipe σ [3]) (hv : ∀ v, ((wipe σ [3]).set 3 (some v))[3]? = some (some v)) (hlen : ∀ q, q ∈ rs → q.length ≤ 1000)
    (q : ∀ G' p vs, Ex G G' → Fr G' M p → LL G' vs (rs.map fun r => r ++ [d]) → RR (.ref p) G' ((p, .lst vs) :: M)) :
    kComp (kiSeq K (kVar 1)) (kgName 3) kYes (kBin kAdd (kVar 3) (kLst (kCons (kC (.int d)) kNil))) [3] σ G M RR E := by
  unfold kComp kiSeq kVar
  rw [h1]
  refine ⟨us, hr, sz (by show us.length ≤ _; omega), fun i acc G' M' => Ex G G' ∧ M' = M ∧ LL G' acc ((rs.take i).map fun r => r ++ [d]), ⟨Ex.refl, rfl, .nil⟩, ?_, ?_, ?_⟩
  · rintro i acc G' M' hi ⟨ex, rfl, _⟩
    exact lat_ex ex hr
  · rintro i acc G' M' D hi hacc ⟨ex, rfl, hL⟩ fD
    have hi : i < us.length := hi
    have hi' : i < rs.length := by rw [← hl.len]; exact hi
    have hp := List.getElem?_eq_getElem hi'
    obtain ⟨w, hw, hg⟩ := hl.get hp
    have hlr := hlen _ (List.getElem_mem hi')
    refine asg_L hw ⟨hs _, ?_⟩
    show kBin kAdd (kVar 3) _ _ _ _ _ _
    unfold kBin kVar
    rw [hv]
    refine ⟨sz1, fun z fz => ⟨_, _, .inr (ex _ _ hg), .inl List.mem_cons_self, sz (by rw [List.length_map]; show _ + 1 ≤ _; omega), fun u fu => ?_⟩⟩
    have fu' : Fr G' ((D, HO.lst acc) :: M') u := ⟨fu.1, fun x hx => fu.2 x (List.mem_cons_of_mem _ hx)⟩
    obtain ⟨G2, x2, g2, w2, _⟩ := frz (.lst ((rs[i]).map V.int ++ [.int d])) fu'
    refine ⟨G2, M', Wk.drop1.trans w2, ex.trans x2, rfl, ?_⟩
    rw [List.take_add_one, hp, List.map_append]
    refine (hL.ex x2).app (.cons (r := rs[i] ++ [d]) ?_ .nil)
    rw [g2, List.map_append]; rfl
  · rintro acc G' M' p ⟨ex, rfl, hL⟩ hacc fp
    rw [List.take_of_length_le (by show rs.length ≤ us.length; rw [hl.len]; exact Nat.le_refl _)] at hL
    exact q G' p acc ex fp hL
theorem pf_rows_of (h : S_rows_of K vs G M R Z) : rd_rows_of K (ends R Z) (sta 4 vs) G M := by
  obtain ⟨_, rfl, n, rfl, n0, n1, q⟩ := sp1_of h
  refine ⟨G, M, Wk.refl, sz0, fun w fw => ⟨sz1, fun r fr => ?_⟩⟩
  have fr' : Fr G M r := ⟨fr.1, fun x hx => fr.2 x (List.mem_cons_of_mem _ hx)⟩
  obtain ⟨G1, x1, g1, w1, f1⟩ := frz (.lst [.ref w]) fr
  obtain ⟨G2, x2, g2, w2, f2⟩ := frz (.lst []) (f1 w _ fw (fr.2 (w, _) List.mem_cons_self))
  refine ⟨G2, M, w1.trans w2, ⟨by omega, by omega⟩, fun i σ G' M' => ∃ (y2 : Option V) (r : Addr) (us : List V), σ = [some (.int n), some (.ref r), y2, none] ∧ Ex G G' ∧ M' = M ∧ G' r = some (.lst us) ∧ LL G' us (rowsB i),
    ⟨none, r, [.ref w], rfl, x1.trans x2, rfl, x2 _ _ g1, .cons g2 .nil⟩, fun _ _ _ _ _ _ => trivial, ?_, ?_⟩
  · rintro i σ G' M' hi ⟨y2, r, us, rfl, ex, rfl, hr, hL⟩
    have hi : i < n.toNat := hi
    have hlen := hL.len
    rw [rowsB_len] at hlen
    have hb : us.length ≤ 1024 := by rw [hlen]; exact pow10 (by omega)
    have hq : ∀ q, q ∈ rowsB i → q.length ≤ 1000 := fun q hq => by rw [rowsB_each i q hq]; omega
    refine ⟨G', M', Wk.refl, kset_of (kbin_of (rows_comp (fun _ => rfl) (lat_g (sql_of hr)) hL (by omega) rfl (fun _ => rfl) (fun _ => rfl) hq fun G3 p3 v3 x3 f3 l3 => ?_))⟩
    refine rows_comp (fun _ => rfl) (lat_g (sql_of (x3 _ _ hr))) (hL.ex x3) (by omega) rfl (fun _ => rfl) (fun _ => rfl) hq fun G4 p4 v4 x4 f4 l4 => ?_
    have b3 := l3.len
    have b4 := l4.len
    rw [List.length_map, rowsB_len, ← hlen] at b3 b4
    refine ⟨_, _, .inl (List.mem_cons_of_mem _ List.mem_cons_self), .inl List.mem_cons_self, sz (by omega), fun p5 f5 => ?_⟩
    have f5' : Fr G4 M' p5 := ⟨f5.1, fun x hx => f5.2 x (List.mem_cons_of_mem _ (List.mem_cons_of_mem _ hx))⟩
    obtain ⟨G5, x5, g5, w5, _⟩ := frz (.lst (v3 ++ v4)) f5'
    exact ⟨G5, M', (Wk.drop1.trans Wk.drop1).trans w5, _, p5, _, rfl, ((ex.trans x3).trans x4).trans x5, rfl, g5, ((l3.ex (x4.trans x5)).app (l4.ex x5))⟩
  · rintro σ G' M' ⟨y2, r, us, rfl, ex, rfl, hr, hL⟩
    exact ⟨G', M', Wk.refl, ret0 (q r us G' ex hr hL)⟩
theorem eqv_ints : ∀ xs ys : List Int, PyData.eqvAll (xs.map .int) (ys.map .int) = decide (xs = ys)
  | [], [] => by simp [PyData.eqvAll]
  | [], y :: ys => by simp [PyData.eqvAll]
  | x :: xs, [] => by simp [PyData.eqvAll]
  | x :: xs, y :: ys => by
    rw [List.map_cons, List.map_cons, PyData.eqvAll, eqv_ints xs ys, PyData.eqv]
    by_cases h : x = y
    · subst h; simp
    · simp [h]
theorem eqv_lints (xs ys : List Int) : PyData.eqv (.list (xs.map .int)) (.list (ys.map .int)) = decide (xs = ys) := by
  rw [PyData.eqv]; exact eqv_ints xs ys
theorem eq_srt {ps : List (Int × Int)} {r ns : List Int} (hg : ∀ p, p ∈ ps → GoodP r.length p) (pm : ns.Perm r) (pw : ns.Pairwise (· ≤ ·)) : decide (runN ps r = ns) = decide ((runN ps r).Pairwise (· ≤ ·)) := by
  rw [decide_eq_decide]
  constructor
  · intro e; rw [e]; exact pw
  · intro h; exact sorted_eq ((runN_perm ps r hg).trans pm.symm) h pw
end


section
variable {K : PySem.W.Frag} {vs : List V} {G : Hp} {M : Mem} {R : KR} {Z : KX}
theorem mem_rowsB : ∀ (n : Nat) (r : List Int), r.length = n → (∀ v, v ∈ r → v = 0 ∨ v = 1) → r ∈ rowsB n
  | 0, r, h, _ => by
    have e : r = [] := List.length_eq_zero_iff.mp h
    subst e; simp [rowsB]
  | n + 1, r, h, hv => by
    have hne : r ≠ [] := fun e => by rw [e] at h; simp at h
    have e := List.dropLast_concat_getLast hne
    have hd : r.dropLast ∈ rowsB n := mem_rowsB n _ (by rw [List.length_dropLast]; omega) fun v hm => hv v ((List.dropLast_sublist r).subset hm)
    rw [← e]
    simp only [rowsB, List.mem_append, List.mem_map]
    rcases hv _ (List.getLast_mem hne) with z | z
    · exact .inl ⟨_, hd, by rw [z]⟩
    · exact .inr ⟨_, hd, by rw [z]⟩
theorem srt_each {n : Nat} {ps : List (Int × Int)} : srtB n ps = true ↔ ∀ r, r ∈ rowsB n → (runN ps r).Pairwise (· ≤ ·) := by
  unfold srtB
  rw [List.all_eq_true]
  exact ⟨fun h r hr => of_decide_eq_true (h r hr), fun h r hr => decide_eq_true (h r hr)⟩
def bitsL (n N : Nat) : List Int := (List.range n).map fun k => ((N / 2 ^ k % 2 : Nat) : Int)
theorem bits_mem (n N : Nat) : bitsL n N ∈ rowsB n := mem_rowsB n _ (by simp [bitsL]) fun v hv => by
  obtain ⟨k, _, rfl⟩ := List.mem_map.mp hv
  omega
theorem bit_low {N b n k : Nat} (h : k < n) : (N + b * 2 ^ n) / 2 ^ k % 2 = N / 2 ^ k % 2 := by
  obtain ⟨d, rfl⟩ : ∃ d, n = k + (d + 1) := ⟨n - k - 1, by omega⟩
  rw [Nat.pow_add, show b * (2 ^ k * 2 ^ (d + 1)) = 2 ^ k * (b * 2 ^ (d + 1)) by simp only [Nat.mul_comm, Nat.mul_left_comm, Nat.mul_assoc], Nat.add_mul_div_left _ _ (Nat.pow_pos (by decide)), Nat.pow_succ, ← Nat.mul_assoc, Nat.add_mul_mod_self_right]
theorem bits_all : ∀ (n : Nat) (r : List Int), r ∈ rowsB n → ∃ N, N < 2 ^ n ∧ r = bitsL n N
  | 0, r, h => by
    have e : r = [] := by simpa [rowsB] using h
    subst e; exact ⟨0, by decide, rfl⟩
  | n + 1, r, h => by
    have step : ∀ (q : List Int) (b : Nat), b < 2 → q ∈ rowsB n → r = q ++ [(b : Int)] → ∃ N, N < 2 ^ (n + 1) ∧ r = bitsL (n + 1) N := fun q b hb hq e => by
      obtain ⟨N, hN, rfl⟩ := bits_all n q hq
      have hbm : b * 2 ^ n ≤ 1 * 2 ^ n := Nat.mul_le_mul_right _ (by omega)
      refine ⟨N + b * 2 ^ n, by rw [Nat.pow_succ]; omega, ?_⟩
      rw [e]
      unfold bitsL
      rw [List.range_succ, List.map_append]
      congr 1
      · apply List.map_congr_left
        intro k hk
        rw [bit_low (List.mem_range.mp hk)]
      · show [(b : Int)] = [((((N + b * 2 ^ n) / 2 ^ n % 2 : Nat)) : Int)]
        rw [Nat.add_mul_div_right _ _ (Nat.pow_pos (by decide)), Nat.div_eq_of_lt hN, Nat.zero_add, Nat.mod_eq_of_lt hb]
    simp only [rowsB, List.mem_append, List.mem_map] at h
    rcases h with ⟨q, hq, rfl⟩ | ⟨q, hq, rfl⟩
    · exact step q 0 (by decide) hq rfl
    · exact step q 1 (by decide) hq rfl
theorem flat_dp : ∀ (k : Nat) {us : List V} {ps : List (Int × Int)}, DpAll K G us (ps.map prD) → DpAll K G (List.replicate k us).flatten ((List.replicate k ps).flatten.map prD)
  | 0, _, _, _ => .nil
  | k + 1, us, ps, h => by
    rw [List.replicate_succ, List.replicate_succ, List.flatten_cons, List.flatten_cons, List.map_append]
    exact dpall_app h (flat_dp k h)
theorem mem_flat {k : Nat} {ps : List (Int × Int)} {p : Int × Int} (h : p ∈ (List.replicate k ps).flatten) : p ∈ ps := by
  obtain ⟨l, hl, hp⟩ := List.mem_flatten.mp h
  rw [(List.mem_replicate.mp hl).2] at hp
  exact hp
theorem len_flat (k : Nat) (ps : List (Int × Int)) : (List.replicate k ps).flatten.length = k * ps.length := by
  rw [List.length_flatten, List.map_replicate, List.sum_replicate_nat]
end

section
variable {K : PySem.W.Frag} {vs : List V} {G : Hp} {M : Mem} {R : KR} {Z : KX}
theorem dp_ty {v : V} {d : PyData} (h : Dp K G v d) : ∃ T : PT, (∀ M, TyK K G M v T) ∧ (T == .int) = isIntV v := by
  cases h with
  | non => exact ⟨.non, fun _ => ty_non, rfl⟩
  | bl b => exact ⟨.bool, fun _ => ty_bl, rfl⟩
  | int i => exact ⟨.int, fun _ => ty_int, rfl⟩
  | str s => exact ⟨.str, fun _ => ty_str, rfl⟩
  | lst h1 h2 => exact ⟨.list, fun _ => ty_lst (.inr h1), rfl⟩
  | tup h1 h2 => exact ⟨.tuple, fun _ => ty_tup h1, rfl⟩
theorem pk_true {n a b : Int} (h : 0 ≤ a ∧ a < b ∧ b < n) : pkD n (.tuple [.int a, .int b]) = true := by
  show (decide (0 ≤ a) && (decide (a < b) && decide (b < n))) = true
  rw [decide_eq_true h.1, decide_eq_true h.2.1, decide_eq_true h.2.2]; rfl
theorem pk_inv {n : Int} {d : PyData} (h : pkD n d = true) : ∃ a b, d = .tuple [.int a, .int b] ∧ 0 ≤ a ∧ a < b ∧ b < n := by
  unfold pkD at h
  split at h
  · rw [Bool.and_eq_true, Bool.and_eq_true] at h
    exact ⟨_, _, rfl, of_decide_eq_true h.1, of_decide_eq_true h.2.1, of_decide_eq_true h.2.2⟩
  · cases h
theorem pk_no {n : Int} {d : PyData} (h : ∀ a b, d = .tuple [.int a, .int b] → 0 ≤ a → a < b → b < n → False) : pkD n d = false := by
  cases e : pkD n d with
  | false => rfl
  | true =>
    obtain ⟨a, b, rfl, h1, h2, h3⟩ := pk_inv e
    exact (h a b rfl h1 h2 h3).elim
theorem dp_int' {i : Int} {d : PyData} (h : Dp K G (.int i) d) : d = .int i := by cases h; rfl
theorem dp_two {xs : List V} {ds : List PyData} (h : DpAll K G xs ds) (hl : xs.length = 2) : ∃ v0 v1 e0 e1, xs = [v0, v1] ∧ ds = [e0, e1] ∧ Dp K G v0 e0 ∧ Dp K G v1 e1 := by
  cases h with
  | nil => simp at hl
  | cons a0 h => cases h with
    | nil => simp at hl
    | cons a1 h => cases h with
      | nil => exact ⟨_, _, _, _, rfl, rfl, a0, a1⟩
      | cons a2 h => simp at hl
theorem pf_is_pair (h : S_is_pair K vs G M R Z) : rd_is_pair K (ends R Z) (sta 2 vs) G M := by
  obtain ⟨_, _, rfl, n, d, rfl, hd, q⟩ := sp2_of h
  have no : pkD n d = false → wkR R (.bl false) G M := fun e => ret0 (by rw [e] at q; exact q)
  cases hd with
  | non => exact ⟨G, M, Wk.refl, .type PT.non.name, .type "tuple", _, .ty "tuple", ty_non, kit_pt .non .tuple, G, M, Wk.refl, no rfl⟩
  | bl b => exact ⟨G, M, Wk.refl, .type PT.bool.name, .type "tuple", _, .ty "tuple", ty_bl, kit_pt .bool .tuple, G, M, Wk.refl, no rfl⟩
  | int i => exact ⟨G, M, Wk.refl, .type PT.int.name, .type "tuple", _, .ty "tuple", ty_int, kit_pt .int .tuple, G, M, Wk.refl, no rfl⟩
  | str s => exact ⟨G, M, Wk.refl, .type PT.str.name, .type "tuple", _, .ty "tuple", ty_str, kit_pt .str .tuple, G, M, Wk.refl, no rfl⟩
  | lst h1 h2 => exact ⟨G, M, Wk.refl, .type PT.list.name, .type "tuple", _, .ty "tuple", ty_lst (.inr h1), kit_pt .list .tuple, G, M, Wk.refl, no rfl⟩
  | @tup t xs ds h1 h2 =>
    have hl := dpall_len h2
    refine ⟨G, M, Wk.refl, .type PT.tuple.name, .type "tuple", _, .ty "tuple", ty_tup h1, kit_pt .tuple .tuple, xs, .inr h1, ite2' (c := !decide (V.int (xs.length : Int) = .int 2)) (fun e => ?_) (fun e => ?_)⟩
    · refine ⟨G, M, Wk.refl, no (pk_no fun a b e2 _ _ _ => ?_)⟩
      have e3 : ds = [.int a, .int b] := by cases e2; rfl
      rw [e3] at hl
      have : V.int (xs.length : Int) = .int 2 := by rw [hl]; rfl
      rw [this] at e
      exact absurd e (by decide)
    have hx2 : V.int (xs.length : Int) = .int 2 := of_decide_eq_true (by simpa using e)
    have hx2 : xs.length = 2 := by have := V.int.inj hx2; omega
    obtain ⟨v0, v1, e0, e1, rfl, rfl, a0, a1⟩ := dp_two h2 hx2
    obtain ⟨T0, hT0, hi0⟩ := dp_ty a0
    obtain ⟨T1, hT1, hi1⟩ := dp_ty a1
    refine ⟨G, M, Wk.refl, _, _, .inr h1, rfl, T1, 0, n - 1, rfl, rfl, hT1 M, hi1, ite2' (c := withinV v1 0 (n - 1)) (fun e => ?_) (fun e => ?_)⟩
    · obtain ⟨b, rfl, b0, b1⟩ := within_int e
      obtain rfl := dp_int' a1
      refine ⟨_, _, .inr h1, rfl, _, _, .inr h1, rfl, T0, 0, b - 1, rfl, rfl, hT0 M, hi0, ret0 ?_⟩
      have e4 : withinV v0 0 (b - 1) = pkD n (.tuple [e0, .int b]) := by
        cases e5 : withinV v0 0 (b - 1) with
        | true =>
          obtain ⟨a, rfl, c0, c1⟩ := within_int e5
          obtain rfl := dp_int' a0
          exact (pk_true ⟨c0, by omega, by omega⟩).symm
        | false =>
          refine (pk_no fun a b' e6 g0 g1 g2 => ?_).symm
          cases e6
          cases a0
          rw [wi_in (by omega) (by omega)] at e5
          cases e5
      show R (.bl (withinV v0 0 (b - 1))) G M
      rw [e4]; exact q
    · show wkR R (.bl false) G M
      refine no (pk_no fun a b e6 g0 g1 g2 => ?_)
      cases e6
      cases a1
      rw [wi_in (by omega) (by omega)] at e
      cases e
theorem net_pairs {n : Int} {ds : List PyData} (h : ds.all (pkD n) = true) : ds = (ds.map prOf).map prD ∧ ∀ p, p ∈ ds.map prOf → GoodP n.toNat p := by
  have hd : ∀ d, d ∈ ds → pkD n d = true := fun d hd => List.all_eq_true.mp h d hd
  refine ⟨?_, fun p hp => ?_⟩
  · rw [List.map_map]
    refine (List.map_id ds).symm.trans (List.map_congr_left fun d hm => ?_)
    obtain ⟨a, b, rfl, _⟩ := pk_inv (hd d hm)
    rfl
  · obtain ⟨d, hm, rfl⟩ := List.mem_map.mp hp
    obtain ⟨a, b, rfl, h0, h1, h2⟩ := pk_inv (hd d hm)
    exact ⟨h0, h1, by show b < (n.toNat : Int); omega⟩
theorem pf_sorts (h : S_sorts K vs G M R Z) : rd_sorts K (ends R Z) (sta 4 vs) G M := by
  obtain ⟨_, y, rfl, n, th, rfl, n0, n1, hth, q⟩ := sp2_of h
  cases th with
  | none =>
    obtain ⟨T, hT, hf⟩ := hth
    exact ⟨G, M, Wk.refl, .type T.name, .type "list", _, .ty "list", hT, kit_pt T .list, ite2' (c := !isaB T .list) (fun _ => ⟨G, M, Wk.refl, ret0 (q G Ex.refl)⟩) (fun e => by rw [hf] at e; cases e)⟩
  | some ds =>
    obtain ⟨a, us, rfl, ha, hd, hlp⟩ := hth
    have hl : us.length = ds.length := dpall_len hd
    refine ⟨G, M, Wk.refl, .type "list", .type "list", _, .ty "list", ty_lst ha, kit_pt .list .list, ?_⟩
    refine ⟨_, ha, sz (by show us.length ≤ _; omega), fun i acc G' M' => G' = G ∧ M' = M ∧ acc = ((ds.take i).map (pkD n)).map V.bl, ⟨rfl, rfl, rfl⟩, ?_, ?_, ?_⟩
    · rintro i acc G' M' hi ⟨rfl, rfl, rfl⟩
      exact ha
    · rintro i acc G' M' D hi hacc ⟨rfl, rfl, rfl⟩ fD
      have hi : i < us.length := hi
      obtain ⟨d, hp⟩ : ∃ d, ds[i]? = some d := ⟨_, List.getElem?_eq_getElem (by omega)⟩
      obtain ⟨v, hv, hd1⟩ := dpall_get hd hp
      refine asg_L hv ⟨rfl, n, d, rfl, hd1, _, _, Wk.refl, rfl, rfl, ?_⟩
      rw [take_succ' hp, List.map_append, List.map_append]; rfl
    · rintro acc G' M' p ⟨rfl, rfl, rfl⟩ hacc fp
      have et : ds.take us.length = ds := by rw [hl, List.take_length]
      refine ⟨(ds.take us.length).map (pkD n), lat_0, ?_⟩
      rw [et]
      have e5 : (ds.map (pkD n)).all id = ds.all (pkD n) := by rw [List.all_map]; rfl
      rw [e5]
      refine ite2' (c := !ds.all (pkD n)) (fun e => ?_) (fun e => ?_)
      · have e6 : sortsB n (some ds) = false := by
          have : ds.all (pkD n) = false := by simpa using e
          show (ds.all (pkD n) && _) = false
          rw [this]; rfl
        have q := q G' Ex.refl
        rw [e6] at q
        exact ⟨_, _, Wk.drop0, ret0 q⟩
      have hall : ds.all (pkD n) = true := by simpa using e
      obtain ⟨hds, hg⟩ := net_pairs hall
      obtain ⟨ps, hps⟩ : ∃ ps, ps = ds.map prOf := ⟨_, rfl⟩
      rw [← hps] at hds hg
      have e7 : sortsB n (some ds) = srtB n.toNat ps := by
        show (ds.all (pkD n) && srtB n.toNat (ds.map prOf)) = _
        rw [hall, hps]; rfl
      rw [e7] at q
      rw [hds] at hd
      refine ⟨G', M', Wk.drop0, n, rfl, by omega, n1, fun t ws G1 x1 gt hL => ?_⟩
      have hlw := hL.len
      have hlw2 : ws.length = 2 ^ n.toNat := by rw [hlw, rowsB_len]
      have hb : ws.length ≤ 1024 := by rw [hlw2]; exact pow10 (by omega)
      refine ⟨_, lat_g (sql_of gt), sz (by show ws.length ≤ _; omega), fun i acc G2 M2 => G2 = G1 ∧ M2 = M' ∧ acc = (((rowsB n.toNat).take i).map fun r => decide ((runN ps r).Pairwise (· ≤ ·))).map V.bl, ⟨rfl, rfl, rfl⟩, ?_, ?_, ?_⟩
      · rintro i acc G2 M2 hi ⟨rfl, rfl, rfl⟩
        exact lat_g (sql_of gt)
      · rintro i acc G2 M2 D hi hacc ⟨rfl, rfl, rfl⟩ fD
        have hi : i < ws.length := hi
        have hi' : i < (rowsB n.toNat).length := by omega
        have hp := List.getElem?_eq_getElem hi'
        obtain ⟨w, hw, hgw⟩ := hL.get hp
        have hrl := rowsB_each _ _ (List.getElem_mem hi')
        have hgr : ∀ z, z ∈ ps → GoodP (rowsB n.toNat)[i].length z := fun z hz => by rw [hrl]; exact hg z hz
        refine asg_L hw ⟨rfl, a, w, us, ps, (rowsB n.toNat)[i], rfl, rfl, lat_cons (lat_ex x1 ha), ex_ds x1 _ hd, lat_g (sql_of hgw), hgr, fun f ff => ?_⟩
        refine ⟨(rowsB n.toNat)[i], lat_g (sql_of hgw), fun ns u pm pw fu => ?_⟩
        refine ⟨_, _, dat_ints (lat_cons lat_0), dat_ints lat_0, (shp_ints (n := 0) _).shaped (by decide), (shp_ints (n := 0) _).shaped (by decide), ?_⟩
        refine ⟨_, _, Wk.drop0.trans Wk.drop0, rfl, rfl, ?_⟩
        rw [List.take_add_one, hp, List.map_append, List.map_append]
        show _ ++ [V.bl (PyData.eqv _ _)] = _
        rw [eqv_lints, eq_srt hgr pm pw]; rfl
      · rintro acc G2 M2 p ⟨rfl, rfl, rfl⟩ hacc fp
        refine ⟨(rowsB n.toNat).map fun r => decide ((runN ps r).Pairwise (· ≤ ·)), ?_, ?_⟩
        · rw [List.take_of_length_le (by show (rowsB n.toNat).length ≤ ws.length; omega)]
          exact lat_0
        · refine retW (G' := G2) (M' := M2) Wk.drop0 ?_
          have e : (((rowsB n.toNat).map fun r => decide ((runN ps r).Pairwise (· ≤ ·))).all id) = srtB n.toNat ps := by
            unfold srtB
            rw [List.all_map]; rfl
          rw [e]
          exact q G2 x1
theorem pf_law_is_net (h : S_law_is_net K vs G M R Z) : rd_law_is_net K (ends R Z) (sta 3 vs) G M := by
  obtain ⟨_, y, rfl, n, th, rfl, hth, q⟩ := sp2_of h
  cases th with
  | none =>
    obtain ⟨T, hT, hf⟩ := hth
    exact ⟨G, M, Wk.refl, .type T.name, .type "list", _, .ty "list", hT, kit_pt T .list, ite2' (c := !isaB T .list) (fun _ => ⟨G, M, Wk.refl, ret0 q⟩) (fun e => by rw [hf] at e; cases e)⟩
  | some ds =>
    obtain ⟨a, us, rfl, ha, hd, hlp⟩ := hth
    have hl : us.length = ds.length := dpall_len hd
    refine ⟨G, M, Wk.refl, .type "list", .type "list", _, .ty "list", ty_lst ha, kit_pt .list .list, ?_⟩
    refine ⟨G, M, Wk.refl, us, ha, fun i σ G' M' => ∃ y2, σ = [some (.int n), some (.ref a), y2] ∧ G' = G ∧ M' = M ∧ ∀ d, d ∈ ds.take i → pkD n d = true, ⟨none, rfl, rfl, rfl, fun _ z => by simp at z⟩, ?_, ?_, ?_⟩
    · rintro i σ G' M' hi ⟨y2, rfl, rfl, rfl, _⟩; exact ha
    · rintro i σ G' M' hi ⟨y2, rfl, rfl, rfl, hall⟩
      have hi : i < us.length := hi
      obtain ⟨d, hp⟩ : ∃ d, ds[i]? = some d := ⟨_, List.getElem?_eq_getElem (by omega)⟩
      obtain ⟨v, hv, hd1⟩ := dpall_get hd hp
      have no : pkD n d = false → wkR R (.bl false) G' M' := fun e => ret0 (by
        have : netB n (some ds) = false := by
          show ds.all (pkD n) = false
          cases e2 : ds.all (pkD n) with
          | false => rfl
          | true => rw [List.all_eq_true.mp e2 d (List.mem_of_getElem? hp)] at e; cases e
        rw [this] at q; exact q)
      refine asg_L hv ?_
      cases hd1 with
      | non => exact ⟨_, _, Wk.refl, .type PT.non.name, .type "tuple", _, .ty "tuple", ty_non, kit_pt .non .tuple, _, _, Wk.refl, no rfl⟩
      | bl b => exact ⟨_, _, Wk.refl, .type PT.bool.name, .type "tuple", _, .ty "tuple", ty_bl, kit_pt .bool .tuple, _, _, Wk.refl, no rfl⟩
      | int i => exact ⟨_, _, Wk.refl, .type PT.int.name, .type "tuple", _, .ty "tuple", ty_int, kit_pt .int .tuple, _, _, Wk.refl, no rfl⟩
      | str s => exact ⟨_, _, Wk.refl, .type PT.str.name, .type "tuple", _, .ty "tuple", ty_str, kit_pt .str .tuple, _, _, Wk.refl, no rfl⟩
      | lst h1 h2 => exact ⟨_, _, Wk.refl, .type PT.list.name, .type "tuple", _, .ty "tuple", ty_lst (.inr h1), kit_pt .list .tuple, _, _, Wk.refl, no rfl⟩
      | @tup t xs es h1 h2 =>
        have hl2 := dpall_len h2
        refine ⟨_, _, Wk.refl, .type PT.tuple.name, .type "tuple", _, .ty "tuple", ty_tup h1, kit_pt .tuple .tuple, xs, .inr h1, ite2' (c := !decide (V.int (xs.length : Int) = .int 2)) (fun e => ?_) (fun e => ?_)⟩
        · refine ⟨_, _, Wk.refl, no (pk_no fun a b e2 _ _ _ => ?_)⟩
          have e3 : es = [.int a, .int b] := by cases e2; rfl
          rw [e3] at hl2
          have : V.int (xs.length : Int) = .int 2 := by rw [hl2]; rfl
          rw [this] at e
          exact absurd e (by decide)
        have hx2 : V.int (xs.length : Int) = .int 2 := of_decide_eq_true (by simpa using e)
        have hx2 : xs.length = 2 := by have := V.int.inj hx2; omega
        obtain ⟨v0, v1, e0, e1, rfl, rfl, a0, a1⟩ := dp_two h2 hx2
        obtain ⟨T0, hT0, hi0⟩ := dp_ty a0
        obtain ⟨T1, hT1, hi1⟩ := dp_ty a1
        refine ⟨_, _, .inr h1, rfl, T0, hT0 _, ite2' (c := !(T0 == .int)) (fun gg => ?_) (fun gg => ?_)⟩
        · refine ⟨_, _, Wk.refl, no (pk_no fun a b e2 _ _ _ => ?_)⟩
          cases e2; cases a0
          rw [hi0] at gg; cases gg
        refine ⟨_, _, .inr h1, rfl, T1, hT1 _, ite2' (c := !(T1 == .int)) (fun gk => ?_) (fun gk => ?_)⟩
        · refine ⟨_, _, Wk.refl, no (pk_no fun a b e2 _ _ _ => ?_)⟩
          cases e2; cases a1
          rw [hi1] at gk; cases gk
        rw [hi0] at gg
        rw [hi1] at gk
        obtain ⟨x, rfl⟩ : ∃ x, v0 = .int x := by cases v0 <;> first | exact ⟨_, rfl⟩ | cases gg
        obtain ⟨z, rfl⟩ : ∃ x, v1 = .int x := by cases v1 <;> first | exact ⟨_, rfl⟩ | cases gk
        obtain rfl := dp_int' a0
        obtain rfl := dp_int' a1
        refine ⟨_, _, Wk.refl, _, _, .inr h1, rfl, ite2' (c := decide (x < 0)) (fun f => ?_) (fun f => ?_)⟩
        · exact ⟨_, _, Wk.refl, no (pk_no fun a b e2 g0 _ _ => by cases e2; have := of_decide_eq_true f; omega)⟩
        refine ⟨_, _, .inr h1, rfl, _, _, .inr h1, rfl, ite2' (c := decide (z ≤ x)) (fun f => ?_) (fun f2 => ?_)⟩
        · exact ⟨_, _, Wk.refl, no (pk_no fun a b e2 _ g0 _ => by cases e2; have := of_decide_eq_true f; omega)⟩
        refine ⟨_, _, .inr h1, rfl, ite2' (c := decide (n ≤ z)) (fun f => ?_) (fun f3 => ?_)⟩
        · exact ⟨_, _, Wk.refl, no (pk_no fun a b e2 _ _ g0 => by cases e2; have := of_decide_eq_true f; omega)⟩
        have f := of_decide_eq_false f
        have f2 := of_decide_eq_false f2
        have f3 := of_decide_eq_false f3
        refine ⟨_, _, Wk.refl, some (.ref t), rfl, rfl, rfl, fun d hd => ?_⟩
        rw [take_succ' hp] at hd
        rcases List.mem_append.mp hd with z | z
        · exact hall d z
        · rw [List.mem_singleton.mp z]; exact pk_true ⟨by omega, by omega, by omega⟩
    · rintro σ G' M' ⟨y2, rfl, rfl, rfl, hall⟩
      have hall : ∀ d, d ∈ ds.take us.length → pkD n d = true := hall
      rw [hl, List.take_length] at hall
      have : netB n (some ds) = true := List.all_eq_true.mpr hall
      rw [this] at q
      exact ⟨_, _, Wk.refl, ret0 q⟩
theorem step_bits {l : List Int} {a b : Int} (g : GoodP l.length (a, b)) (h : ∀ v, v ∈ l → v = 0 ∨ v = 1) (e : l.getD b.toNat 0 < l.getD a.toNat 0) : stepN l (a, b) = (l.set a.toNat 0).set b.toNat 1 := by
  obtain ⟨g0, g1, g2⟩ := g
  have g0 : 0 ≤ a := g0
  have g1 : a < b := g1
  have g2 : b < (l.length : Int) := g2
  have ha : l.getD a.toNat 0 ∈ l := by rw [List.getD_eq_getElem?_getD, List.getElem?_eq_getElem (by omega)]; exact List.getElem_mem _
  have hb : l.getD b.toNat 0 ∈ l := by rw [List.getD_eq_getElem?_getD, List.getElem?_eq_getElem (by omega)]; exact List.getElem_mem _
  have h1 := h _ ha
  have h2 := h _ hb
  have ea : l.getD a.toNat 0 = 1 := by omega
  have eb : l.getD b.toNat 0 = 0 := by omega
  unfold stepN
  show (if l.getD b.toNat 0 < l.getD a.toNat 0 then (l.set a.toNat (l.getD b.toNat 0)).set b.toNat (l.getD a.toNat 0) else l) = _
  rw [if_pos e, ea, eb]
theorem bits_01 {n N : Nat} {ps : List (Int × Int)} (hg : ∀ p, p ∈ ps → GoodP n p) : ∀ v, v ∈ runN ps (bitsL n N) → v = 0 ∨ v = 1 := fun v hv => by
  have hl : (bitsL n N).length = n := by simp [bitsL]
  have hm := (runN_perm ps (bitsL n N) (by rw [hl]; exact hg)).mem_iff.mp hv
  obtain ⟨k, _, rfl⟩ := List.mem_map.mp hm
  omega
theorem map_set_i {l : List Int} {i : Nat} {v : Int} : (l.map V.int).set i (.int v) = (l.set i v).map V.int := by rw [List.map_set]
theorem pf_law_sorts (h : S_law_sorts K vs G M R Z) : rd_law_sorts K (ends R Z) (sta 7 vs) G M := by
  obtain ⟨_, _, rfl, n, a, us, ps, rfl, rfl, n0, n1, ha, hd, hg, q⟩ := sp2_of h
  have hul : us.length = ps.length := by rw [dpall_len hd, List.length_map]
  have e2 : ((2 : Int) ^ n.toNat) = ((2 ^ n.toNat : Nat) : Int) := by simp
  have hb : 2 ^ n.toNat ≤ 1024 := pow10 (by omega)
  have hcp : CPow 1 n := ⟨by omega, by omega, by decide⟩
  have hpi : (0 : Int) < 2 ^ n.toNat ∧ (2 : Int) ^ n.toNat ≤ 1024 := ⟨pow_pos' _, by rw [e2]; exact Int.ofNat_le.mpr hb⟩
  refine ⟨G, M, Wk.refl, hcp, ⟨by omega, by omega⟩, fun i σ G' M' => ∃ y2 y3 y4 y5, σ = [some (.int n), some (.ref a), y2, y3, y4, y5, none] ∧ G' = G ∧ M' = M ∧ ∀ N, N < i → (runN ps (bitsL n.toNat N)).Pairwise (· ≤ ·), ⟨none, none, none, none, rfl, rfl, rfl, fun N hN => by omega⟩, fun _ _ _ _ _ _ => trivial, ?_, ?_⟩
  · rintro i σ G' M' hi ⟨y2, y3, y4, y5, rfl, rfl, rfl, hall⟩
    refine ⟨G', M', Wk.refl, ⟨by omega, by omega⟩, sz (by show n.toNat ≤ _; omega), fun k acc G2 M2 => G2 = G' ∧ M2 = M' ∧ acc = ((List.range k).map fun k => ((i / 2 ^ k % 2 : Nat) : Int)).map V.int, ⟨rfl, rfl, rfl⟩, fun _ _ _ _ _ _ => trivial, ?_, ?_⟩
    · rintro k acc G2 M2 D hk hacc ⟨rfl, rfl, rfl⟩ fD
      have hk : k < n.toNat := hk
      have ek : (1 : Int) * 2 ^ (0 + (k : Int)).toNat = ((2 ^ k : Nat) : Int) := by
        rw [show (0 + (k : Int)).toNat = k by omega]; simp
      have hpk : 2 ^ k ≤ 1024 := pow10 (by omega)
      have hpos : 0 < 2 ^ k := Nat.pow_pos (by decide)
      refine ⟨rfl, ⟨by omega, by omega, by decide⟩, by rw [ek]; exact divW (by omega) (by omega) _, (by show (0 : Int) < _; decide), _, _, Wk.refl, rfl, rfl, ?_⟩
      rw [List.range_succ, List.map_append, List.map_append]
      have e3 : (0 + (i : Int)) / ((2 ^ k : Nat) : Int) % 2 = ((i / 2 ^ k % 2 : Nat) : Int) := by
        rw [Int.zero_add]; simp
      show _ ++ [V.int ((0 + (i : Int)) / (1 * 2 ^ (0 + (k : Int)).toNat) % 2)] = _
      rw [ek, e3]; rfl
    · rintro acc G2 M2 w ⟨rfl, rfl, rfl⟩ hacc fw
      have hrl : (bitsL n.toNat i).length = n.toNat := by simp [bitsL]
      have hgr : ∀ z, z ∈ ps → GoodP (bitsL n.toNat i).length z := fun z hz => by rw [hrl]; exact hg z hz
      refine ⟨G2, _, Wk.refl, us, lat_cons ha, fun k σ G3 M3 => ∃ (y2 y4 y5 : Option V), σ = [some (.int n), some (.ref a), y2, some (.ref w), y4, y5, none] ∧ G3 = G2 ∧ M3 = (w, .lst ((runN (ps.take k) (bitsL n.toNat i)).map V.int)) :: M2, ⟨_, _, _, rfl, rfl, rfl⟩, ?_, ?_, ?_⟩
      · rintro k σ G3 M3 _ ⟨y2, y4, y5, rfl, rfl, rfl⟩; exact lat_cons ha
      · rintro k σ G3 M3 hk ⟨y2, y4, y5, rfl, rfl, rfl⟩
        have hk : k < us.length := hk
        obtain ⟨⟨x, z⟩, hp⟩ : ∃ p, ps[k]? = some p := ⟨_, List.getElem?_eq_getElem (by omega)⟩
        obtain ⟨v, hv, hd1⟩ := dpall_get (d := prD (x, z)) hd (by rw [List.getElem?_map, hp]; rfl)
        obtain ⟨tt, rfl, ht⟩ := dp_pr_inv hd1
        have hgp := hgr (x, z) (List.mem_of_getElem? hp)
        have hL : (runN (ps.take k) (bitsL n.toNat i)).length = n.toNat := by rw [runN_len, hrl]
        have h01 : ∀ v, v ∈ runN (ps.take k) (bitsL n.toNat i) → v = 0 ∨ v = 1 := bits_01 fun p hp => hg p (List.mem_of_mem_take hp)
        have s1 := runN_take hp (bitsL n.toNat i)
        generalize runN (ps.take k) (bitsL n.toNat i) = l at *
        rw [hrl] at hgp
        obtain ⟨g0, g1, g2⟩ := id hgp
        have g0 : 0 ≤ x := g0
        have g1 : x < z := g1
        have g2 : z < (n.toNat : Int) := g2
        refine asg_L hv ⟨_, ht, ?_⟩
        refine ⟨_, _, Wk.refl, _, _, seq_0, atI_int g0 (by omega), _, _, seq_0, atI_int (by omega) (by omega), ite2' (fun e => ?_) (fun e => ?_)⟩
        · have e := of_decide_eq_true e
          refine ⟨_, _, Wk.refl, 0, _, _, rfl, ixN_int g0 (by rw [List.length_map]; omega), ?_⟩
          refine ⟨_, _, Wk.refl, 0, _, _, rfl, ixN_int (by omega) (by rw [List.length_set, List.length_map]; omega), ?_⟩
          refine ⟨_, _, Wk.refl, _, _, _, rfl, rfl, ?_⟩
          rw [s1, step_bits (by rw [hL]; exact hgp) h01 e]
          show (w, HO.lst (((l.map V.int).set x.toNat (.int 0)).set z.toNat (.int 1))) :: M2 = _
          rw [map_set_i, map_set_i]
        · refine ⟨_, _, Wk.refl, _, _, _, rfl, rfl, ?_⟩
          rw [s1]
          unfold stepN
          rw [if_neg (of_decide_eq_false e)]
      · rintro σ G3 M3 ⟨y2, y4, y5, rfl, rfl, rfl⟩
        have et : ps.take (srcL K a us).n = ps := List.take_of_length_le (by show ps.length ≤ us.length; omega)
        rw [et]
        refine ⟨G3, _, Wk.refl, runN ps (bitsL n.toNat i), lat_0, fun ns u pm pw fu => ?_⟩
        refine ⟨_, _, dat_ints (lat_cons lat_0), dat_ints lat_0, (shp_ints (n := 0) _).shaped (by decide), (shp_ints (n := 0) _).shaped (by decide), ?_⟩
        have pm2 : ns.Perm (bitsL n.toNat i) := pm.trans (runN_perm ps _ hgr)
        refine ite2' (c := !PyData.eqv (.list ((runN ps (bitsL n.toNat i)).map .int)) (.list (ns.map .int))) (fun e => ?_) (fun e => ?_)
        · rw [eqv_lints, eq_srt hgr pm2 pw] at e
          have hs : srtB n.toNat ps = false := by
            cases hb : srtB n.toNat ps with
            | false => rfl
            | true =>
              have := srt_each.mp hb _ (bits_mem n.toNat i)
              rw [decide_eq_true this] at e; cases e
          rw [hs] at q
          exact ⟨_, _, Wk.refl, retW (Wk.drop0.trans Wk.drop0) q⟩
        · rw [eqv_lints, eq_srt hgr pm2 pw] at e
          have hp : (runN ps (bitsL n.toNat i)).Pairwise (· ≤ ·) := by
            apply Decidable.byContradiction
            intro hn
            rw [decide_eq_false hn] at e; cases e
          refine ⟨_, _, Wk.drop0.trans Wk.drop0, _, _, _, _, rfl, rfl, rfl, fun N hN => ?_⟩
          by_cases hNi : N = i
          · rw [hNi]; exact hp
          · exact hall N (by omega)
  · rintro σ G' M' ⟨y2, y3, y4, y5, rfl, rfl, rfl, hall⟩
    have hn : (1 * (2 : Int) ^ n.toNat).toNat = 2 ^ n.toNat := by omega
    have hs : srtB n.toNat ps = true := srt_each.mpr fun r hr => by
      obtain ⟨N, hN, rfl⟩ := bits_all _ _ hr
      exact hall N (by show N < (1 * (2 : Int) ^ n.toNat).toNat; rw [hn]; exact hN)
    rw [hs] at q
    exact ⟨_, _, Wk.refl, ret0 q⟩
end
section
variable {K : PySem.W.Frag} {vs : List V} {G : Hp} {M : Mem} {R : KR} {Z : KX}
theorem net10 : ∀ k : Nat, k < 11 → (netL (k : Int)).length ≤ 63 := by decide +kernel
theorem netL_le {m : Int} (h0 : 0 ≤ m) (h1 : m ≤ 10) : (netL m).length ≤ 63 := by
  obtain ⟨k, rfl⟩ := Int.eq_ofNat_of_zero_le h0
  exact net10 k (by omega)
theorem netL_gd {m : Int} : ∀ z, z ∈ netL m → GoodP m.toNat z := fun z hz => by
  obtain ⟨a, b, c⟩ := netL_good hz
  exact ⟨a, b, by omega⟩
theorem pf_law_drawn (h : S_law_drawn K vs G M R Z) : rd_law_drawn K (ends R Z) (sta 6 vs) G M := by
  obtain ⟨_, _, rfl, p, m, n, c, s, rfl, rfl, hn, hs, m0, m1, q⟩ := sp2_of h
  refine ⟨G, M, Wk.refl, p, 4, n, c, s, rfl, rfl, hn, hs, by decide, by decide, fun w c1 s1 w0 w1 hs1 => ?_⟩
  have hn1 : (M.set n (p, pool c1 s1))[n]? = some (p, pool c1 s1) := set_n hn
  have hnl := netL_le (m := m) (by omega) m1
  have rest : ∀ w : Int, (m ≤ 8 ∨ w < 2) → 0 ≤ w → w < 4 → rd_law_drawn_2 K (ends R Z) [some (.ref p), some (.int m), some (.int w), none, none, none] G (M.set n (p, pool c1 s1)) := by
    intro w hw w0 w1
    have told : kSeq (kRet (kCB (kList K) (kCons (kCall (S_net_of K) (kCons (kVar 1) (kNil))) (kNil)))) (kNext) { ends R Z with nx := rd_law_drawn_3 K (ends R Z) } [some (.ref p), some (.int m), some (.int w), none, none, none] G (M.set n (p, pool c1 s1)) :=
      ⟨G, _, Wk.refl, m, rfl, m0, by omega, fun t us G1 x1 f1 d1 => ⟨us, seq_0, fun l fl => retW Wk.drop1 (q l us (netL m) G1 c1 s1 x1 d1 netL_gd (by omega) hs1)⟩⟩
    refine ⟨G, _, Wk.refl, ite2' (c := decide (V.int w = .int 0)) (fun _ => told) (fun _ => ite2' (c := decide (V.int m = .int 1)) (fun _ => told) (fun hm1 => ?_))⟩
    have hm1 : m ≠ 1 := fun e => of_decide_eq_false hm1 (by rw [e])
    refine ⟨G, _, Wk.refl, ite2' (c := decide (V.int w = .int 1)) (fun _ => ?_) (fun hw1 => ?_)⟩
    · refine ⟨G, _, Wk.refl, sz0, fun t ft => ⟨G, _, Wk.refl, p, 21, n + 1, c1, s1, rfl, rfl, hn1, hs1, by decide, by decide, fun k c2 s2 k0 k1 hs2 => ⟨⟨by omega, by omega⟩, fun i σ G' M' => ∃ (us : List V) (ps : List (Int × Int)) (c' s' : Int) (y4 y5 : Option V), σ = [some (.ref p), some (.int m), some (.int w), some (.ref t), y4, y5] ∧ Ex G G' ∧ M' = (t, .lst us) :: M.set n (p, pool c' s') ∧ PoolOk s' ∧ DpAll K G' us (ps.map prD) ∧ (∀ z, z ∈ ps → GoodP m.toNat z) ∧ ps.length = i,
        ⟨[], [], c2, s2, none, none, rfl, Ex.refl, by show (t, HO.lst []) :: (M.set n (p, pool c1 s1)).set n (p, pool c2 s2) = _; rw [List.set_set], hs2, .nil, (fun _ z => nomatch z), rfl⟩, fun _ _ _ _ _ _ => trivial, ?_, ?_⟩⟩⟩
      · rintro i σ G' M' hi ⟨us, ps, c', s', y4, y5, rfl, ex, rfl, hs', hd, hg, hl⟩
        have hi : i < k.toNat := hi
        have hul : us.length = ps.length := by rw [dpall_len hd, List.length_map]
        refine asg_R (v := (i : Int)) (by omega) ?_
        refine ⟨_, _, Wk.refl, p, m - 1, n + 1, c', s', rfl, rfl, set_n (n := n) hn, hs', by omega, Int.lt_of_le_of_lt (b := 10) (by omega) (by decide), fun b c3 s3 b0 b1 hs3 => ?_⟩
        refine ⟨_, _, Wk.refl, tyl_n (n := 0) rfl, p, 1 + b, n + 1, c3, s3, rfl, rfl, set_n (n := n) (set_n hn), hs3, by omega, Int.lt_of_le_of_lt (b := 10) (by omega) (by decide), fun a c4 s4 a0 a1 hs4 => ⟨sz2, fun u fu => ⟨0, us, rfl, Nat.lt_of_le_of_lt (show us.length ≤ 100 by omega) (by decide), ?_⟩⟩⟩
        have ex2 := Ex.new (o := .tup [.int a, .int (1 + b)]) fu
        refine ⟨_, _, Wk.refl, us ++ [.ref u], ps ++ [(a, 1 + b)], c4, s4, _, _, rfl, ex.trans ex2, ?_, hs4, ?_, ?_, by rw [List.length_append, hl]; rfl⟩
        · show (t, HO.lst (us ++ [.ref u])) :: ((M.set n (p, pool c' s')).set n (p, pool c3 s3)).set n (p, pool c4 s4) = _
          rw [List.set_set, List.set_set]
        · rw [List.map_append]
          exact dpall_snoc (ex_ds ex2 _ hd) (dp_pr sqt_new)
        · intro z hz
          rcases List.mem_append.mp hz with hz | hz
          · exact hg z hz
          · rw [List.mem_singleton.mp hz]
            exact ⟨a0, a1, by show 1 + b < (m.toNat : Int); omega⟩
      · rintro σ G' M' ⟨us, ps, c', s', y4, y5, rfl, ex, rfl, hs', hd, hg, hl⟩
        have hl : ps.length = k.toNat := hl
        exact ⟨G', _, Wk.refl, ret0 (q t us ps G' c' s' ex hd hg (by omega) hs')⟩
    have hw1 : w ≠ 1 := fun e => of_decide_eq_false hw1 (by rw [e])
    refine ⟨G, _, Wk.refl, ite2' (c := decide (V.int w = .int 3)) (fun hw3 => ?_) (fun hw3 => ?_)⟩
    · refine ⟨G, _, Wk.refl, m, rfl, m0, by omega, fun t us G1 x1 f1 d1 => ⟨m, rfl, m0, by omega, fun t2 us2 G2 x2 f2 d2 => ⟨us2, lst_n (n := 0) rfl, divW (by omega) ?_ _, sz2, fun l fl => ?_⟩⟩⟩
      · have := map_len_le d2
        exact Int.lt_of_le_of_lt (b := 63) (by omega) (by decide)
      have hl1 := map_len_le d1
      have hl2 := map_len_le d2
      obtain ⟨Q, hQ⟩ : ∃ Q, Q = 390 / max (1 : Int) (us2.length : Int) := ⟨_, rfl⟩
      have hQ0 : 0 ≤ Q := by rw [hQ]; exact Int.ediv_nonneg (by decide) (by omega)
      have hQ1 : Q * (us2.length : Int) ≤ 390 := by
        have h1 : Q * max (1 : Int) (us2.length : Int) ≤ 390 := by rw [hQ]; exact Int.ediv_mul_le _ (by omega)
        have h2 : Q * (us2.length : Int) ≤ Q * max (1 : Int) (us2.length : Int) := Int.mul_le_mul_of_nonneg_left (by omega) hQ0
        omega
      have hQ2 : Q ≤ 390 := by
        have h1 : Q * 1 ≤ Q * max (1 : Int) (us2.length : Int) := Int.mul_le_mul_of_nonneg_left (by omega) hQ0
        have h2 : Q * max (1 : Int) (us2.length : Int) ≤ 390 := by rw [hQ]; exact Int.ediv_mul_le _ (by omega)
        omega
      obtain ⟨k, hk, hk0, hk1, hk2⟩ : ∃ k : Int, atI [V.int 2, .int (390 / max (1 : Int) (us2.length : Int))] (if decide (m < 5) then 1 else 0) = some (.int k) ∧ 0 ≤ k ∧ k ≤ 390 ∧ (us.length : Int) * k ≤ 400 := by
        by_cases hm5 : m < 5
        · rw [decide_eq_true hm5]
          refine ⟨Q, by rw [hQ]; rfl, hQ0, hQ2, ?_⟩
          rw [hl1, ← hl2, Int.mul_comm]; omega
        · rw [decide_eq_false hm5]
          exact ⟨2, rfl, by decide, by decide, by omega⟩
      refine ⟨_, _, lst_n (n := 0) rfl, hk, us, .inl (List.mem_cons_of_mem _ (List.mem_cons_of_mem _ List.mem_cons_self)), by omega, by omega, ?_, fun u fu => ?_⟩
      · have : us.length * k.toNat ≤ 400 := by
          obtain ⟨k', rfl⟩ := Int.eq_ofNat_of_zero_le hk0
          have : ((us.length * k' : Nat) : Int) ≤ 400 := by rw [Int.natCast_mul]; exact hk2
          show us.length * k' ≤ 400
          omega
        exact sz (by omega)
      refine retW (Wk.drop1.trans (Wk.drop1.trans Wk.drop1)) (q u _ (List.replicate k.toNat (netL m)).flatten G2 c1 s1 (x1.trans x2) (flat_dp k.toNat (ex_ds x2 _ d1)) (fun z hz => netL_gd z (mem_flat hz)) ?_ hs1)
      rw [len_flat, ← hl1]
      obtain ⟨k', rfl⟩ := Int.eq_ofNat_of_zero_le hk0
      have : ((us.length * k' : Nat) : Int) ≤ 400 := by rw [Int.natCast_mul]; exact hk2
      show k' * us.length ≤ 400
      rw [Nat.mul_comm]; omega
    · refine ⟨G, _, Wk.refl, ⟨by omega, by omega⟩, sz (by show (m - 1).toNat ≤ _; omega), fun i acc G' M' => Ex G G' ∧ M' = M.set n (p, pool c1 s1) ∧ DpAll K G' acc (((List.range i).map fun (i : Nat) => ((0 + (i : Int)), (0 + (i : Int) + 1))).map prD), ⟨Ex.refl, rfl, .nil⟩, fun _ _ _ _ _ _ => trivial, ?_, ?_⟩
      · rintro i acc G' M' D hi hacc ⟨ex, rfl, hd⟩ fD
        refine ⟨rfl, sz2, fun w fw => ⟨_, _, Wk.refl, ex.trans (Ex.new fw), rfl, ?_⟩⟩
        rw [range_snoc, List.map_append]
        exact dpall_snoc (ex_ds (Ex.new fw) _ hd) (dp_pr sqt_new)
      · rintro acc G' M' w2 ⟨ex, rfl, hd⟩ hacc fw
        have hacc : acc.length ≤ (m - 1).toNat := hacc
        refine ⟨p, min m 8 + 1, n + 1, c1, s1, rfl, rfl, hn1, hs1, by omega, Int.lt_of_le_of_lt (b := 9) (by omega) (by decide), fun k c2 s2 k0 k1 hs2 => ?_⟩
        have hmul : acc.length * k.toNat ≤ 9 * 9 := Nat.mul_le_mul (by omega) (by omega)
        refine ⟨acc, .inl List.mem_cons_self, by omega, by omega, sz (by omega), fun u fu => ?_⟩
        refine retW Wk.drop1 ?_
        rw [List.set_set]
        refine q u _ _ G' c2 s2 ex (flat_dp k.toNat hd) (fun z hz => ?_) ?_ hs2
        · obtain ⟨i, hi, rfl⟩ := List.mem_map.mp (mem_flat hz)
          have hi : i < (m - 1).toNat := List.mem_range.mp hi
          exact ⟨by show 0 ≤ 0 + (i : Int); omega, by show 0 + (i : Int) < 0 + (i : Int) + 1; omega, by show 0 + (i : Int) + 1 < (m.toNat : Int); omega⟩
        · rw [len_flat, List.length_map, List.length_range]
          have : k.toNat * (m - 1).toNat ≤ 9 * 9 := Nat.mul_le_mul (by omega) (by omega)
          show k.toNat * (m - 1).toNat ≤ 400
          omega
  refine ⟨G, _, Wk.refl, ite2' (c := decide (8 < m)) (fun _ => ?_) (fun e => rest w (.inl (by have := of_decide_eq_false e; omega)) w0 w1)⟩
  exact ⟨G, _, Wk.refl, (by show (0 : Int) < _; decide), rest (w % 2) (.inr (by omega)) (by omega) (by omega)⟩
end
section
variable {K : PySem.W.Frag} {vs : List V} {G : Hp} {M : Mem} {R : KR} {Z : KX}
theorem s0i {i : Int} (h0 : 0 ≤ i) (h1 : i ≤ 10) : Sho 0 70 (.int i) := sho_int h0 (Int.lt_of_le_of_lt h1 (by decide))
theorem s0b {b : Bool} : Sho 0 70 (.bool b) := sho_bl.up (by decide) (by decide)
theorem s1t {ds : List PyData} (h : ∀ d, d ∈ ds → Sho 0 70 d) (hl : ds.length ≤ 4) : Sho 1 300 (.tuple ds) := (sho_tup h).up (by decide) (by omega)
theorem s1l {ds : List PyData} (h : ∀ d, d ∈ ds → Sho 0 70 d) (hl : ds.length ≤ 4) : Sho 1 300 (.list ds) := (sho_list h).up (by decide) (by omega)
theorem all2 {P : PyData → Prop} {x y : PyData} (hx : P x) (hy : P y) : ∀ d, d ∈ [x, y] → P d := by
  simp only [List.forall_mem_cons]
  exact ⟨hx, hy, fun _ z => nomatch z⟩
theorem all3 {P : PyData → Prop} {x y w : PyData} (hx : P x) (hy : P y) (hw : P w) : ∀ d, d ∈ [x, y, w] → P d := by
  simp only [List.forall_mem_cons]
  exact ⟨hx, hy, hw, fun _ z => nomatch z⟩
theorem sho_pr {m : Int} {z : Int × Int} (hm : m ≤ 10) (g : GoodP m.toNat z) : Sho 1 300 (prD z) := by
  obtain ⟨g0, g1, g2⟩ := g
  exact s1t (all2 (s0i g0 (by omega)) (s0i (by omega) (by omega))) (Nat.le_of_ble_eq_true rfl)
theorem dpall_rev {us : List V} {ds : List PyData} (h : DpAll K G us ds) : DpAll K G us.reverse ds.reverse := by
  induction us generalizing ds with
  | nil => cases h; exact .nil
  | cons u us ih =>
    cases h with
    | cons a b =>
      rw [List.reverse_cons, List.reverse_cons]
      exact dpall_app (ih b) (.cons a .nil)
theorem cut_ok {us : List V} {ds : List PyData} (lo hi : Option Int) (h : DpAll K G us ds) : ∃ ds', DpAll K G (cutV us lo hi) ds' ∧ (∀ d, d ∈ ds' → d ∈ ds) ∧ (cutV us lo hi).length ≤ us.length := by
  have dr : ∀ (k : Nat) {us : List V} {ds : List PyData}, DpAll K G us ds → DpAll K G (us.drop k) (ds.drop k) := fun k => by
    induction k with
    | zero => intro us ds h; exact h
    | succ k ih =>
      intro us ds h
      cases h with
      | nil => exact .nil
      | cons a b => exact ih b
  have tk : ∀ (k : Nat) {us : List V} {ds : List PyData}, DpAll K G us ds → DpAll K G (us.take k) (ds.take k) := fun k => by
    induction k with
    | zero => intro us ds h; exact .nil
    | succ k ih =>
      intro us ds h
      cases h with
      | nil => exact .nil
      | cons a b => exact .cons a (ih b)
  unfold cutV
  refine ⟨_, tk _ (dr _ h), fun d hd => List.mem_of_mem_drop (List.mem_of_mem_take hd), ?_⟩
  rw [List.length_take, List.length_drop]; omega
theorem cut_len (us : List V) (lo hi : Option Int) : (cutV us lo hi).length ≤ us.length := by
  unfold cutV
  rw [List.length_take, List.length_drop]; omega
theorem pf_law_bent (h : S_law_bent K vs G M R Z) : rd_law_bent K (ends R Z) (sta 8 vs) G M := by
  obtain ⟨_, _, _, rfl, p, t, m, n, c, s, us, ps, rfl, rfl, rfl, hn, h0, hs, m0, m1, hd, hg, hl, q⟩ := sp3_of h
  have hul : us.length = ps.length := by rw [dpall_len hd, List.length_map]
  have hsho : ∀ d, d ∈ ps.map prD → Sho 1 300 d := fun d hd => by
    obtain ⟨z, hz, rfl⟩ := List.mem_map.mp hd
    exact sho_pr m1 (hg z hz)
  have hpl : (ps.map prD).length ≤ 400 := by rw [List.length_map]; exact hl
  have g0 : ∀ c s, (M.set (n + 1) (p, pool c s))[0]? = some (t, .lst us) := fun c s => by rw [List.getElem?_set_ne (by omega)]; exact h0
  have gn : ∀ c s, (M.set (n + 1) (p, pool c s))[n + 1]? = some (p, pool c s) := fun c s => set_n hn
  have keep : ∀ c s, PoolOk s → R (.ref t) G (M.set (n + 1) (p, pool c s)) := fun c s hs => q (.ref t) (some (ps.map prD)) (.list (ps.map prD)) G c s Ex.refl ⟨t, us, rfl, lat_n (g0 c s), hd, by omega⟩ (dat_list (lat_n (g0 c s)) (dats_g hd)) ((sho_list hsho).up (by decide) (by omega)) hs
  have fin : ∀ (p6 : Addr) (vs6 : List V) (ds6 : List PyData) (G6 : Hp) (c6 s6 : Int) (M6 : Mem), Ex G G6 → Fr G6 (M.set (n + 1) (p, pool c6 s6)) p6 → Wk G6 M6 G6 ((p6, .lst vs6) :: M.set (n + 1) (p, pool c6 s6)) → DpAll K G6 vs6 ds6 → (∀ d, d ∈ ds6 → Sho 1 300 d) → vs6.length ≤ 1300 → PoolOk s6 → wkR R (.ref p6) G6 M6 := by
    intro p6 vs6 ds6 G6 c6 s6 M6 ex hf wk hd6 hs6 hl6 hp6
    have hl7 := dpall_len hd6
    obtain ⟨G7, x7, g7, w7, _⟩ := frz (.lst vs6) hf
    exact retW (wk.trans w7) (q (.ref p6) (some ds6) (.list ds6) G7 c6 s6 (ex.trans x7) ⟨p6, vs6, rfl, lat_g (sql_of g7), ex_ds x7 _ hd6, by omega⟩ (dat_list (lat_g (sql_of g7)) (dats_g (ex_ds x7 _ hd6))) ((sho_list hs6).up (by decide) (by omega)) hp6)
  refine ⟨G, M, Wk.refl, p, 20, n + 1, c, s, rfl, rfl, hn, hs, by decide, by decide, fun w c1 s1 w0 w1 hs1 => ?_⟩
  refine ⟨G, _, Wk.refl, ite2' (c := decide (14 < w)) (fun _ => ⟨G, _, Wk.refl, ret0 (keep c1 s1 hs1)⟩) (fun hw14 => ⟨sz0, fun e fe => ?_⟩)⟩
  refine ⟨.list (ps.map prD), .list [], dat_list (lat_cons (lat_n (g0 c1 s1))) (dats_g hd), dat_list lat_0 dats_nil, (shp_prs (n := 0) ps).shaped (by decide), (Shp.list (n := 1) (ds := []) (fun _ z => nomatch z)).shaped (by decide), ?_⟩
  refine ite2' (c := PyData.eqv (.list (ps.map prD)) (.list [])) (fun _ => ⟨G, _, Wk.drop0, ret0 (keep c1 s1 hs1)⟩) (fun hne => ?_)
  have hpos : 0 < ps.length := by
    cases ps with
    | nil => cases hne
    | cons x l => exact Nat.succ_pos _
  refine ⟨G, _, Wk.drop0, us, lst_n (g0 c1 s1), p, (us.length : Int), n + 1, c1, s1, rfl, rfl, gn c1 s1, hs1, by omega, Int.lt_of_le_of_lt (b := 400) (by omega) (by decide), fun j c2 s2 j0 j1 hs2 => ?_⟩
  rw [List.set_set]
  obtain ⟨j, rfl⟩ := Int.eq_ofNat_of_zero_le j0
  obtain ⟨⟨a, b⟩, hp⟩ : ∃ z, ps[j]? = some z := ⟨_, List.getElem?_eq_getElem (by omega)⟩
  obtain ⟨v, hv, hd1⟩ := dpall_get (d := prD (a, b)) hd (by rw [List.getElem?_map, hp]; rfl)
  obtain ⟨T, rfl, hT⟩ := dp_pr_inv hd1
  obtain ⟨ga, gb, gc⟩ := hg (a, b) (List.mem_of_getElem? hp)
  have ga : 0 ≤ a := ga
  have gb : a < b := gb
  have gc : b < (m.toNat : Int) := gc
  have sa : Sho 0 70 (.int a) := s0i ga (by omega)
  have sb : Sho 0 70 (.int b) := s0i (by omega) (by omega)
  have sm : Sho 0 70 (.int m) := s0i (by omega) m1
  refine ⟨G, _, Wk.refl, us, _, lst_n (g0 c2 s2), atI_nat hv, _, hT, ?_⟩
  have L2 : ∀ {G' : Hp}, LstAt K G' (M.set (n + 1) (p, pool c2 s2)) t us := lat_n (g0 c2 s2)
  show rd_law_bent_4 K (ends R Z) [some (.ref p), some (.ref t), some (.int m), some (.int w), some (.int (j : Int)), some (.int a), some (.int b), none] G (M.set (n + 1) (p, pool c2 s2))
  refine ⟨G, _, Wk.refl, ite2' (c := decide (w < 3)) (fun hw3 => ?_) (fun hw3 => ?_)⟩
  · have hw3 := of_decide_eq_true hw3
    obtain ⟨d1, hc1, hm1, hl1⟩ := cut_ok none (some (j : Int)) hd
    obtain ⟨d2, hc2, hm2, hl2⟩ := cut_ok (some (j : Int)) (some ((j : Int) + 2)) hd
    refine ⟨G, _, Wk.refl, us, L2, fun p1 f1 => ⟨sz0, fun e0 fe0 => ⟨sz2, fun T1 fT1 => ⟨sz2, fun T2 fT2 => ⟨sz2, fun e1 fe1 => ⟨us, lat_cons (lat_cons (lat_cons L2)), fun e2 fe2 => ⟨_, lat_0, fun e3 fe3 => ⟨sz3, fun e4 fe4 => ?_⟩⟩⟩⟩⟩⟩⟩⟩
    obtain ⟨G2, hG2⟩ : ∃ G2, G2 = upd (upd G T1 (.tup [.int a, .int b])) T2 (.tup [.int a, .int b]) := ⟨_, rfl⟩
    have x1 : Ex (upd G T1 (.tup [.int a, .int b])) G2 := by rw [hG2]; exact Ex.new fT2
    have x0 : Ex G G2 := (Ex.new fT1).trans x1
    have hT1 : SqT K G2 T1 [.int a, .int b] := ex_t x1 sqt_new
    have hT2 : SqT K G2 T2 [.int a, .int b] := by rw [hG2]; exact sqt_new
    have spr : Sho 1 300 (prD (a, b)) := sho_pr m1 (hg (a, b) (List.mem_of_getElem? hp))
    obtain ⟨Mx, hMx⟩ : ∃ Mx, Mx = (e4, HO.lst [.ref e0, .ref e1, .ref e3]) :: (e3, HO.lst (cutV us (some (j : Int)) (some ((j : Int) + 2))).reverse) :: (e2, HO.lst (cutV us (some (j : Int)) (some ((j : Int) + 2)))) :: (e1, HO.lst [.ref T1, .ref T2]) :: (e0, HO.lst []) :: (p1, HO.lst (cutV us none (some (j : Int)))) :: M.set (n + 1) (p, pool c2 s2) := ⟨_, rfl⟩
    obtain ⟨z, zs, dz, hz, hzm, hdz, hzS, hzl⟩ : ∃ (z : Addr) (zs : List V) (dz : List PyData), atI [V.ref e0, .ref e1, .ref e3] w = some (.ref z) ∧ (z, HO.lst zs) ∈ Mx ∧ DpAll K G2 zs dz ∧ (∀ d, d ∈ dz → Sho 1 300 d) ∧ zs.length ≤ 402 := by
      have hw : w = 0 ∨ w = 1 ∨ w = 2 := by omega
      rw [hMx]
      rcases hw with rfl | rfl | rfl
      · exact ⟨e0, [], [], rfl, by simp, .nil, (fun _ z => nomatch z), by decide⟩
      · exact ⟨e1, [.ref T1, .ref T2], [prD (a, b), prD (a, b)], rfl, by simp, .cons (dp_pr hT1) (.cons (dp_pr hT2) .nil), all2 spr spr, Nat.le_of_ble_eq_true rfl⟩
      · exact ⟨e3, _, _, rfl, by simp, dpall_rev (ex_ds x0 _ hc2), fun d hd => hsho d (hm2 d (List.mem_reverse.mp hd)), by rw [List.length_reverse]; omega⟩
    rw [← hG2, ← hMx]
    have hp1 : (p1, HO.lst (cutV us none (some (j : Int)))) ∈ Mx := by rw [hMx]; simp
    have h4 : (e4, HO.lst [V.ref e0, .ref e1, .ref e3]) ∈ Mx := by rw [hMx]; exact List.mem_cons_self
    refine ⟨_, _, .inl (.inl h4), hz, _, zs, .inl hp1, .inl hzm, sz (by omega), fun p4 f4 => ?_⟩
    have wkx : Wk G2 Mx G2 (M.set (n + 1) (p, pool c2 s2)) := by
      rw [hMx]
      exact Wk.drop0.trans (Wk.drop0.trans (Wk.drop0.trans (Wk.drop0.trans (Wk.drop0.trans Wk.drop0))))
    have L3 : LstAt K G2 Mx t us := by rw [hMx]; exact lat_cons (lat_cons (lat_cons (lat_cons (lat_cons (lat_cons L2)))))
    have sub : ∀ x, x ∈ M.set (n + 1) (p, pool c2 s2) → x ∈ Mx := fun x hx => by rw [hMx]; simp [hx]
    refine ⟨us, lat_cons L3, fun p5 f5 => ?_⟩
    obtain ⟨d3, hc3, hm3, hl3⟩ := cut_ok (some ((j : Int) + 1 + (if decide (V.int w = .int 2) then 1 else 0))) none (ex_ds x0 _ hd)
    refine ⟨_, _, .inl (List.mem_cons_of_mem _ List.mem_cons_self), .inl List.mem_cons_self, sz (by rw [List.length_append]; exact Nat.le_trans (Nat.add_le_add (Nat.add_le_add (cut_len _ _ _) hzl) (cut_len _ _ _)) (by omega)), fun p6 f6 => ?_⟩
    refine fin p6 _ (d1 ++ dz ++ d3) G2 c2 s2 _ x0 ⟨f6.1, fun x hx => f6.2 x (List.mem_cons_of_mem _ (List.mem_cons_of_mem _ (sub x hx)))⟩ ?_ (dpall_app (dpall_app (ex_ds x0 _ hc1) hdz) hc3) (fun d hd => ?_) ?_ hs2
    · refine (Wk.drop1.trans Wk.drop1).trans ?_
      rw [hMx]
      exact Wk.drop1.trans (Wk.drop1.trans (Wk.drop1.trans (Wk.drop1.trans (Wk.drop1.trans Wk.drop1))))
    · rcases List.mem_append.mp hd with hd | hd
      · rcases List.mem_append.mp hd with hd | hd
        · exact hsho d (hm1 d hd)
        · exact hzS d hd
      · exact hsho d (hm3 d hd)
    · rw [List.length_append, List.length_append]; exact Nat.le_trans (Nat.add_le_add (Nat.add_le_add (cut_len _ _ _) hzl) (cut_len _ _ _)) (by omega)
  have hw3 := of_decide_eq_false hw3
  refine ⟨G, _, Wk.refl, ite2' (c := decide (V.int w = .int 14)) (fun _ => ?_) (fun hne14 => ?_)⟩
  · refine ⟨G, _, Wk.refl, .inl ⟨us, L2, fun u fu => ret0 ?_⟩⟩
    have ex := Ex.new (o := .tup us) fu
    exact q (.ref u) none (.tuple (ps.map prD)) _ c2 s2 ex ⟨.tuple, ty_tup sqt_new, rfl⟩ (dat_tup sqt_new (dats_g (ex_ds ex _ hd))) ((sho_tup hsho).up (by decide) (by omega)) hs2
  have hw14' : w ≠ 14 := fun e => of_decide_eq_false hne14 (by rw [e])
  have hw14 := of_decide_eq_false hw14
  refine ⟨G, _, Wk.refl, kset_of (LitOk.use (show LitOk K _ _ _ _ by repeat (first | exact lit_int | exact lit_bl | exact lit_str | exact lit_non | exact lit_neg | exact lit_dict | exact lits_nil | apply lits_cons | apply lit_tup | apply lit_lst | apply lit_add | exact lit_var rfl (.int _) | exact lit_var rfl (by assumption) | exact lit_pow ⟨by decide, by decide, by decide⟩ | exact Nat.le_of_ble_eq_true rfl)) fun v G1 Mx e1 n1 r1 => ?_)⟩
  have r2 := r1.frz n1
  have x2 : Ex G (frzA G1 Mx) := e1.trans (frzA_ex n1)
  cases r2 with
  | @list la xs ds ha hs1 =>
    have hsa : SqL K (frzA G1 Mx) la xs := ha.elim (fun z => nomatch z) fun z => sql_of z
    have hxl := hs1.len
    obtain ⟨k, hk⟩ := Int.eq_ofNat_of_zero_le (show 0 ≤ w - 3 by omega)
    obtain ⟨y, dy, hy, hdy, ry⟩ := hs1.get (i := k) (by rw [hxl]; show k < 11; omega)
    obtain ⟨ey, hey, sey⟩ : ∃ e, dy.toD = some e ∧ Sho 1 300 e := by
      have hm := List.mem_of_getElem? hdy
      clear hdy ry hy hs1 hxl r1
      revert dy
      simp only [List.forall_mem_cons]
      refine ⟨⟨_, rfl, s1t (all2 sb sa) (Nat.le_of_ble_eq_true rfl)⟩, ⟨_, rfl, s1t (all2 sa sa) (Nat.le_of_ble_eq_true rfl)⟩, ⟨_, rfl, s1t (all2 sa sm) (Nat.le_of_ble_eq_true rfl)⟩, ⟨_, rfl, s1t (all2 ⟨by decide +kernel, by decide +kernel, by decide +kernel, by decide +kernel, by decide +kernel⟩ sb) (Nat.le_of_ble_eq_true rfl)⟩, ⟨_, rfl, s1l (all2 sa sb) (Nat.le_of_ble_eq_true rfl)⟩, ⟨_, rfl, s1t (all3 sa sb sb) (Nat.le_of_ble_eq_true rfl)⟩, ⟨_, rfl, s1t (all2 sa s0b) (Nat.le_of_ble_eq_true rfl)⟩, ⟨_, rfl, s1t (all2 s0b sb) (Nat.le_of_ble_eq_true rfl)⟩, ⟨_, rfl, s1t (all2 sa ⟨by decide +kernel, by decide +kernel, by decide +kernel, by decide +kernel, by decide +kernel⟩) (Nat.le_of_ble_eq_true rfl)⟩, ⟨_, rfl, sho_non.up (by decide) (by decide)⟩, ⟨_, rfl, s1t (ds := [.int a]) (by simp only [List.forall_mem_cons]; exact ⟨sa, fun _ z => nomatch z⟩) (Nat.le_of_ble_eq_true rfl)⟩, fun _ z => nomatch z⟩
    have hyd := rp_dp ry hey
    obtain ⟨d1, hc1, hm1, hl1⟩ := cut_ok none (some (j : Int)) (ex_ds x2 _ hd)
    obtain ⟨d3, hc3, hm3, hl3⟩ := cut_ok (some ((j : Int) + 1)) none (ex_ds x2 _ hd)
    refine ⟨frzA G1 Mx, M.set (n + 1) (p, pool c2 s2), frzA_wk Mx G1 _, us, L2, fun p1 f1 => ?_⟩
    refine ⟨xs, y, lst_g hsa, by rw [hk]; exact atI_nat hy, sz1, fun e fe => ⟨_, _, .inl (List.mem_cons_of_mem _ List.mem_cons_self), .inl List.mem_cons_self, sz (by show _ + 1 ≤ _; omega), fun p4 f4 => ⟨us, lat_cons (lat_cons (lat_cons L2)), fun p5 f5 => ⟨_, _, .inl (List.mem_cons_of_mem _ List.mem_cons_self), .inl List.mem_cons_self, sz (by rw [List.length_append]; exact Nat.le_trans (Nat.add_le_add (Nat.add_le_add_right (cut_len us _ _) _) (cut_len us _ _)) (by show us.length + 1 + us.length ≤ _; omega)), fun p6 f6 => ?_⟩⟩⟩⟩
    refine fin p6 _ (d1 ++ [ey] ++ d3) _ c2 s2 _ x2 ⟨f6.1, fun x hx => f6.2 x (by simp [hx])⟩ (Wk.drop1.trans (Wk.drop1.trans (Wk.drop1.trans Wk.drop1))) (dpall_app (dpall_app hc1 (.cons hyd .nil)) hc3) (fun d hd => ?_) ?_ hs2
    · rcases List.mem_append.mp hd with hd | hd
      · rcases List.mem_append.mp hd with hd | hd
        · exact hsho d (hm1 d hd)
        · rw [List.mem_singleton.mp hd]; exact sey
      · exact hsho d (hm3 d hd)
    · rw [List.length_append, List.length_append]; exact Nat.le_trans (Nat.add_le_add (Nat.add_le_add_right (cut_len us _ _) _) (cut_len us _ _)) (by show us.length + 1 + us.length ≤ 1300; omega)
end
section
variable {K : PySem.W.Frag} {vs : List V} {G : Hp} {M : Mem} {R : KR} {Z : KX}
theorem dat_ex {G' : Hp} {v : V} {d : PyData} (ex : Ex G G') (h : DatAt K G M v d) : DatAt K G' M v d := fun H hv => h H (Wk.less ex H hv)
theorem thv_ex {G' : Hp} {v : V} {th : Option (List PyData)} (ex : Ex G G') (h : ThV K G M v th) : ThV K G' M v th := by
  cases th with
  | none =>
    obtain ⟨T, hT, hf⟩ := h
    exact ⟨T, fun H hv => hT H (Wk.less ex H hv), hf⟩
  | some ds =>
    obtain ⟨a, us, rfl, ha, hd, hl⟩ := h
    exact ⟨a, us, rfl, lat_ex ex ha, ex_ds ex _ hd, hl⟩
theorem th_list {v : V} {l : List XD} {ds : List PyData} (h : Rp K G [] v (.list l)) (e : XD.toDs l = some ds) (hl : ds.length ≤ 2000) : ThV K G M v (some ds) := by
  cases h with
  | @list a xs _ ha hs =>
    exact ⟨a, xs, rfl, lat_g (ha.elim (fun z => nomatch z) fun z => sql_of z), rpa_dp hs e, hl⟩
theorem krv {σ : St} {i : Nat} {x : V} {E : KX} (hx : σ[i]? = some (some x)) (h : kRepr K [x] G M R) : kCB (kRepr K) (kCons (kVar i) kNil) σ G M R E := by
  unfold kCB kCons kVar
  simp only [hx]
  exact h
theorem kt_of {t : KE} {σ : St} {R : Bool → Hp → Mem → Prop} {E : KX} (h : t σ G M (asB R) E) : kT t σ G M R E := h
theorem pf_law_right (h : S_law_right K vs G M R Z) : rd_law_right K (ends R Z) (sta 9 vs) G M := by
  obtain ⟨_, _, rfl, p, most, n, c, s, rfl, rfl, hn, hs, m0, m1, q⟩ := sp2_of h
  refine ⟨G, M, Wk.refl, p, most, n, c, s, rfl, rfl, hn, hs, by omega, Int.lt_of_le_of_lt m1 (by decide), fun r c1 s1 r0 r1 hs1 => ?_⟩
  obtain ⟨m, hm⟩ : ∃ m, m = 1 + r := ⟨_, rfl⟩
  show rd_law_right_1 K (ends R Z) [some (.ref p), some (.int most), some (.int (1 + r)), none, none, none, none, none, none] G (M.set n (p, pool c1 s1))
  rw [← hm]
  have m2 : 1 ≤ m ∧ m ≤ 10 := by omega
  refine ⟨G, _, Wk.refl, p, m, n, c1, s1, rfl, rfl, set_n hn, hs1, m2.1, m2.2, fun t us ps G1 c2 s2 x1 d1 g1 l1 hs2 => ?_⟩
  rw [List.set_set]
  refine ⟨p, t, m, n, c2, s2, us, ps, rfl, rfl, rfl, set_n (n := n) hn, rfl, hs2, m2.1, m2.2, d1, g1, l1, fun v th d G2 c3 s3 x2 hth hdat hsho hs3 => ?_⟩
  obtain ⟨M3, hM3⟩ : ∃ M3, M3 = ((t, HO.lst us) :: M.set n (p, pool c2 s2)).set (n + 1) (p, pool c3 s3) := ⟨_, rfl⟩
  rw [← hM3] at hth hdat ⊢
  have hn3 : M3[n + 1]? = some (p, pool c3 s3) := by rw [hM3]; exact set_n (n := n) (set_n hn)
  have x02 : Ex G G2 := x1.trans x2
  have next : rd_law_right_3 K (ends R Z) [some (.ref p), some (.int most), some (.int m), some v, some (.bl (sortsB m th)), none, none, none, none] G2 M3 := by
    refine ⟨G2, _, Wk.refl, kset_of ?_⟩
    refine krv (x := v) (σ := [some (.ref p), some (.int most), some (.int m), some v, some (.bl (sortsB m th)), none, none, none, none]) rfl (repr_sho hdat hsho (by decide) (by decide) ?_)
    refine ⟨G2, _, Wk.refl, ⟨by decide, by decide⟩, fun i σ G' M' => ∃ y6 y7, σ = [some (.ref p), some (.int most), some (.int m), some v, some (.bl (sortsB m th)), some (.str d.shown), y6, y7, none] ∧ Ex G2 G' ∧ M' = M3, ⟨none, none, rfl, Ex.refl, rfl⟩, fun _ _ _ _ _ _ => trivial, ?_, ?_⟩
    · rintro i σ G' M' hi ⟨y6, y7, rfl, ex, rfl⟩
      refine asg_R (v := (i : Int)) (by omega) ?_
      refine ⟨G', _, Wk.refl, m, th, rfl, m2.1, m2.2, thv_ex ex hth, fun G4 ex4 => ?_⟩
      refine ⟨G4, _, Wk.refl, .type PT.bool.name, .type "bool", _, .ty "bool", ty_bl, kit_pt .bool .bool, ?_⟩
      refine ite2' (c := !decide (V.bl (sortsB m th) = .bl (sortsB m th))) (fun e => (neq_self e).elim) (fun _ => ?_)
      refine kt_of (kbin_of (krv (x := v) (i := 3) (σ := [some (.ref p), some (.int most), some (.int m), some v, some (.bl (sortsB m th)), some (.str d.shown), some (.int (i : Int)), some (.bl (sortsB m th)), none]) rfl (repr_sho (dat_ex (ex.trans ex4) hdat) hsho (by decide) (by decide) ?_)))
      refine ite2' (c := !decide (V.str d.shown = .str d.shown)) (fun e => (neq_self e).elim) (fun _ => ?_)
      exact ⟨G4, _, Wk.refl, _, _, rfl, ex.trans ex4, rfl⟩
    · rintro σ G' M' ⟨y6, y7, rfl, ex, rfl⟩
      refine ⟨G', _, Wk.refl, kset_of ?_⟩
      refine lit_pick (K := K) (ds := _) (show LitOk K _ _ _ _ by repeat (first | exact lit_int | exact lit_bl | exact lit_str | exact lit_non | exact lit_neg | exact lit_dict | exact lits_nil | apply lits_cons | apply lit_tup | apply lit_lst | apply lit_add | exact lit_var rfl (.int _) | exact lit_var rfl (by assumption) | exact lit_pow ⟨by decide, by decide, by decide⟩ | exact Nat.le_of_ble_eq_true rfl)) rfl (n := n + 1) hn3 hs3 rfl (Nat.le_of_ble_eq_true rfl) (Nat.le_of_ble_eq_true rfl) fun v d G5 Mx c' s' e1 n1 hd r1 hs' => ?_
      have r2 := r1.frz n1
      have ex5 := e1.trans (frzA_ex n1)
      obtain ⟨th', hth', hsf⟩ : ∃ th', ThV K (frzA G5 Mx) (M'.set (n + 1) (p, pool c' s')) v th' ∧ sortsB m th' = false := by
        clear r1 ex5
        revert d
        simp only [List.forall_mem_cons]
        refine ⟨fun r => ⟨none, ⟨_, rp_ty r _, rfl⟩, rfl⟩, fun r => ⟨none, ⟨_, rp_ty r _, rfl⟩, rfl⟩, fun r => ⟨none, ⟨_, rp_ty r _, rfl⟩, rfl⟩, fun r => ⟨none, ⟨_, rp_ty r _, rfl⟩, rfl⟩, fun r => ⟨none, ⟨_, rp_ty r _, rfl⟩, rfl⟩, fun r => ⟨none, ⟨_, rp_ty r _, rfl⟩, rfl⟩, fun r => ⟨some [.none], th_list r rfl (Nat.le_of_ble_eq_true rfl), rfl⟩, fun r => ⟨some [.list []], th_list r rfl (Nat.le_of_ble_eq_true rfl), rfl⟩, fun r => ⟨some [.tuple []], th_list r rfl (Nat.le_of_ble_eq_true rfl), rfl⟩, fun r => ⟨some [.tuple [.int 0, .int 1, .int 2]], th_list r rfl (Nat.le_of_ble_eq_true rfl), rfl⟩, fun _ z => nomatch z⟩
      refine ⟨frzA G5 Mx, _, frzA_wk Mx G5 _, m, th', rfl, m2.1, m2.2, hth', fun G6 ex6 => ?_⟩
      show wkR R (.bl (decide (sortsB m th' = false))) G6 _
      rw [hsf]
      exact ret0 (q G6 _ (x02.trans (ex.trans (ex5.trans ex6))))
  refine ⟨G2, _, Wk.refl, m, th, rfl, hth, ite2' (c := netB m th) (fun e => ?_) (fun e => ?_)⟩
  · cases th with
    | none => cases e
    | some ds =>
      obtain ⟨b, us', rfl, hb, hd, hl⟩ := hth
      obtain ⟨hds, hg⟩ := net_pairs (n := m) (ds := ds) e
      refine ⟨m, b, us', ds.map prOf, rfl, rfl, m2.1, m2.2, hb, by rw [← hds]; exact hd, hg, ?_⟩
      have e2 : srtB m.toNat (ds.map prOf) = sortsB m (some ds) := by
        unfold sortsB
        rw [e]; rfl
      rw [e2]
      exact next
  · have e2 : sortsB m th = false := by unfold sortsB; rw [e]; rfl
    rw [e2] at next
    exact next
theorem pf_law (h : S_law K vs G M R Z) : rd_law K (ends R Z) (sta 3 vs) G M := by
  obtain ⟨_, rfl, a, ns, rfl, hS, hl, q⟩ := sp1_of h
  have hl2 : (ns.map V.int).length ≤ 63 := by rw [List.length_map]; exact hl
  refine ⟨G, [], Wk.nil', ns.map V.int, lst_g hS, ?_⟩
  obtain ⟨L, hL⟩ : ∃ L, L = min ((ns.map V.int).length : Int) 12 := ⟨_, rfl⟩
  show rd_law_1 K (ends R Z) [some (.ref a), some (.int (min ((ns.map V.int).length : Int) 12)), none] G []
  rw [← hL]
  refine ⟨G, [], Wk.refl, ⟨by omega, by omega⟩, fun i σ G' M' => ∃ y2, σ = [some (.ref a), some (.int L), y2] ∧ Ex G G', ⟨none, rfl, Ex.refl⟩, fun _ _ _ _ _ _ => trivial, ?_, ?_⟩
  · rintro i σ G' M' hi ⟨y2, rfl, ex⟩
    have hi : i < (L + 1).toNat := hi
    refine asg_R (v := (i : Int)) (by omega) ?_
    obtain ⟨w, hw, hw2⟩ : ∃ w : Int, atI [V.int 6, .int 10] (if decide (V.int (i : Int) = .int L) then 1 else 0) = some (.int w) ∧ 1 ≤ w ∧ w ≤ 10 := by
      cases decide (V.int (i : Int) = .int L) with
      | true => exact ⟨10, rfl, by decide, by decide⟩
      | false => exact ⟨6, rfl, by decide, by decide⟩
    refine ⟨G', [], Wk.nil', a, ns, (i : Int), rfl, rfl, ex_l ex hS, by omega, by omega, hl, fun p c s fp hs => ⟨sz2, fun e fe => ?_⟩⟩
    refine ⟨_, _, lst_n (n := 0) rfl, hw, p, w, 1, c, s, rfl, rfl, rfl, hs, hw2.1, hw2.2, fun G2 M2 ex2 => ?_⟩
    exact ⟨G2, M2, Wk.refl, _, rfl, ex.trans ex2⟩
  · rintro σ G' M' ⟨y2, rfl, ex⟩
    exact ⟨G', M', Wk.refl, ret0 (q _ _)⟩
end
def topS (i : Nat) : Stmt := PySem.Challenge.pw_blindtouch_k23_nets_looked_at.main.body.getD i (.Pass ⟨0, 0, 0, 0⟩)
structure Bs (mg : Str → Option Value) : Prop where
  all : mg "all" = none
  bool : mg "bool" = none
  int : mg "int" = none
  isinstance : mg "isinstance" = none
  len : mg "len" = none
  list : mg "list" = none
  max : mg "max" = none
  min : mg "min" = none
  range : mg "range" = none
  repr : mg "repr" = none
  sorted : mg "sorted" = none
  tuple : mg "tuple" = none
structure Cs (K : PySem.W.Frag) (mg : Str → Option Value) : Prop where
  z : True
abbrev s_law_pool : Stmt := topS 12
abbrev N_law_pool : List Str := ["_law_script", "_law_k", "_law_cell", "_law_seed"]
theorem sc_law_pool : FnScope N_law_pool ["_law_script", "_law_k"] (defScope s_law_pool) := ⟨rfl, rfl, rfl, by decide +kernel, rfl, by decide +kernel, by decide +kernel⟩
theorem fo_law_pool {P : Program} {w : World} {K : PySem.W.Frag} {mg : Str → Option Value} {base : Heap} {f : Addr} {fd : FuncData} (B : Bs mg) (C : Cs K mg) (F : Fun K "_law_pool" "_law_pool" s_law_pool f fd)  :
    FnOk P w K mg base (L2.CX P w) 1 f fd ["_law_script", "_law_k"] (lift (S_law_pool K)) := by
  refine fn_ok F sc_law_pool (fun vs G M R Z h => sp_len2 h) (fun cdv A outer s H E hr => ?_)
  have nd : N_law_pool.Nodup := sc_law_pool.nd
  have hu : _ + 64 < cLine := hr.units
  have tk : Takes (cxOf (L2.CX P w) P w K mg base N_law_pool "_law_pool" (defScope s_law_pool) f cdv A outer s H E) (fun c d _ H => E c d H) := takes_of rfl rfl rfl rfl
  have po : PassesOwn (model P w) _ _ _ := passes_of (X := cxOf (L2.CX P w) P w K mg base N_law_pool "_law_pool" (defScope s_law_pool) f cdv A outer s H E) rfl
  exact ⟨rd_law_pool K, jss_cons (js_set (i := 2) (je_callB kc_len B.len (ja_cons (je_var 0) (ja_nil))) nd) (jss_cons (js_if (jt_cmp (kop_lt) (je_var 1) (je_callB kc_len B.len (ja_cons (je_var 0) (ja_nil))) (nomark _)) (jss_cons (js_set (i := 2) (je_ix (je_var 0) (je_var 1)) nd) (jss_nil)) (jss_nil)) (jss_cons (js_set (i := 3) (je_op kop_mod (je_op kop_mul (je_op kop_add (je_op kop_add (je_op kop_mod (je_var 2) (je_int)) (je_op kop_mul (je_int) (je_var 1))) (je_int)) (je_int)) (je_int)) nd) (jss_cons (js_ret (je_lst (ja_cons (je_op kop_mul (je_var 2) (je_callTy kc_int B.int (ja_cons (je_cmp (kop_ge) (je_var 2) (je_op kop_pow (je_int) (je_int)) (nomark _)) (ja_nil)))) (ja_cons (je_var 3) (ja_nil))))) (jss_nil)))), fun vs G M R Z h => pf_law_pool h⟩
theorem df_law_pool {P : Program} {w : World} {K : PySem.W.Frag} {mg : Str → Option Value} {base : Heap} {f : Addr} {fd : FuncData} (B : Bs mg) (C : Cs K mg) (F : Fun K "_law_pool" "_law_pool" s_law_pool f fd) (b : Binds K fd ["_law_script", "_law_k"] []) (gm : mg "_law_pool" = some (.ref f))  :
    Def P w K mg base 1 "_law_pool" ["_law_script", "_law_k"] (S_law_pool K) := ⟨f, fd, fo_law_pool B C F , gm, F.kp, b⟩
abbrev s_law_take : Stmt := topS 13
abbrev N_law_take : List Str := ["_law_pool_here", "_law_many", "_law_digit"]
theorem sc_law_take : FnScope N_law_take ["_law_pool_here", "_law_many"] (defScope s_law_take) := ⟨rfl, rfl, rfl, by decide +kernel, rfl, by decide +kernel, by decide +kernel⟩
theorem fo_law_take {P : Program} {w : World} {K : PySem.W.Frag} {mg : Str → Option Value} {base : Heap} {f : Addr} {fd : FuncData} (B : Bs mg) (C : Cs K mg) (F : Fun K "_law_take" "_law_take" s_law_take f fd)  :
    FnOk P w K mg base (L2.CX P w) 1 f fd ["_law_pool_here", "_law_many"] (lift (S_law_take K)) := by
  refine fn_ok F sc_law_take (fun vs G M R Z h => sp_len2 h) (fun cdv A outer s H E hr => ?_)
  have nd : N_law_take.Nodup := sc_law_take.nd
  have hu : _ + 64 < cLine := hr.units
  have tk : Takes (cxOf (L2.CX P w) P w K mg base N_law_take "_law_take" (defScope s_law_take) f cdv A outer s H E) (fun c d _ H => E c d H) := takes_of rfl rfl rfl rfl
  have po : PassesOwn (model P w) _ _ _ := passes_of (X := cxOf (L2.CX P w) P w K mg base N_law_take "_law_take" (defScope s_law_take) f cdv A outer s H E) rfl
  exact ⟨rd_law_take K, jss_cons (js_if (jt_cmp (kop_gt) (je_ix (je_var 0) (je_int)) (je_int) (nomark _)) (jss_cons (js_set (i := 2) (je_op kop_mod (je_ix (je_var 0) (je_int)) (je_var 1)) nd) (jss_cons (js_asg (je_op kop_fdiv (je_ix (je_var 0) (je_int)) (je_var 1)) (jg_ix (je_var 0) (je_int))) (jss_cons (js_ret (je_var 2)) (jss_nil)))) (jss_nil)) (jss_cons (js_asg (je_op kop_mod (je_op kop_add (je_op kop_mul (je_ix (je_var 0) (je_int)) (je_int)) (je_int)) (je_int)) (jg_ix (je_var 0) (je_int))) (jss_cons (js_ret (je_op kop_mod (je_op kop_fdiv (je_op kop_mod (je_op kop_mul (je_ix (je_var 0) (je_int)) (je_ix (je_var 0) (je_int))) (je_int)) (je_int)) (je_var 1))) (jss_nil))), fun vs G M R Z h => pf_law_take h⟩
theorem df_law_take {P : Program} {w : World} {K : PySem.W.Frag} {mg : Str → Option Value} {base : Heap} {f : Addr} {fd : FuncData} (B : Bs mg) (C : Cs K mg) (F : Fun K "_law_take" "_law_take" s_law_take f fd) (b : Binds K fd ["_law_pool_here", "_law_many"] []) (gm : mg "_law_take" = some (.ref f))  :
    Def P w K mg base 1 "_law_take" ["_law_pool_here", "_law_many"] (S_law_take K) := ⟨f, fd, fo_law_take B C F , gm, F.kp, b⟩
abbrev s_joining : Stmt := topS 5
abbrev N_joining : List Str := ["first", "width", "step", "found", "place"]
theorem sc_joining : FnScope N_joining ["first", "width", "step"] (defScope s_joining) := ⟨rfl, rfl, rfl, by decide +kernel, rfl, by decide +kernel, by decide +kernel⟩
theorem fo_joining {P : Program} {w : World} {K : PySem.W.Frag} {mg : Str → Option Value} {base : Heap} {f : Addr} {fd : FuncData} {d : Nat} (B : Bs mg) (C : Cs K mg) (F : Fun K "joining" "joining" s_joining f fd) (D_rec : Def P w K mg base (0 + d) "joining" ["first", "width", "step"] (S_joining d K))  :
    FnOk P w K mg base (L2.CX P w) (0 + d + 1) f fd ["first", "width", "step"] (lift (S_joining (d + 1) K)) := by
  refine fn_ok F sc_joining (fun vs G M R Z h => sp_len3 h) (fun cdv A outer s H E hr => ?_)
  have nd : N_joining.Nodup := sc_joining.nd
  have hu : _ + 64 < cLine := hr.units
  have tk : Takes (cxOf (L2.CX P w) P w K mg base N_joining "joining" (defScope s_joining) f cdv A outer s H E) (fun c d _ H => E c d H) := takes_of rfl rfl rfl rfl
  have po : PassesOwn (model P w) _ _ _ := passes_of (X := cxOf (L2.CX P w) P w K mg base N_joining "joining" (defScope s_joining) f cdv A outer s H E) rfl
  exact ⟨rd_joining K (S_joining d K), jss_cons (js_if (jt_cmp (kop_eq hu) (je_op kop_mul (je_int) (je_var 2)) (je_var 1) (nomark _)) (jss_cons (js_ret (je_lst (ja_cons (je_tup (ja_cons (je_var 0) (ja_cons (je_op kop_add (je_var 0) (je_var 2)) (ja_nil)))) (ja_nil)))) (jss_nil)) (jss_nil)) (jss_cons (js_set (i := 3) (je_op kop_add (je_callD D_rec hr tk (ja_cons (je_var 0) (ja_cons (je_var 1) (ja_cons (je_op kop_mul (je_int) (je_var 2)) (ja_nil)))) (hl := by omega)) (je_callD D_rec hr tk (ja_cons (je_op kop_add (je_var 0) (je_var 2)) (ja_cons (je_var 1) (ja_cons (je_op kop_mul (je_int) (je_var 2)) (ja_nil)))) (hl := by omega))) nd) (jss_cons (js_ret (je_op kop_add (je_var 3) (je_comp (own := [("place", 4)]) rfl nd (ji_range3 B.range (ja_cons (je_op kop_add (je_var 0) (je_var 2)) (ja_cons (je_op kop_sub (je_op kop_add (je_var 0) (je_var 1)) (je_var 2)) (ja_cons (je_op kop_mul (je_int) (je_var 2)) (ja_nil))))) (blkOk_by (own := [("place", 4)]) (N := N_joining) (sc := defScope s_joining) (by decide +kernel)) (fun _ _ _ _ _ => by exact jg_name (i := 4) nd) (fun _ _ _ _ _ => by exact jts_nil) (fun _ _ _ _ _ => by exact je_tup (ja_cons (je_var 4) (ja_cons (je_op kop_add (je_var 4) (je_var 2)) (ja_nil))))))) (jss_nil))), fun vs G M R Z h => pf_joining h⟩
theorem df_joining {P : Program} {w : World} {K : PySem.W.Frag} {mg : Str → Option Value} {base : Heap} {f : Addr} {fd : FuncData} (B : Bs mg) (C : Cs K mg) (F : Fun K "joining" "joining" s_joining f fd) (b : Binds K fd ["first", "width", "step"] []) (gm : mg "joining" = some (.ref f))  :
    ∀ d : Nat, Def P w K mg base (0 + d) "joining" ["first", "width", "step"] (S_joining d K)
  | 0 => ⟨f, fd, fn_false z_joining, gm, F.kp, b⟩
  | d + 1 => ⟨f, fd, fo_joining B C F (df_joining B C F b gm  d) , gm, F.kp, b⟩
abbrev s_sorting : Stmt := topS 6
abbrev N_sorting : List Str := ["first", "width", "half"]
theorem sc_sorting : FnScope N_sorting ["first", "width"] (defScope s_sorting) := ⟨rfl, rfl, rfl, by decide +kernel, rfl, by decide +kernel, by decide +kernel⟩
theorem fo_sorting {P : Program} {w : World} {K : PySem.W.Frag} {mg : Str → Option Value} {base : Heap} {f : Addr} {fd : FuncData} {d : Nat} (B : Bs mg) (C : Cs K mg) (F : Fun K "sorting" "sorting" s_sorting f fd) (D_rec : Def P w K mg base (6 + d) "sorting" ["first", "width"] (S_sorting d K)) (D_joining : Def P w K mg base 6 "joining" ["first", "width", "step"] (S_joining 6 K)) :
    FnOk P w K mg base (L2.CX P w) (6 + d + 1) f fd ["first", "width"] (lift (S_sorting (d + 1) K)) := by
  refine fn_ok F sc_sorting (fun vs G M R Z h => sp_len2 h) (fun cdv A outer s H E hr => ?_)
  have nd : N_sorting.Nodup := sc_sorting.nd
  have hu : _ + 64 < cLine := hr.units
  have tk : Takes (cxOf (L2.CX P w) P w K mg base N_sorting "sorting" (defScope s_sorting) f cdv A outer s H E) (fun c d _ H => E c d H) := takes_of rfl rfl rfl rfl
  have po : PassesOwn (model P w) _ _ _ := passes_of (X := cxOf (L2.CX P w) P w K mg base N_sorting "sorting" (defScope s_sorting) f cdv A outer s H E) rfl
  exact ⟨rd_sorting K (S_sorting d K), jss_cons (js_if (jt_cmp (kop_eq hu) (je_var 1) (je_int) (nomark _)) (jss_cons (js_ret (je_lst (ja_nil))) (jss_nil)) (jss_nil)) (jss_cons (js_set (i := 2) (je_op kop_fdiv (je_var 1) (je_int)) nd) (jss_cons (js_ret (je_op kop_add (je_op kop_add (je_callD D_rec hr tk (ja_cons (je_var 0) (ja_cons (je_var 2) (ja_nil))) (hl := by omega)) (je_callD D_rec hr tk (ja_cons (je_op kop_add (je_var 0) (je_var 2)) (ja_cons (je_var 2) (ja_nil))) (hl := by omega))) (je_callD D_joining hr tk (ja_cons (je_var 0) (ja_cons (je_var 1) (ja_cons (je_int) (ja_nil)))) (hl := by omega)))) (jss_nil))), fun vs G M R Z h => pf_sorting h⟩
theorem df_sorting {P : Program} {w : World} {K : PySem.W.Frag} {mg : Str → Option Value} {base : Heap} {f : Addr} {fd : FuncData} (B : Bs mg) (C : Cs K mg) (F : Fun K "sorting" "sorting" s_sorting f fd) (b : Binds K fd ["first", "width"] []) (gm : mg "sorting" = some (.ref f)) (D_joining : Def P w K mg base 6 "joining" ["first", "width", "step"] (S_joining 6 K)) :
    ∀ d : Nat, Def P w K mg base (6 + d) "sorting" ["first", "width"] (S_sorting d K)
  | 0 => ⟨f, fd, fn_false z_sorting, gm, F.kp, b⟩
  | d + 1 => ⟨f, fd, fo_sorting B C F (df_sorting B C F b gm D_joining d) D_joining, gm, F.kp, b⟩
abbrev s_net_of : Stmt := topS 7
abbrev N_net_of : List Str := ["size", "width", "pair"]
theorem sc_net_of : FnScope N_net_of ["size"] (defScope s_net_of) := ⟨rfl, rfl, rfl, by decide +kernel, rfl, by decide +kernel, by decide +kernel⟩
theorem fo_net_of {P : Program} {w : World} {K : PySem.W.Frag} {mg : Str → Option Value} {base : Heap} {f : Addr} {fd : FuncData} (B : Bs mg) (C : Cs K mg) (F : Fun K "net_of" "net_of" s_net_of f fd) (D_sorting : Def P w K mg base 13 "sorting" ["first", "width"] (S_sorting 7 K)) :
    FnOk P w K mg base (L2.CX P w) 14 f fd ["size"] (lift (S_net_of K)) := by
  refine fn_ok F sc_net_of (fun vs G M R Z h => sp_len1 h) (fun cdv A outer s H E hr => ?_)
  have nd : N_net_of.Nodup := sc_net_of.nd
  have hu : _ + 64 < cLine := hr.units
  have tk : Takes (cxOf (L2.CX P w) P w K mg base N_net_of "net_of" (defScope s_net_of) f cdv A outer s H E) (fun c d _ H => E c d H) := takes_of rfl rfl rfl rfl
  have po : PassesOwn (model P w) _ _ _ := passes_of (X := cxOf (L2.CX P w) P w K mg base N_net_of "net_of" (defScope s_net_of) f cdv A outer s H E) rfl
  exact ⟨rd_net_of K, jss_cons (js_set (i := 1) (je_int) nd) (jss_cons (js_while po (jt_cmp (kop_lt) (je_var 1) (je_var 0) (nomark _)) (jss_cons (js_set (i := 1) (je_op kop_mul (je_int) (je_var 1)) nd) (jss_nil))) (jss_cons (js_ret (je_comp (own := [("pair", 2)]) rfl nd (ji_list (je_callD D_sorting hr tk (ja_cons (je_int) (ja_cons (je_var 1) (ja_nil))))) (blkOk_by (own := [("pair", 2)]) (N := N_net_of) (sc := defScope s_net_of) (by decide +kernel)) (fun _ _ _ _ _ => by exact jg_name (i := 2) nd) (fun _ _ _ _ _ => by exact jts_one (jt_cmp (kop_lt) (je_ix (je_var 2) (je_int)) (je_var 0) (nomark _))) (fun _ _ _ _ _ => by exact je_var 2))) (jss_nil))), fun vs G M R Z h => pf_net_of h⟩
theorem df_net_of {P : Program} {w : World} {K : PySem.W.Frag} {mg : Str → Option Value} {base : Heap} {f : Addr} {fd : FuncData} (B : Bs mg) (C : Cs K mg) (F : Fun K "net_of" "net_of" s_net_of f fd) (b : Binds K fd ["size"] []) (gm : mg "net_of" = some (.ref f)) (D_sorting : Def P w K mg base 13 "sorting" ["first", "width"] (S_sorting 7 K)) :
    Def P w K mg base 14 "net_of" ["size"] (S_net_of K) := ⟨f, fd, fo_net_of B C F D_sorting, gm, F.kp, b⟩
abbrev s_law_drawn : Stmt := topS 15
abbrev N_law_drawn : List Str := ["_law_pool_here", "_law_size", "_law_way", "_law_net", "_law_k", "_law_b"]
theorem sc_law_drawn : FnScope N_law_drawn ["_law_pool_here", "_law_size"] (defScope s_law_drawn) := ⟨rfl, rfl, rfl, by decide +kernel, rfl, by decide +kernel, by decide +kernel⟩
theorem fo_law_drawn {P : Program} {w : World} {K : PySem.W.Frag} {mg : Str → Option Value} {base : Heap} {f : Addr} {fd : FuncData} (B : Bs mg) (C : Cs K mg) (F : Fun K "_law_drawn" "_law_drawn" s_law_drawn f fd) (D_law_take : Def P w K mg base 1 "_law_take" ["_law_pool_here", "_law_many"] (S_law_take K)) (D_net_of : Def P w K mg base 14 "net_of" ["size"] (S_net_of K)) :
    FnOk P w K mg base (L2.CX P w) 15 f fd ["_law_pool_here", "_law_size"] (lift (S_law_drawn K)) := by
  refine fn_ok F sc_law_drawn (fun vs G M R Z h => sp_len2 h) (fun cdv A outer s H E hr => ?_)
  have nd : N_law_drawn.Nodup := sc_law_drawn.nd
  have hu : _ + 64 < cLine := hr.units
  have tk : Takes (cxOf (L2.CX P w) P w K mg base N_law_drawn "_law_drawn" (defScope s_law_drawn) f cdv A outer s H E) (fun c d _ H => E c d H) := takes_of rfl rfl rfl rfl
  have po : PassesOwn (model P w) _ _ _ := passes_of (X := cxOf (L2.CX P w) P w K mg base N_law_drawn "_law_drawn" (defScope s_law_drawn) f cdv A outer s H E) rfl
  exact ⟨rd_law_drawn K, jss_cons (js_set (i := 2) (je_callD D_law_take hr tk (ja_cons (je_var 0) (ja_cons (je_int) (ja_nil)))) nd) (jss_cons (js_if (jt_cmp (kop_gt) (je_var 1) (je_int) (nomark _)) (jss_cons (js_set (i := 2) (je_op kop_mod (je_var 2) (je_int)) nd) (jss_nil)) (jss_nil)) (jss_cons (js_if ((jw_or (jt_cmp (kop_eq hu) (je_var 2) (je_int) (nomark _)) (jw_or1 (jt_cmp (kop_eq hu) (je_var 1) (je_int) (nomark _)))).jt) (jss_cons (js_ret (je_callTy kc_list B.list (ja_cons (je_callD D_net_of hr tk (ja_cons (je_var 1) (ja_nil))) (ja_nil)))) (jss_nil)) (jss_nil)) (jss_cons (js_if (jt_cmp (kop_eq hu) (je_var 2) (je_int) (nomark _)) (jss_cons (js_set (i := 3) (je_lst (ja_nil)) nd) (jss_cons (js_for po rfl (ji_range1 B.range (ja_cons (je_callD D_law_take hr tk (ja_cons (je_var 0) (ja_cons (je_int) (ja_nil)))) (ja_nil))) (jg_name (i := 4) nd) (jss_cons (js_set (i := 5) (je_op kop_add (je_int) (je_callD D_law_take hr tk (ja_cons (je_var 0) (ja_cons (je_op kop_sub (je_var 1) (je_int)) (ja_nil))))) nd) (jss_cons (js_expr (je_bm PySem.F.plainAttrs_list PySem.F.slot_list_append PySem.F.type_list_append km_append (je_var 3) (ja_cons (je_tup (ja_cons (je_callD D_law_take hr tk (ja_cons (je_var 0) (ja_cons (je_var 5) (ja_nil)))) (ja_cons (je_var 5) (ja_nil)))) (ja_nil)))) (jss_nil)))) (jss_cons (js_ret (je_var 3)) (jss_nil)))) (jss_nil)) (jss_cons (js_if (jt_cmp (kop_eq hu) (je_var 2) (je_int) (nomark _)) (jss_cons (js_ret (je_op kop_mul (je_callD D_net_of hr tk (ja_cons (je_var 1) (ja_nil))) (je_ix (je_lst (ja_cons (je_int) (ja_cons (je_op kop_fdiv (je_int) (je_callB kc_max2 B.max (ja_cons (je_int) (ja_cons (je_callB kc_len B.len (ja_cons (je_callD D_net_of hr tk (ja_cons (je_var 1) (ja_nil))) (ja_nil))) (ja_nil))))) (ja_nil)))) (je_callTy kc_int B.int (ja_cons (je_cmp (kop_lt) (je_var 1) (je_int) (nomark _)) (ja_nil)))))) (jss_nil)) (jss_nil)) (jss_cons (js_ret (je_op kop_mul (je_comp (own := [("_law_k", 4)]) rfl nd (ji_range1 B.range (ja_cons (je_op kop_sub (je_var 1) (je_int)) (ja_nil))) (blkOk_by (own := [("_law_k", 4)]) (N := N_law_drawn) (sc := defScope s_law_drawn) (by decide +kernel)) (fun _ _ _ _ _ => by exact jg_name (i := 4) nd) (fun _ _ _ _ _ => by exact jts_nil) (fun _ _ _ _ _ => by exact je_tup (ja_cons (je_var 4) (ja_cons (je_op kop_add (je_var 4) (je_int)) (ja_nil))))) (je_callD D_law_take hr tk (ja_cons (je_var 0) (ja_cons (je_op kop_add (je_callB kc_min2 B.min (ja_cons (je_var 1) (ja_cons (je_int) (ja_nil)))) (je_int)) (ja_nil)))))) (jss_nil)))))), fun vs G M R Z h => pf_law_drawn h⟩
theorem df_law_drawn {P : Program} {w : World} {K : PySem.W.Frag} {mg : Str → Option Value} {base : Heap} {f : Addr} {fd : FuncData} (B : Bs mg) (C : Cs K mg) (F : Fun K "_law_drawn" "_law_drawn" s_law_drawn f fd) (b : Binds K fd ["_law_pool_here", "_law_size"] []) (gm : mg "_law_drawn" = some (.ref f)) (D_law_take : Def P w K mg base 1 "_law_take" ["_law_pool_here", "_law_many"] (S_law_take K)) (D_net_of : Def P w K mg base 14 "net_of" ["size"] (S_net_of K)) :
    Def P w K mg base 15 "_law_drawn" ["_law_pool_here", "_law_size"] (S_law_drawn K) := ⟨f, fd, fo_law_drawn B C F D_law_take D_net_of, gm, F.kp, b⟩
abbrev s_law_bent : Stmt := topS 16
abbrev N_law_bent : List Str := ["_law_pool_here", "_law_net", "_law_size", "_law_way", "_law_at", "_law_a", "_law_b", "_law_some"]
theorem sc_law_bent : FnScope N_law_bent ["_law_pool_here", "_law_net", "_law_size"] (defScope s_law_bent) := ⟨rfl, rfl, rfl, by decide +kernel, rfl, by decide +kernel, by decide +kernel⟩
theorem fo_law_bent {P : Program} {w : World} {K : PySem.W.Frag} {mg : Str → Option Value} {base : Heap} {f : Addr} {fd : FuncData} (B : Bs mg) (C : Cs K mg) (F : Fun K "_law_bent" "_law_bent" s_law_bent f fd) (D_law_take : Def P w K mg base 1 "_law_take" ["_law_pool_here", "_law_many"] (S_law_take K)) :
    FnOk P w K mg base (L2.CX P w) 2 f fd ["_law_pool_here", "_law_net", "_law_size"] (lift (S_law_bent K)) := by
  refine fn_ok F sc_law_bent (fun vs G M R Z h => sp_len3 h) (fun cdv A outer s H E hr => ?_)
  have nd : N_law_bent.Nodup := sc_law_bent.nd
  have hu : _ + 64 < cLine := hr.units
  have tk : Takes (cxOf (L2.CX P w) P w K mg base N_law_bent "_law_bent" (defScope s_law_bent) f cdv A outer s H E) (fun c d _ H => E c d H) := takes_of rfl rfl rfl rfl
  have po : PassesOwn (model P w) _ _ _ := passes_of (X := cxOf (L2.CX P w) P w K mg base N_law_bent "_law_bent" (defScope s_law_bent) f cdv A outer s H E) rfl
  exact ⟨rd_law_bent K, jss_cons (js_set (i := 3) (je_callD D_law_take hr tk (ja_cons (je_var 0) (ja_cons (je_int) (ja_nil)))) nd) (jss_cons (js_if ((jw_or (jt_cmp (kop_gt) (je_var 3) (je_int) (nomark _)) (jw_or1 (jt_cmp (kop_eq hu) (je_var 1) (je_lst (ja_nil)) (nomark _)))).jt) (jss_cons (js_ret (je_var 1)) (jss_nil)) (jss_nil)) (jss_cons (js_set (i := 4) (je_callD D_law_take hr tk (ja_cons (je_var 0) (ja_cons (je_callB kc_len B.len (ja_cons (je_var 1) (ja_nil))) (ja_nil)))) nd) (jss_cons (js_asg (je_ix (je_var 1) (je_var 4)) (jg_tup rfl (jgs_cons (jg_name (i := 5) nd) (jgs_cons (jg_name (i := 6) nd) (jgs_nil))))) (jss_cons (js_if (jt_cmp (kop_lt) (je_var 3) (je_int) (nomark _)) (jss_cons (js_ret (je_op kop_add (je_op kop_add (je_slice (je_var 1) (jo_none) (jo_some (je_var 4))) (je_ix (je_lst (ja_cons (je_lst (ja_nil)) (ja_cons (je_lst (ja_cons (je_tup (ja_cons (je_var 5) (ja_cons (je_var 6) (ja_nil)))) (ja_cons (je_tup (ja_cons (je_var 5) (ja_cons (je_var 6) (ja_nil)))) (ja_nil)))) (ja_cons (je_revl (je_slice (je_var 1) (jo_some (je_var 4)) (jo_some (je_op kop_add (je_var 4) (je_int))))) (ja_nil))))) (je_var 3))) (je_slice (je_var 1) (jo_some (je_op kop_add (je_op kop_add (je_var 4) (je_int)) (je_callTy kc_int B.int (ja_cons (je_cmp (kop_eq hu) (je_var 3) (je_int) (nomark _)) (ja_nil))))) (jo_none)))) (jss_nil)) (jss_nil)) (jss_cons (js_if (jt_cmp (kop_eq hu) (je_var 3) (je_int) (nomark _)) (jss_cons (js_ret (je_callTy kc_tuple B.tuple (ja_cons (je_var 1) (ja_nil)))) (jss_nil)) (jss_nil)) (jss_cons (js_set (i := 7) (je_lst (ja_cons (je_tup (ja_cons (je_var 6) (ja_cons (je_var 5) (ja_nil)))) (ja_cons (je_tup (ja_cons (je_var 5) (ja_cons (je_var 5) (ja_nil)))) (ja_cons (je_tup (ja_cons (je_var 5) (ja_cons (je_var 2) (ja_nil)))) (ja_cons (je_tup (ja_cons (je_neg (je_int)) (ja_cons (je_var 6) (ja_nil)))) (ja_cons (je_lst (ja_cons (je_var 5) (ja_cons (je_var 6) (ja_nil)))) (ja_cons (je_tup (ja_cons (je_var 5) (ja_cons (je_var 6) (ja_cons (je_var 6) (ja_nil))))) (ja_cons (je_tup (ja_cons (je_var 5) (ja_cons (je_bl) (ja_nil)))) (ja_cons (je_tup (ja_cons (je_bl) (ja_cons (je_var 6) (ja_nil)))) (ja_cons (je_tup (ja_cons (je_var 5) (ja_cons (je_str) (ja_nil)))) (ja_cons (je_non) (ja_cons (je_tup (ja_cons (je_var 5) (ja_nil))) (ja_nil))))))))))))) nd) (jss_cons (js_ret (je_op kop_add (je_op kop_add (je_slice (je_var 1) (jo_none) (jo_some (je_var 4))) (je_lst (ja_cons (je_ix (je_var 7) (je_op kop_sub (je_var 3) (je_int))) (ja_nil)))) (je_slice (je_var 1) (jo_some (je_op kop_add (je_var 4) (je_int))) (jo_none)))) (jss_nil)))))))), fun vs G M R Z h => pf_law_bent h⟩
theorem df_law_bent {P : Program} {w : World} {K : PySem.W.Frag} {mg : Str → Option Value} {base : Heap} {f : Addr} {fd : FuncData} (B : Bs mg) (C : Cs K mg) (F : Fun K "_law_bent" "_law_bent" s_law_bent f fd) (b : Binds K fd ["_law_pool_here", "_law_net", "_law_size"] []) (gm : mg "_law_bent" = some (.ref f)) (D_law_take : Def P w K mg base 1 "_law_take" ["_law_pool_here", "_law_many"] (S_law_take K)) :
    Def P w K mg base 2 "_law_bent" ["_law_pool_here", "_law_net", "_law_size"] (S_law_bent K) := ⟨f, fd, fo_law_bent B C F D_law_take, gm, F.kp, b⟩
abbrev s_law_whole : Stmt := topS 14
abbrev N_law_whole : List Str := ["_law_thing"]
theorem sc_law_whole : FnScope N_law_whole ["_law_thing"] (defScope s_law_whole) := ⟨rfl, rfl, rfl, by decide +kernel, rfl, by decide +kernel, by decide +kernel⟩
theorem fo_law_whole {P : Program} {w : World} {K : PySem.W.Frag} {mg : Str → Option Value} {base : Heap} {f : Addr} {fd : FuncData} (B : Bs mg) (C : Cs K mg) (F : Fun K "_law_whole" "_law_whole" s_law_whole f fd)  :
    FnOk P w K mg base (L2.CX P w) 1 f fd ["_law_thing"] (lift (S_law_whole K)) := by
  refine fn_ok F sc_law_whole (fun vs G M R Z h => sp_len1 h) (fun cdv A outer s H E hr => ?_)
  have nd : N_law_whole.Nodup := sc_law_whole.nd
  have hu : _ + 64 < cLine := hr.units
  have tk : Takes (cxOf (L2.CX P w) P w K mg base N_law_whole "_law_whole" (defScope s_law_whole) f cdv A outer s H E) (fun c d _ H => E c d H) := takes_of rfl rfl rfl rfl
  have po : PassesOwn (model P w) _ _ _ := passes_of (X := cxOf (L2.CX P w) P w K mg base N_law_whole "_law_whole" (defScope s_law_whole) f cdv A outer s H E) rfl
  exact ⟨rd_law_whole K, jss_cons (js_ret (je_and (je_callB kc_isi B.isinstance (ja_cons (je_var 0) (ja_cons (je_ty B.int) (ja_nil)))) (je_one (je_not (je_callB kc_isi B.isinstance (ja_cons (je_var 0) (ja_cons (je_ty B.bool) (ja_nil)))))))) (jss_nil), fun vs G M R Z h => pf_law_whole h⟩
theorem df_law_whole {P : Program} {w : World} {K : PySem.W.Frag} {mg : Str → Option Value} {base : Heap} {f : Addr} {fd : FuncData} (B : Bs mg) (C : Cs K mg) (F : Fun K "_law_whole" "_law_whole" s_law_whole f fd) (b : Binds K fd ["_law_thing"] []) (gm : mg "_law_whole" = some (.ref f))  :
    Def P w K mg base 1 "_law_whole" ["_law_thing"] (S_law_whole K) := ⟨f, fd, fo_law_whole B C F , gm, F.kp, b⟩
abbrev s_law_is_net : Stmt := topS 17
abbrev N_law_is_net : List Str := ["_law_size", "_law_thing", "_law_pair"]
theorem sc_law_is_net : FnScope N_law_is_net ["_law_size", "_law_thing"] (defScope s_law_is_net) := ⟨rfl, rfl, rfl, by decide +kernel, rfl, by decide +kernel, by decide +kernel⟩
theorem fo_law_is_net {P : Program} {w : World} {K : PySem.W.Frag} {mg : Str → Option Value} {base : Heap} {f : Addr} {fd : FuncData} (B : Bs mg) (C : Cs K mg) (F : Fun K "_law_is_net" "_law_is_net" s_law_is_net f fd) (D_law_whole : Def P w K mg base 1 "_law_whole" ["_law_thing"] (S_law_whole K)) :
    FnOk P w K mg base (L2.CX P w) 2 f fd ["_law_size", "_law_thing"] (lift (S_law_is_net K)) := by
  refine fn_ok F sc_law_is_net (fun vs G M R Z h => sp_len2 h) (fun cdv A outer s H E hr => ?_)
  have nd : N_law_is_net.Nodup := sc_law_is_net.nd
  have hu : _ + 64 < cLine := hr.units
  have tk : Takes (cxOf (L2.CX P w) P w K mg base N_law_is_net "_law_is_net" (defScope s_law_is_net) f cdv A outer s H E) (fun c d _ H => E c d H) := takes_of rfl rfl rfl rfl
  have po : PassesOwn (model P w) _ _ _ := passes_of (X := cxOf (L2.CX P w) P w K mg base N_law_is_net "_law_is_net" (defScope s_law_is_net) f cdv A outer s H E) rfl
  exact ⟨rd_law_is_net K, jss_cons (js_if (jt_not (jt_val (je_callB kc_isi B.isinstance (ja_cons (je_var 1) (ja_cons (je_ty B.list) (ja_nil)))))) (jss_cons (js_ret (je_bl)) (jss_nil)) (jss_nil)) (jss_cons (js_for po rfl (ji_list (je_var 1)) (jg_name (i := 2) nd) (jss_cons (js_if ((jw_or (jt_not (jt_val (je_callB kc_isi B.isinstance (ja_cons (je_var 2) (ja_cons (je_ty B.tuple) (ja_nil)))))) (jw_or (jt_cmp (kop_ne hu) (je_callB kc_len B.len (ja_cons (je_var 2) (ja_nil))) (je_int) (nomark _)) (jw_or (jt_not (jt_val (je_callD D_law_whole hr tk (ja_cons (je_ix (je_var 2) (je_int)) (ja_nil))))) (jw_or1 (jt_not (jt_val (je_callD D_law_whole hr tk (ja_cons (je_ix (je_var 2) (je_int)) (ja_nil))))))))).jt) (jss_cons (js_ret (je_bl)) (jss_nil)) (jss_nil)) (jss_cons (js_if ((jw_or (jt_cmp (kop_lt) (je_ix (je_var 2) (je_int)) (je_int) (nomark _)) (jw_or (jt_cmp (kop_ge) (je_ix (je_var 2) (je_int)) (je_ix (je_var 2) (je_int)) (nomark _)) (jw_or1 (jt_cmp (kop_ge) (je_ix (je_var 2) (je_int)) (je_var 0) (nomark _))))).jt) (jss_cons (js_ret (je_bl)) (jss_nil)) (jss_nil)) (jss_nil)))) (jss_cons (js_ret (je_bl)) (jss_nil))), fun vs G M R Z h => pf_law_is_net h⟩
theorem df_law_is_net {P : Program} {w : World} {K : PySem.W.Frag} {mg : Str → Option Value} {base : Heap} {f : Addr} {fd : FuncData} (B : Bs mg) (C : Cs K mg) (F : Fun K "_law_is_net" "_law_is_net" s_law_is_net f fd) (b : Binds K fd ["_law_size", "_law_thing"] []) (gm : mg "_law_is_net" = some (.ref f)) (D_law_whole : Def P w K mg base 1 "_law_whole" ["_law_thing"] (S_law_whole K)) :
    Def P w K mg base 2 "_law_is_net" ["_law_size", "_law_thing"] (S_law_is_net K) := ⟨f, fd, fo_law_is_net B C F D_law_whole, gm, F.kp, b⟩
abbrev s_law_sorts : Stmt := topS 18
abbrev N_law_sorts : List Str := ["_law_size", "_law_net", "_law_number", "_law_row", "_law_a", "_law_b", "_law_k"]
theorem sc_law_sorts : FnScope N_law_sorts ["_law_size", "_law_net"] (defScope s_law_sorts) := ⟨rfl, rfl, rfl, by decide +kernel, rfl, by decide +kernel, by decide +kernel⟩
theorem fo_law_sorts {P : Program} {w : World} {K : PySem.W.Frag} {mg : Str → Option Value} {base : Heap} {f : Addr} {fd : FuncData} (B : Bs mg) (C : Cs K mg) (F : Fun K "_law_sorts" "_law_sorts" s_law_sorts f fd)  :
    FnOk P w K mg base (L2.CX P w) 1 f fd ["_law_size", "_law_net"] (lift (S_law_sorts K)) := by
  refine fn_ok F sc_law_sorts (fun vs G M R Z h => sp_len2 h) (fun cdv A outer s H E hr => ?_)
  have nd : N_law_sorts.Nodup := sc_law_sorts.nd
  have hu : _ + 64 < cLine := hr.units
  have tk : Takes (cxOf (L2.CX P w) P w K mg base N_law_sorts "_law_sorts" (defScope s_law_sorts) f cdv A outer s H E) (fun c d _ H => E c d H) := takes_of rfl rfl rfl rfl
  have po : PassesOwn (model P w) _ _ _ := passes_of (X := cxOf (L2.CX P w) P w K mg base N_law_sorts "_law_sorts" (defScope s_law_sorts) f cdv A outer s H E) rfl
  exact ⟨rd_law_sorts K, jss_cons (js_for po rfl (ji_range1 B.range (ja_cons (je_op kop_shl (je_int) (je_var 0)) (ja_nil))) (jg_name (i := 2) nd) (jss_cons (js_setComp (own := [("_law_k", 6)]) (i := 3) rfl nd (sw_true rfl rfl rfl (by decide +kernel)) (ji_range1 B.range (ja_cons (je_var 0) (ja_nil))) (blkOk_by (own := [("_law_k", 6)]) (N := N_law_sorts) (sc := defScope s_law_sorts) (by decide +kernel)) (fun _ _ _ _ _ => by exact jg_name (i := 6) nd) (fun _ _ _ _ _ => by exact jts_nil) (fun _ _ _ _ _ => by exact je_op kop_mod (je_op kop_fdiv (je_var 2) (je_op kop_shl (je_int) (je_var 6))) (je_int))) (jss_cons (js_for po rfl (ji_list (je_var 1)) (jg_tup rfl (jgs_cons (jg_name (i := 4) nd) (jgs_cons (jg_name (i := 5) nd) (jgs_nil)))) (jss_cons (js_if (jt_cmp (kop_gt) (je_ix (je_var 3) (je_var 4)) (je_ix (je_var 3) (je_var 5)) (nomark _)) (jss_cons (js_asg (je_int) (jg_ix (je_var 3) (je_var 4))) (jss_cons (js_asg (je_int) (jg_ix (je_var 3) (je_var 5))) (jss_nil))) (jss_nil)) (jss_nil))) (jss_cons (js_if (jt_cmp (kop_ne hu) (je_var 3) (je_callB kc_sorted B.sorted (ja_cons (je_var 3) (ja_nil))) (nomark _)) (jss_cons (js_ret (je_bl)) (jss_nil)) (jss_nil)) (jss_nil))))) (jss_cons (js_ret (je_bl)) (jss_nil)), fun vs G M R Z h => pf_law_sorts h⟩
theorem df_law_sorts {P : Program} {w : World} {K : PySem.W.Frag} {mg : Str → Option Value} {base : Heap} {f : Addr} {fd : FuncData} (B : Bs mg) (C : Cs K mg) (F : Fun K "_law_sorts" "_law_sorts" s_law_sorts f fd) (b : Binds K fd ["_law_size", "_law_net"] []) (gm : mg "_law_sorts" = some (.ref f))  :
    Def P w K mg base 1 "_law_sorts" ["_law_size", "_law_net"] (S_law_sorts K) := ⟨f, fd, fo_law_sorts B C F , gm, F.kp, b⟩
abbrev s_is_whole : Stmt := topS 1
abbrev N_is_whole : List Str := ["thing"]
theorem sc_is_whole : FnScope N_is_whole ["thing"] (defScope s_is_whole) := ⟨rfl, rfl, rfl, by decide +kernel, rfl, by decide +kernel, by decide +kernel⟩
theorem fo_is_whole {P : Program} {w : World} {K : PySem.W.Frag} {mg : Str → Option Value} {base : Heap} {f : Addr} {fd : FuncData} (B : Bs mg) (C : Cs K mg) (F : Fun K "is_whole" "is_whole" s_is_whole f fd)  :
    FnOk P w K mg base (L2.CX P w) 1 f fd ["thing"] (lift (S_is_whole K)) := by
  refine fn_ok F sc_is_whole (fun vs G M R Z h => sp_len1 h) (fun cdv A outer s H E hr => ?_)
  have nd : N_is_whole.Nodup := sc_is_whole.nd
  have hu : _ + 64 < cLine := hr.units
  have tk : Takes (cxOf (L2.CX P w) P w K mg base N_is_whole "is_whole" (defScope s_is_whole) f cdv A outer s H E) (fun c d _ H => E c d H) := takes_of rfl rfl rfl rfl
  have po : PassesOwn (model P w) _ _ _ := passes_of (X := cxOf (L2.CX P w) P w K mg base N_is_whole "is_whole" (defScope s_is_whole) f cdv A outer s H E) rfl
  exact ⟨rd_is_whole K, jss_cons (js_ret (je_and (je_callB kc_isi B.isinstance (ja_cons (je_var 0) (ja_cons (je_ty B.int) (ja_nil)))) (je_one (je_not (je_callB kc_isi B.isinstance (ja_cons (je_var 0) (ja_cons (je_ty B.bool) (ja_nil)))))))) (jss_nil), fun vs G M R Z h => pf_is_whole h⟩
theorem df_is_whole {P : Program} {w : World} {K : PySem.W.Frag} {mg : Str → Option Value} {base : Heap} {f : Addr} {fd : FuncData} (B : Bs mg) (C : Cs K mg) (F : Fun K "is_whole" "is_whole" s_is_whole f fd) (b : Binds K fd ["thing"] []) (gm : mg "is_whole" = some (.ref f))  :
    Def P w K mg base 1 "is_whole" ["thing"] (S_is_whole K) := ⟨f, fd, fo_is_whole B C F , gm, F.kp, b⟩
abbrev s_is_within : Stmt := topS 2
abbrev N_is_within : List Str := ["thing", "least", "most"]
theorem sc_is_within : FnScope N_is_within ["thing", "least", "most"] (defScope s_is_within) := ⟨rfl, rfl, rfl, by decide +kernel, rfl, by decide +kernel, by decide +kernel⟩
theorem fo_is_within {P : Program} {w : World} {K : PySem.W.Frag} {mg : Str → Option Value} {base : Heap} {f : Addr} {fd : FuncData} (B : Bs mg) (C : Cs K mg) (F : Fun K "is_within" "is_within" s_is_within f fd) (D_is_whole : Def P w K mg base 1 "is_whole" ["thing"] (S_is_whole K)) :
    FnOk P w K mg base (L2.CX P w) 2 f fd ["thing", "least", "most"] (lift (S_is_within K)) := by
  refine fn_ok F sc_is_within (fun vs G M R Z h => sp_len3 h) (fun cdv A outer s H E hr => ?_)
  have nd : N_is_within.Nodup := sc_is_within.nd
  have hu : _ + 64 < cLine := hr.units
  have tk : Takes (cxOf (L2.CX P w) P w K mg base N_is_within "is_within" (defScope s_is_within) f cdv A outer s H E) (fun c d _ H => E c d H) := takes_of rfl rfl rfl rfl
  have po : PassesOwn (model P w) _ _ _ := passes_of (X := cxOf (L2.CX P w) P w K mg base N_is_within "is_within" (defScope s_is_within) f cdv A outer s H E) rfl
  exact ⟨rd_is_within K, jss_cons (js_ret (je_and (je_callD D_is_whole hr tk (ja_cons (je_var 0) (ja_nil))) (je_one (je_chain (kop_le) (kop_le) (je_var 1) (je_var 0) (je_var 2))))) (jss_nil), fun vs G M R Z h => pf_is_within h⟩
theorem df_is_within {P : Program} {w : World} {K : PySem.W.Frag} {mg : Str → Option Value} {base : Heap} {f : Addr} {fd : FuncData} (B : Bs mg) (C : Cs K mg) (F : Fun K "is_within" "is_within" s_is_within f fd) (b : Binds K fd ["thing", "least", "most"] []) (gm : mg "is_within" = some (.ref f)) (D_is_whole : Def P w K mg base 1 "is_whole" ["thing"] (S_is_whole K)) :
    Def P w K mg base 2 "is_within" ["thing", "least", "most"] (S_is_within K) := ⟨f, fd, fo_is_within B C F D_is_whole, gm, F.kp, b⟩
abbrev s_is_pair : Stmt := topS 8
abbrev N_is_pair : List Str := ["size", "thing"]
theorem sc_is_pair : FnScope N_is_pair ["size", "thing"] (defScope s_is_pair) := ⟨rfl, rfl, rfl, by decide +kernel, rfl, by decide +kernel, by decide +kernel⟩
theorem fo_is_pair {P : Program} {w : World} {K : PySem.W.Frag} {mg : Str → Option Value} {base : Heap} {f : Addr} {fd : FuncData} (B : Bs mg) (C : Cs K mg) (F : Fun K "is_pair" "is_pair" s_is_pair f fd) (D_is_within : Def P w K mg base 2 "is_within" ["thing", "least", "most"] (S_is_within K)) :
    FnOk P w K mg base (L2.CX P w) 3 f fd ["size", "thing"] (lift (S_is_pair K)) := by
  refine fn_ok F sc_is_pair (fun vs G M R Z h => sp_len2 h) (fun cdv A outer s H E hr => ?_)
  have nd : N_is_pair.Nodup := sc_is_pair.nd
  have hu : _ + 64 < cLine := hr.units
  have tk : Takes (cxOf (L2.CX P w) P w K mg base N_is_pair "is_pair" (defScope s_is_pair) f cdv A outer s H E) (fun c d _ H => E c d H) := takes_of rfl rfl rfl rfl
  have po : PassesOwn (model P w) _ _ _ := passes_of (X := cxOf (L2.CX P w) P w K mg base N_is_pair "is_pair" (defScope s_is_pair) f cdv A outer s H E) rfl
  exact ⟨rd_is_pair K, jss_cons (js_if ((jw_or (jt_not (jt_val (je_callB kc_isi B.isinstance (ja_cons (je_var 1) (ja_cons (je_ty B.tuple) (ja_nil)))))) (jw_or1 (jt_cmp (kop_ne hu) (je_callB kc_len B.len (ja_cons (je_var 1) (ja_nil))) (je_int) (nomark _)))).jt) (jss_cons (js_ret (je_bl)) (jss_nil)) (jss_nil)) (jss_cons (js_ret (je_and (je_callD D_is_within hr tk (ja_cons (je_ix (je_var 1) (je_int)) (ja_cons (je_int) (ja_cons (je_op kop_sub (je_var 0) (je_int)) (ja_nil))))) (je_one (je_callD D_is_within hr tk (ja_cons (je_ix (je_var 1) (je_int)) (ja_cons (je_int) (ja_cons (je_op kop_sub (je_ix (je_var 1) (je_int)) (je_int)) (ja_nil)))))))) (jss_nil)), fun vs G M R Z h => pf_is_pair h⟩
theorem df_is_pair {P : Program} {w : World} {K : PySem.W.Frag} {mg : Str → Option Value} {base : Heap} {f : Addr} {fd : FuncData} (B : Bs mg) (C : Cs K mg) (F : Fun K "is_pair" "is_pair" s_is_pair f fd) (b : Binds K fd ["size", "thing"] []) (gm : mg "is_pair" = some (.ref f)) (D_is_within : Def P w K mg base 2 "is_within" ["thing", "least", "most"] (S_is_within K)) :
    Def P w K mg base 3 "is_pair" ["size", "thing"] (S_is_pair K) := ⟨f, fd, fo_is_pair B C F D_is_within, gm, F.kp, b⟩
abbrev s_rows_of : Stmt := topS 9
abbrev N_rows_of : List Str := ["size", "rows", "place", "row"]
theorem sc_rows_of : FnScope N_rows_of ["size"] (defScope s_rows_of) := ⟨rfl, rfl, rfl, by decide +kernel, rfl, by decide +kernel, by decide +kernel⟩
theorem fo_rows_of {P : Program} {w : World} {K : PySem.W.Frag} {mg : Str → Option Value} {base : Heap} {f : Addr} {fd : FuncData} (B : Bs mg) (C : Cs K mg) (F : Fun K "rows_of" "rows_of" s_rows_of f fd)  :
    FnOk P w K mg base (L2.CX P w) 1 f fd ["size"] (lift (S_rows_of K)) := by
  refine fn_ok F sc_rows_of (fun vs G M R Z h => sp_len1 h) (fun cdv A outer s H E hr => ?_)
  have nd : N_rows_of.Nodup := sc_rows_of.nd
  have hu : _ + 64 < cLine := hr.units
  have tk : Takes (cxOf (L2.CX P w) P w K mg base N_rows_of "rows_of" (defScope s_rows_of) f cdv A outer s H E) (fun c d _ H => E c d H) := takes_of rfl rfl rfl rfl
  have po : PassesOwn (model P w) _ _ _ := passes_of (X := cxOf (L2.CX P w) P w K mg base N_rows_of "rows_of" (defScope s_rows_of) f cdv A outer s H E) rfl
  exact ⟨rd_rows_of K, jss_cons (js_set (i := 1) (je_lst (ja_cons (je_lst (ja_nil)) (ja_nil))) nd) (jss_cons (js_for po rfl (ji_range1 B.range (ja_cons (je_var 0) (ja_nil))) (jg_name (i := 2) nd) (jss_cons (js_set (i := 1) (je_op kop_add (je_comp (own := [("row", 3)]) rfl nd (ji_list (je_var 1)) (blkOk_by (own := [("row", 3)]) (N := N_rows_of) (sc := defScope s_rows_of) (by decide +kernel)) (fun _ _ _ _ _ => by exact jg_name (i := 3) nd) (fun _ _ _ _ _ => by exact jts_nil) (fun _ _ _ _ _ => by exact je_op kop_add (je_var 3) (je_lst (ja_cons (je_int) (ja_nil))))) (je_comp (own := [("row", 3)]) rfl nd (ji_list (je_var 1)) (blkOk_by (own := [("row", 3)]) (N := N_rows_of) (sc := defScope s_rows_of) (by decide +kernel)) (fun _ _ _ _ _ => by exact jg_name (i := 3) nd) (fun _ _ _ _ _ => by exact jts_nil) (fun _ _ _ _ _ => by exact je_op kop_add (je_var 3) (je_lst (ja_cons (je_int) (ja_nil)))))) nd) (jss_nil))) (jss_cons (js_ret (je_var 1)) (jss_nil))), fun vs G M R Z h => pf_rows_of h⟩
theorem df_rows_of {P : Program} {w : World} {K : PySem.W.Frag} {mg : Str → Option Value} {base : Heap} {f : Addr} {fd : FuncData} (B : Bs mg) (C : Cs K mg) (F : Fun K "rows_of" "rows_of" s_rows_of f fd) (b : Binds K fd ["size"] []) (gm : mg "rows_of" = some (.ref f))  :
    Def P w K mg base 1 "rows_of" ["size"] (S_rows_of K) := ⟨f, fd, fo_rows_of B C F , gm, F.kp, b⟩
abbrev s_run_net : Stmt := topS 4
abbrev N_run_net : List Str := ["net", "row", "told", "one", "other"]
theorem sc_run_net : FnScope N_run_net ["net", "row"] (defScope s_run_net) := ⟨rfl, rfl, rfl, by decide +kernel, rfl, by decide +kernel, by decide +kernel⟩
theorem fo_run_net {P : Program} {w : World} {K : PySem.W.Frag} {mg : Str → Option Value} {base : Heap} {f : Addr} {fd : FuncData} (B : Bs mg) (C : Cs K mg) (F : Fun K "run_net" "run_net" s_run_net f fd)  :
    FnOk P w K mg base (L2.CX P w) 1 f fd ["net", "row"] (lift (S_run_net K)) := by
  refine fn_ok F sc_run_net (fun vs G M R Z h => sp_len2 h) (fun cdv A outer s H E hr => ?_)
  have nd : N_run_net.Nodup := sc_run_net.nd
  have hu : _ + 64 < cLine := hr.units
  have tk : Takes (cxOf (L2.CX P w) P w K mg base N_run_net "run_net" (defScope s_run_net) f cdv A outer s H E) (fun c d _ H => E c d H) := takes_of rfl rfl rfl rfl
  have po : PassesOwn (model P w) _ _ _ := passes_of (X := cxOf (L2.CX P w) P w K mg base N_run_net "run_net" (defScope s_run_net) f cdv A outer s H E) rfl
  exact ⟨rd_run_net K, jss_cons (js_set (i := 2) (je_callTy kc_list B.list (ja_cons (je_var 1) (ja_nil))) nd) (jss_cons (js_for po rfl (ji_list (je_var 0)) (jg_tup rfl (jgs_cons (jg_name (i := 3) nd) (jgs_cons (jg_name (i := 4) nd) (jgs_nil)))) (jss_cons (js_if (jt_cmp (kop_gt) (je_ix (je_var 2) (je_var 3)) (je_ix (je_var 2) (je_var 4)) (nomark _)) (jss_cons (js_asg (je_tup (ja_cons (je_ix (je_var 2) (je_var 4)) (ja_cons (je_ix (je_var 2) (je_var 3)) (ja_nil)))) (jg_tup rfl (jgs_cons (jg_ix (je_var 2) (je_var 3)) (jgs_cons (jg_ix (je_var 2) (je_var 4)) (jgs_nil))))) (jss_nil)) (jss_nil)) (jss_nil))) (jss_cons (js_ret (je_var 2)) (jss_nil))), fun vs G M R Z h => pf_run_net h⟩
theorem df_run_net {P : Program} {w : World} {K : PySem.W.Frag} {mg : Str → Option Value} {base : Heap} {f : Addr} {fd : FuncData} (B : Bs mg) (C : Cs K mg) (F : Fun K "run_net" "run_net" s_run_net f fd) (b : Binds K fd ["net", "row"] []) (gm : mg "run_net" = some (.ref f))  :
    Def P w K mg base 1 "run_net" ["net", "row"] (S_run_net K) := ⟨f, fd, fo_run_net B C F , gm, F.kp, b⟩
abbrev s_sorts : Stmt := topS 10
abbrev N_sorts : List Str := ["size", "thing", "pair", "row"]
theorem sc_sorts : FnScope N_sorts ["size", "thing"] (defScope s_sorts) := ⟨rfl, rfl, rfl, by decide +kernel, rfl, by decide +kernel, by decide +kernel⟩
theorem fo_sorts {P : Program} {w : World} {K : PySem.W.Frag} {mg : Str → Option Value} {base : Heap} {f : Addr} {fd : FuncData} (B : Bs mg) (C : Cs K mg) (F : Fun K "sorts" "sorts" s_sorts f fd) (D_is_pair : Def P w K mg base 3 "is_pair" ["size", "thing"] (S_is_pair K)) (D_rows_of : Def P w K mg base 1 "rows_of" ["size"] (S_rows_of K)) (D_run_net : Def P w K mg base 1 "run_net" ["net", "row"] (S_run_net K)) :
    FnOk P w K mg base (L2.CX P w) 4 f fd ["size", "thing"] (lift (S_sorts K)) := by
  refine fn_ok F sc_sorts (fun vs G M R Z h => sp_len2 h) (fun cdv A outer s H E hr => ?_)
  have nd : N_sorts.Nodup := sc_sorts.nd
  have hu : _ + 64 < cLine := hr.units
  have tk : Takes (cxOf (L2.CX P w) P w K mg base N_sorts "sorts" (defScope s_sorts) f cdv A outer s H E) (fun c d _ H => E c d H) := takes_of rfl rfl rfl rfl
  have po : PassesOwn (model P w) _ _ _ := passes_of (X := cxOf (L2.CX P w) P w K mg base N_sorts "sorts" (defScope s_sorts) f cdv A outer s H E) rfl
  exact ⟨rd_sorts K, jss_cons (js_if ((jw_or (jt_not (jt_val (je_callB kc_isi B.isinstance (ja_cons (je_var 1) (ja_cons (je_ty B.list) (ja_nil)))))) (jw_or1 (jt_not (jt_val (je_callB kc_all B.all (ja_cons (je_comp (own := [("pair", 2)]) rfl nd (ji_list (je_var 1)) (blkOk_by (own := [("pair", 2)]) (N := N_sorts) (sc := defScope s_sorts) (by decide +kernel)) (fun _ _ _ _ _ => by exact jg_name (i := 2) nd) (fun _ _ _ _ _ => by exact jts_nil) (fun _ _ _ _ _ => by exact je_callD D_is_pair hr takes0 (ja_cons (je_var 0) (ja_cons (je_var 2) (ja_nil))))) (ja_nil))))))).jt) (jss_cons (js_ret (je_bl)) (jss_nil)) (jss_nil)) (jss_cons (js_ret (je_callB kc_all B.all (ja_cons (je_comp (own := [("row", 3)]) rfl nd (ji_list (je_callD D_rows_of hr tk (ja_cons (je_var 0) (ja_nil)))) (blkOk_by (own := [("row", 3)]) (N := N_sorts) (sc := defScope s_sorts) (by decide +kernel)) (fun _ _ _ _ _ => by exact jg_name (i := 3) nd) (fun _ _ _ _ _ => by exact jts_nil) (fun _ _ _ _ _ => by exact je_cmp (kop_eq hu) (je_callD D_run_net hr takes0 (ja_cons (je_var 1) (ja_cons (je_var 3) (ja_nil)))) (je_callB kc_sorted B.sorted (ja_cons (je_var 3) (ja_nil))) (nomark _))) (ja_nil)))) (jss_nil)), fun vs G M R Z h => pf_sorts h⟩
theorem df_sorts {P : Program} {w : World} {K : PySem.W.Frag} {mg : Str → Option Value} {base : Heap} {f : Addr} {fd : FuncData} (B : Bs mg) (C : Cs K mg) (F : Fun K "sorts" "sorts" s_sorts f fd) (b : Binds K fd ["size", "thing"] []) (gm : mg "sorts" = some (.ref f)) (D_is_pair : Def P w K mg base 3 "is_pair" ["size", "thing"] (S_is_pair K)) (D_rows_of : Def P w K mg base 1 "rows_of" ["size"] (S_rows_of K)) (D_run_net : Def P w K mg base 1 "run_net" ["net", "row"] (S_run_net K)) :
    Def P w K mg base 4 "sorts" ["size", "thing"] (S_sorts K) := ⟨f, fd, fo_sorts B C F D_is_pair D_rows_of D_run_net, gm, F.kp, b⟩
abbrev s_law_right : Stmt := topS 19
abbrev N_law_right : List Str := ["_law_pool_here", "_law_most", "_law_size", "_law_net", "_law_due", "_law_kept", "_law_turn", "_law_found", "_law_odd"]
theorem sc_law_right : FnScope N_law_right ["_law_pool_here", "_law_most"] (defScope s_law_right) := ⟨rfl, rfl, rfl, by decide +kernel, rfl, by decide +kernel, by decide +kernel⟩
theorem fo_law_right {P : Program} {w : World} {K : PySem.W.Frag} {mg : Str → Option Value} {base : Heap} {f : Addr} {fd : FuncData} (B : Bs mg) (C : Cs K mg) (F : Fun K "_law_right" "_law_right" s_law_right f fd) (D_law_take : Def P w K mg base 1 "_law_take" ["_law_pool_here", "_law_many"] (S_law_take K)) (D_law_drawn : Def P w K mg base 15 "_law_drawn" ["_law_pool_here", "_law_size"] (S_law_drawn K)) (D_law_bent : Def P w K mg base 2 "_law_bent" ["_law_pool_here", "_law_net", "_law_size"] (S_law_bent K)) (D_law_is_net : Def P w K mg base 2 "_law_is_net" ["_law_size", "_law_thing"] (S_law_is_net K)) (D_law_sorts : Def P w K mg base 1 "_law_sorts" ["_law_size", "_law_net"] (S_law_sorts K)) (D_sorts : Def P w K mg base 4 "sorts" ["size", "thing"] (S_sorts K)) :
    GFn P w K mg base 16 f fd ["_law_pool_here", "_law_most"] (lift (S_law_right K)) := by
  refine gfn_ok F sc_law_right (fun vs G M R Z h => sp_len2 h) (fun cdv A outer s H E hgd hr => ?_)
  have nd : N_law_right.Nodup := sc_law_right.nd
  have hu : _ + 64 < cLine := hr.units
  have tk : Takes (cxOf (L2.CX P w) P w K mg base N_law_right "_law_right" (defScope s_law_right) f cdv A outer s H E) (fun c d _ H => E c d H) := takes_of rfl rfl rfl rfl
  have po : PassesOwn (model P w) _ _ _ := passes_of (X := cxOf (L2.CX P w) P w K mg base N_law_right "_law_right" (defScope s_law_right) f cdv A outer s H E) rfl
  exact ⟨rd_law_right K, jss_cons (js_set (i := 2) (je_op kop_add (je_int) (je_callD D_law_take hr tk (ja_cons (je_var 0) (ja_cons (je_var 1) (ja_nil))))) nd) (jss_cons (js_set (i := 3) (je_callD D_law_bent hr tk (ja_cons (je_var 0) (ja_cons (je_callD D_law_drawn hr tk (ja_cons (je_var 0) (ja_cons (je_var 2) (ja_nil)))) (ja_cons (je_var 2) (ja_nil))))) nd) (jss_cons (js_set (i := 4) (je_and (je_callD D_law_is_net hr tk (ja_cons (je_var 2) (ja_cons (je_var 3) (ja_nil)))) (je_one (je_callD D_law_sorts hr tk (ja_cons (je_var 2) (ja_cons (je_var 3) (ja_nil)))))) nd) (jss_cons (js_set (i := 5) (je_callB (kc_repr hgd hu) B.repr (ja_cons (je_var 3) (ja_nil))) nd) (jss_cons (js_for po rfl (ji_range1 B.range (ja_cons (je_int) (ja_nil))) (jg_name (i := 6) nd) (jss_cons (js_set (i := 7) (je_callD D_sorts hr tk (ja_cons (je_var 2) (ja_cons (je_var 3) (ja_nil)))) nd) (jss_cons (js_if ((jw_or (jt_not (jt_val (je_callB kc_isi B.isinstance (ja_cons (je_var 7) (ja_cons (je_ty B.bool) (ja_nil)))))) (jw_or (jt_cmp (kop_ne hu) (je_var 7) (je_var 4) (nomark _)) (jw_or1 (jt_cmp (kop_ne hu) (je_callB (kc_repr hgd hu) B.repr (ja_cons (je_var 3) (ja_nil))) (je_var 5) (nomark _))))).jt) (jss_cons (js_ret (je_bl)) (jss_nil)) (jss_nil)) (jss_nil)))) (jss_cons (js_set (i := 8) (je_ix (je_lst (ja_cons (je_non) (ja_cons (je_int) (ja_cons (je_bl) (ja_cons (je_str) (ja_cons (je_tup (ja_nil)) (ja_cons (je_dnew) (ja_cons (je_lst (ja_cons (je_non) (ja_nil))) (ja_cons (je_lst (ja_cons (je_lst (ja_nil)) (ja_nil))) (ja_cons (je_lst (ja_cons (je_tup (ja_nil)) (ja_nil))) (ja_cons (je_lst (ja_cons (je_tup (ja_cons (je_int) (ja_cons (je_int) (ja_cons (je_int) (ja_nil))))) (ja_nil))) (ja_nil)))))))))))) (je_callD D_law_take hr tk (ja_cons (je_var 0) (ja_cons (je_int) (ja_nil))))) nd) (jss_cons (js_ret (je_cmp (kop_is2) (je_callD D_sorts hr tk (ja_cons (je_var 2) (ja_cons (je_var 8) (ja_nil)))) (je_bl) (nomark _))) (jss_nil))))))), fun vs G M R Z h => pf_law_right h⟩
theorem df_law_right {P : Program} {w : World} {K : PySem.W.Frag} {mg : Str → Option Value} {base : Heap} {f : Addr} {fd : FuncData} (B : Bs mg) (C : Cs K mg) (F : Fun K "_law_right" "_law_right" s_law_right f fd) (b : Binds K fd ["_law_pool_here", "_law_most"] []) (gm : mg "_law_right" = some (.ref f)) (D_law_take : Def P w K mg base 1 "_law_take" ["_law_pool_here", "_law_many"] (S_law_take K)) (D_law_drawn : Def P w K mg base 15 "_law_drawn" ["_law_pool_here", "_law_size"] (S_law_drawn K)) (D_law_bent : Def P w K mg base 2 "_law_bent" ["_law_pool_here", "_law_net", "_law_size"] (S_law_bent K)) (D_law_is_net : Def P w K mg base 2 "_law_is_net" ["_law_size", "_law_thing"] (S_law_is_net K)) (D_law_sorts : Def P w K mg base 1 "_law_sorts" ["_law_size", "_law_net"] (S_law_sorts K)) (D_sorts : Def P w K mg base 4 "sorts" ["size", "thing"] (S_sorts K)) :
    DefG P w K mg base 16 "_law_right" ["_law_pool_here", "_law_most"] (S_law_right K) := ⟨f, fd, fo_law_right B C F D_law_take D_law_drawn D_law_bent D_law_is_net D_law_sorts D_sorts, gm, F.kp, b⟩
abbrev s_law : Stmt := topS 20
abbrev N_law : List Str := ["_law_script", "_law_last", "_law_k"]
theorem sc_law : FnScope N_law ["_law_script"] (defScope s_law) := ⟨rfl, rfl, rfl, by decide +kernel, rfl, by decide +kernel, by decide +kernel⟩
theorem fo_law {P : Program} {w : World} {K : PySem.W.Frag} {mg : Str → Option Value} {base : Heap} {f : Addr} {fd : FuncData} (B : Bs mg) (C : Cs K mg) (F : Fun K "law" "law" s_law f fd) (D_law_pool : Def P w K mg base 1 "_law_pool" ["_law_script", "_law_k"] (S_law_pool K)) (D_law_right : DefG P w K mg base 16 "_law_right" ["_law_pool_here", "_law_most"] (S_law_right K)) :
    GFn P w K mg base 17 f fd ["_law_script"] (lift (S_law K)) := by
  refine gfn_ok F sc_law (fun vs G M R Z h => sp_len1 h) (fun cdv A outer s H E hgd hr => ?_)
  have nd : N_law.Nodup := sc_law.nd
  have hu : _ + 64 < cLine := hr.units
  have tk : Takes (cxOf (L2.CX P w) P w K mg base N_law "law" (defScope s_law) f cdv A outer s H E) (fun c d _ H => E c d H) := takes_of rfl rfl rfl rfl
  have po : PassesOwn (model P w) _ _ _ := passes_of (X := cxOf (L2.CX P w) P w K mg base N_law "law" (defScope s_law) f cdv A outer s H E) rfl
  exact ⟨rd_law K, jss_cons (js_set (i := 1) (je_callB kc_min2 B.min (ja_cons (je_callB kc_len B.len (ja_cons (je_var 0) (ja_nil))) (ja_cons (je_int) (ja_nil)))) nd) (jss_cons (js_for po rfl (ji_range1 B.range (ja_cons (je_op kop_add (je_var 1) (je_int)) (ja_nil))) (jg_name (i := 2) nd) (jss_cons (js_if (jt_not (jt_val (je_callG D_law_right hgd hr tk (ja_cons (je_callD D_law_pool hr tk (ja_cons (je_var 0) (ja_cons (je_var 2) (ja_nil)))) (ja_cons (je_ix (je_lst (ja_cons (je_int) (ja_cons (je_int) (ja_nil)))) (je_callTy kc_int B.int (ja_cons (je_cmp (kop_eq hu) (je_var 2) (je_var 1) (nomark _)) (ja_nil)))) (ja_nil)))))) (jss_cons (js_ret (je_bl)) (jss_nil)) (jss_nil)) (jss_nil))) (jss_cons (js_ret (je_bl)) (jss_nil))), fun vs G M R Z h => pf_law h⟩
theorem df_law {P : Program} {w : World} {K : PySem.W.Frag} {mg : Str → Option Value} {base : Heap} {f : Addr} {fd : FuncData} (B : Bs mg) (C : Cs K mg) (F : Fun K "law" "law" s_law f fd) (b : Binds K fd ["_law_script"] []) (gm : mg "law" = some (.ref f)) (D_law_pool : Def P w K mg base 1 "_law_pool" ["_law_script", "_law_k"] (S_law_pool K)) (D_law_right : DefG P w K mg base 16 "_law_right" ["_law_pool_here", "_law_most"] (S_law_right K)) :
    DefG P w K mg base 17 "law" ["_law_script"] (S_law K) := ⟨f, fd, fo_law B C F D_law_pool D_law_right, gm, F.kp, b⟩
theorem all_mk {l : PySem.W.OpenLaw} {w : World} {K : PySem.W.Frag} {h : Heap} {mg : Str → Option Value} {fa f0 f1 f2 f3 f4 f5 f6 f7 f8 f9 f10 f11 f12 f13 f14 f15 f16 f17 : Addr} (X : K.In h) (G : h.Ns mainGlobals mg) (hfa : mg "law" = some (.ref fa))
    {od0 an0 od1 an1 od2 an2 od3 an3 od4 an4 od5 an5 od6 an6 od7 an7 od8 an8 od9 an9 od10 an10 od11 an11 od12 an12 od13 an13 od14 an14 od15 an15 od16 an16 od17 an17 : Option Addr} {sl0 sl1 sl2 sl3 sl4 sl5 sl6 sl7 sl8 sl9 sl10 sl11 sl12 sl13 sl14 sl15 sl16 sl17 : Array (Option Value)} {oc0 kV0 dc0 pm0 cd0 ct0 oc1 kV1 dc1 pm1 cd1 ct1 oc2 kV2 dc2 pm2 cd2 ct2 oc3 kV3 dc3 pm3 cd3 ct3 oc4 kV4 dc4 pm4 cd4 ct4 oc5 kV5 dc5 pm5 cd5 ct5 oc6 kV6 dc6 pm6 cd6 ct6 oc7 kV7 dc7 pm7 cd7 ct7 oc8 kV8 dc8 pm8 cd8 ct8 oc9 kV9 dc9 pm9 cd9 ct9 oc10 kV10 dc10 pm10 cd10 ct10 oc11 kV11 dc11 pm11 cd11 ct11 oc12 kV12 dc12 pm12 cd12 ct12 oc13 kV13 dc13 pm13 cd13 ct13 oc14 kV14 dc14 pm14 cd14 ct14 oc15 kV15 dc15 pm15 cd15 ct15 oc16 kV16 dc16 pm16 cd16 ct16 oc17 kV17 dc17 pm17 cd17 ct17 : Value}
    (a0 : PySem.W.nsIn K mainGlobals "_law_pool" = some (some (.ref f0))) (l0 : K.lookup f0 = some ⟨oc0, od0, .func (PySem.W.fnOf "_law_pool" "_law_pool" (defArgs s_law_pool) (defBody s_law_pool) (defScope s_law_pool) .none kV0 dc0 pm0 an0 cd0 ct0), sl0⟩) (c0 : PySem.W.codeIn K cd0 "_law_pool" = true) (k0 : PySem.W.keepIn K (.ref f0) = true)
    (a1 : PySem.W.nsIn K mainGlobals "_law_take" = some (some (.ref f1))) (l1 : K.lookup f1 = some ⟨oc1, od1, .func (PySem.W.fnOf "_law_take" "_law_take" (defArgs s_law_take) (defBody s_law_take) (defScope s_law_take) .none kV1 dc1 pm1 an1 cd1 ct1), sl1⟩) (c1 : PySem.W.codeIn K cd1 "_law_take" = true) (k1 : PySem.W.keepIn K (.ref f1) = true)
    (a2 : PySem.W.nsIn K mainGlobals "joining" = some (some (.ref f2))) (l2 : K.lookup f2 = some ⟨oc2, od2, .func (PySem.W.fnOf "joining" "joining" (defArgs s_joining) (defBody s_joining) (defScope s_joining) .none kV2 dc2 pm2 an2 cd2 ct2), sl2⟩) (c2 : PySem.W.codeIn K cd2 "joining" = true) (k2 : PySem.W.keepIn K (.ref f2) = true)
    (a3 : PySem.W.nsIn K mainGlobals "sorting" = some (some (.ref f3))) (l3 : K.lookup f3 = some ⟨oc3, od3, .func (PySem.W.fnOf "sorting" "sorting" (defArgs s_sorting) (defBody s_sorting) (defScope s_sorting) .none kV3 dc3 pm3 an3 cd3 ct3), sl3⟩) (c3 : PySem.W.codeIn K cd3 "sorting" = true) (k3 : PySem.W.keepIn K (.ref f3) = true)
    (a4 : PySem.W.nsIn K mainGlobals "net_of" = some (some (.ref f4))) (l4 : K.lookup f4 = some ⟨oc4, od4, .func (PySem.W.fnOf "net_of" "net_of" (defArgs s_net_of) (defBody s_net_of) (defScope s_net_of) .none kV4 dc4 pm4 an4 cd4 ct4), sl4⟩) (c4 : PySem.W.codeIn K cd4 "net_of" = true) (k4 : PySem.W.keepIn K (.ref f4) = true)
    (a5 : PySem.W.nsIn K mainGlobals "_law_drawn" = some (some (.ref f5))) (l5 : K.lookup f5 = some ⟨oc5, od5, .func (PySem.W.fnOf "_law_drawn" "_law_drawn" (defArgs s_law_drawn) (defBody s_law_drawn) (defScope s_law_drawn) .none kV5 dc5 pm5 an5 cd5 ct5), sl5⟩) (c5 : PySem.W.codeIn K cd5 "_law_drawn" = true) (k5 : PySem.W.keepIn K (.ref f5) = true)
    (a6 : PySem.W.nsIn K mainGlobals "_law_bent" = some (some (.ref f6))) (l6 : K.lookup f6 = some ⟨oc6, od6, .func (PySem.W.fnOf "_law_bent" "_law_bent" (defArgs s_law_bent) (defBody s_law_bent) (defScope s_law_bent) .none kV6 dc6 pm6 an6 cd6 ct6), sl6⟩) (c6 : PySem.W.codeIn K cd6 "_law_bent" = true) (k6 : PySem.W.keepIn K (.ref f6) = true)
    (a7 : PySem.W.nsIn K mainGlobals "_law_whole" = some (some (.ref f7))) (l7 : K.lookup f7 = some ⟨oc7, od7, .func (PySem.W.fnOf "_law_whole" "_law_whole" (defArgs s_law_whole) (defBody s_law_whole) (defScope s_law_whole) .none kV7 dc7 pm7 an7 cd7 ct7), sl7⟩) (c7 : PySem.W.codeIn K cd7 "_law_whole" = true) (k7 : PySem.W.keepIn K (.ref f7) = true)
    (a8 : PySem.W.nsIn K mainGlobals "_law_is_net" = some (some (.ref f8))) (l8 : K.lookup f8 = some ⟨oc8, od8, .func (PySem.W.fnOf "_law_is_net" "_law_is_net" (defArgs s_law_is_net) (defBody s_law_is_net) (defScope s_law_is_net) .none kV8 dc8 pm8 an8 cd8 ct8), sl8⟩) (c8 : PySem.W.codeIn K cd8 "_law_is_net" = true) (k8 : PySem.W.keepIn K (.ref f8) = true)
    (a9 : PySem.W.nsIn K mainGlobals "_law_sorts" = some (some (.ref f9))) (l9 : K.lookup f9 = some ⟨oc9, od9, .func (PySem.W.fnOf "_law_sorts" "_law_sorts" (defArgs s_law_sorts) (defBody s_law_sorts) (defScope s_law_sorts) .none kV9 dc9 pm9 an9 cd9 ct9), sl9⟩) (c9 : PySem.W.codeIn K cd9 "_law_sorts" = true) (k9 : PySem.W.keepIn K (.ref f9) = true)
    (a10 : PySem.W.nsIn K mainGlobals "is_whole" = some (some (.ref f10))) (l10 : K.lookup f10 = some ⟨oc10, od10, .func (PySem.W.fnOf "is_whole" "is_whole" (defArgs s_is_whole) (defBody s_is_whole) (defScope s_is_whole) .none kV10 dc10 pm10 an10 cd10 ct10), sl10⟩) (c10 : PySem.W.codeIn K cd10 "is_whole" = true) (k10 : PySem.W.keepIn K (.ref f10) = true)
    (a11 : PySem.W.nsIn K mainGlobals "is_within" = some (some (.ref f11))) (l11 : K.lookup f11 = some ⟨oc11, od11, .func (PySem.W.fnOf "is_within" "is_within" (defArgs s_is_within) (defBody s_is_within) (defScope s_is_within) .none kV11 dc11 pm11 an11 cd11 ct11), sl11⟩) (c11 : PySem.W.codeIn K cd11 "is_within" = true) (k11 : PySem.W.keepIn K (.ref f11) = true)
    (a12 : PySem.W.nsIn K mainGlobals "is_pair" = some (some (.ref f12))) (l12 : K.lookup f12 = some ⟨oc12, od12, .func (PySem.W.fnOf "is_pair" "is_pair" (defArgs s_is_pair) (defBody s_is_pair) (defScope s_is_pair) .none kV12 dc12 pm12 an12 cd12 ct12), sl12⟩) (c12 : PySem.W.codeIn K cd12 "is_pair" = true) (k12 : PySem.W.keepIn K (.ref f12) = true)
    (a13 : PySem.W.nsIn K mainGlobals "rows_of" = some (some (.ref f13))) (l13 : K.lookup f13 = some ⟨oc13, od13, .func (PySem.W.fnOf "rows_of" "rows_of" (defArgs s_rows_of) (defBody s_rows_of) (defScope s_rows_of) .none kV13 dc13 pm13 an13 cd13 ct13), sl13⟩) (c13 : PySem.W.codeIn K cd13 "rows_of" = true) (k13 : PySem.W.keepIn K (.ref f13) = true)
    (a14 : PySem.W.nsIn K mainGlobals "run_net" = some (some (.ref f14))) (l14 : K.lookup f14 = some ⟨oc14, od14, .func (PySem.W.fnOf "run_net" "run_net" (defArgs s_run_net) (defBody s_run_net) (defScope s_run_net) .none kV14 dc14 pm14 an14 cd14 ct14), sl14⟩) (c14 : PySem.W.codeIn K cd14 "run_net" = true) (k14 : PySem.W.keepIn K (.ref f14) = true)
    (a15 : PySem.W.nsIn K mainGlobals "sorts" = some (some (.ref f15))) (l15 : K.lookup f15 = some ⟨oc15, od15, .func (PySem.W.fnOf "sorts" "sorts" (defArgs s_sorts) (defBody s_sorts) (defScope s_sorts) .none kV15 dc15 pm15 an15 cd15 ct15), sl15⟩) (c15 : PySem.W.codeIn K cd15 "sorts" = true) (k15 : PySem.W.keepIn K (.ref f15) = true)
    (a16 : PySem.W.nsIn K mainGlobals "_law_right" = some (some (.ref f16))) (l16 : K.lookup f16 = some ⟨oc16, od16, .func (PySem.W.fnOf "_law_right" "_law_right" (defArgs s_law_right) (defBody s_law_right) (defScope s_law_right) .none kV16 dc16 pm16 an16 cd16 ct16), sl16⟩) (c16 : PySem.W.codeIn K cd16 "_law_right" = true) (k16 : PySem.W.keepIn K (.ref f16) = true)
    (a17 : PySem.W.nsIn K mainGlobals "law" = some (some (.ref f17))) (l17 : K.lookup f17 = some ⟨oc17, od17, .func (PySem.W.fnOf "law" "law" (defArgs s_law) (defBody s_law) (defScope s_law) .none kV17 dc17 pm17 an17 cd17 ct17), sl17⟩) (c17 : PySem.W.codeIn K cd17 "law" = true) (k17 : PySem.W.keepIn K (.ref f17) = true)
    (z_all : PySem.W.nsIn K mainGlobals "all" = some none)
    (z_bool : PySem.W.nsIn K mainGlobals "bool" = some none)
    (z_int : PySem.W.nsIn K mainGlobals "int" = some none)
    (z_isinstance : PySem.W.nsIn K mainGlobals "isinstance" = some none)
    (z_len : PySem.W.nsIn K mainGlobals "len" = some none)
    (z_list : PySem.W.nsIn K mainGlobals "list" = some none)
    (z_max : PySem.W.nsIn K mainGlobals "max" = some none)
    (z_min : PySem.W.nsIn K mainGlobals "min" = some none)
    (z_range : PySem.W.nsIn K mainGlobals "range" = some none)
    (z_repr : PySem.W.nsIn K mainGlobals "repr" = some none)
    (z_sorted : PySem.W.nsIn K mainGlobals "sorted" = some none)
    (z_tuple : PySem.W.nsIn K mainGlobals "tuple" = some none)
    : ∃ fd : FuncData, (∀ (s : Shared) (v : Value), BindsTo s fd ⟨[v], []⟩ [("_law_script", v)]) ∧ ∀ base : Heap, K.In base → base.Ns mainGlobals mg → GFn l.prog w K mg base 17 fa fd ["_law_script"] (lift (S_law K)) := by
  have e := hfa.symm.trans (PySem.W.mg_of X G a17)
  cases e
  have B : Bs mg := ⟨PySem.W.mg_none_of X G z_all, PySem.W.mg_none_of X G z_bool, PySem.W.mg_none_of X G z_int, PySem.W.mg_none_of X G z_isinstance, PySem.W.mg_none_of X G z_len, PySem.W.mg_none_of X G z_list, PySem.W.mg_none_of X G z_max, PySem.W.mg_none_of X G z_min, PySem.W.mg_none_of X G z_range, PySem.W.mg_none_of X G z_repr, PySem.W.mg_none_of X G z_sorted, PySem.W.mg_none_of X G z_tuple⟩
  have C : Cs K mg := ⟨trivial⟩
  have F0 := fun_mk (st := s_law_pool) l0 c0 k0
  have b0 := F0.binds (ps := ["_law_script", "_law_k"]) fun _ _ _ _ _ _ us hl => match us, hl with | [_, _], _ => rfl
  have F1 := fun_mk (st := s_law_take) l1 c1 k1
  have b1 := F1.binds (ps := ["_law_pool_here", "_law_many"]) fun _ _ _ _ _ _ us hl => match us, hl with | [_, _], _ => rfl
  have F2 := fun_mk (st := s_joining) l2 c2 k2
  have b2 := F2.binds (ps := ["first", "width", "step"]) fun _ _ _ _ _ _ us hl => match us, hl with | [_, _, _], _ => rfl
  have F3 := fun_mk (st := s_sorting) l3 c3 k3
  have b3 := F3.binds (ps := ["first", "width"]) fun _ _ _ _ _ _ us hl => match us, hl with | [_, _], _ => rfl
  have F4 := fun_mk (st := s_net_of) l4 c4 k4
  have b4 := F4.binds (ps := ["size"]) fun _ _ _ _ _ _ us hl => match us, hl with | [_], _ => rfl
  have F5 := fun_mk (st := s_law_drawn) l5 c5 k5
  have b5 := F5.binds (ps := ["_law_pool_here", "_law_size"]) fun _ _ _ _ _ _ us hl => match us, hl with | [_, _], _ => rfl
  have F6 := fun_mk (st := s_law_bent) l6 c6 k6
  have b6 := F6.binds (ps := ["_law_pool_here", "_law_net", "_law_size"]) fun _ _ _ _ _ _ us hl => match us, hl with | [_, _, _], _ => rfl
  have F7 := fun_mk (st := s_law_whole) l7 c7 k7
  have b7 := F7.binds (ps := ["_law_thing"]) fun _ _ _ _ _ _ us hl => match us, hl with | [_], _ => rfl
  have F8 := fun_mk (st := s_law_is_net) l8 c8 k8
  have b8 := F8.binds (ps := ["_law_size", "_law_thing"]) fun _ _ _ _ _ _ us hl => match us, hl with | [_, _], _ => rfl
  have F9 := fun_mk (st := s_law_sorts) l9 c9 k9
  have b9 := F9.binds (ps := ["_law_size", "_law_net"]) fun _ _ _ _ _ _ us hl => match us, hl with | [_, _], _ => rfl
  have F10 := fun_mk (st := s_is_whole) l10 c10 k10
  have b10 := F10.binds (ps := ["thing"]) fun _ _ _ _ _ _ us hl => match us, hl with | [_], _ => rfl
  have F11 := fun_mk (st := s_is_within) l11 c11 k11
  have b11 := F11.binds (ps := ["thing", "least", "most"]) fun _ _ _ _ _ _ us hl => match us, hl with | [_, _, _], _ => rfl
  have F12 := fun_mk (st := s_is_pair) l12 c12 k12
  have b12 := F12.binds (ps := ["size", "thing"]) fun _ _ _ _ _ _ us hl => match us, hl with | [_, _], _ => rfl
  have F13 := fun_mk (st := s_rows_of) l13 c13 k13
  have b13 := F13.binds (ps := ["size"]) fun _ _ _ _ _ _ us hl => match us, hl with | [_], _ => rfl
  have F14 := fun_mk (st := s_run_net) l14 c14 k14
  have b14 := F14.binds (ps := ["net", "row"]) fun _ _ _ _ _ _ us hl => match us, hl with | [_, _], _ => rfl
  have F15 := fun_mk (st := s_sorts) l15 c15 k15
  have b15 := F15.binds (ps := ["size", "thing"]) fun _ _ _ _ _ _ us hl => match us, hl with | [_, _], _ => rfl
  have F16 := fun_mk (st := s_law_right) l16 c16 k16
  have b16 := F16.binds (ps := ["_law_pool_here", "_law_most"]) fun _ _ _ _ _ _ us hl => match us, hl with | [_, _], _ => rfl
  have F17 := fun_mk (st := s_law) l17 c17 k17
  have b17 := F17.binds (ps := ["_law_script"]) fun _ _ _ _ _ _ us hl => match us, hl with | [_], _ => rfl
  refine ⟨PySem.W.fnOf "law" "law" (defArgs s_law) (defBody s_law) (defScope s_law) .none kV17 dc17 pm17 an17 cd17 ct17, fun s v => .of_eq rfl, fun base _ _ => ?_⟩
  have D_law_pool := df_law_pool (P := l.prog) (w := w) (base := base) B C F0 b0 (PySem.W.mg_of X G a0) 
  have D_law_take := df_law_take (P := l.prog) (w := w) (base := base) B C F1 b1 (PySem.W.mg_of X G a1) 
  have D_joining := df_joining (P := l.prog) (w := w) (base := base) B C F2 b2 (PySem.W.mg_of X G a2)  6
  have D_sorting := df_sorting (P := l.prog) (w := w) (base := base) B C F3 b3 (PySem.W.mg_of X G a3) D_joining 7
  have D_net_of := df_net_of (P := l.prog) (w := w) (base := base) B C F4 b4 (PySem.W.mg_of X G a4) D_sorting
  have D_law_drawn := df_law_drawn (P := l.prog) (w := w) (base := base) B C F5 b5 (PySem.W.mg_of X G a5) D_law_take D_net_of
  have D_law_bent := df_law_bent (P := l.prog) (w := w) (base := base) B C F6 b6 (PySem.W.mg_of X G a6) D_law_take
  have D_law_whole := df_law_whole (P := l.prog) (w := w) (base := base) B C F7 b7 (PySem.W.mg_of X G a7) 
  have D_law_is_net := df_law_is_net (P := l.prog) (w := w) (base := base) B C F8 b8 (PySem.W.mg_of X G a8) D_law_whole
  have D_law_sorts := df_law_sorts (P := l.prog) (w := w) (base := base) B C F9 b9 (PySem.W.mg_of X G a9) 
  have D_is_whole := df_is_whole (P := l.prog) (w := w) (base := base) B C F10 b10 (PySem.W.mg_of X G a10) 
  have D_is_within := df_is_within (P := l.prog) (w := w) (base := base) B C F11 b11 (PySem.W.mg_of X G a11) D_is_whole
  have D_is_pair := df_is_pair (P := l.prog) (w := w) (base := base) B C F12 b12 (PySem.W.mg_of X G a12) D_is_within
  have D_rows_of := df_rows_of (P := l.prog) (w := w) (base := base) B C F13 b13 (PySem.W.mg_of X G a13) 
  have D_run_net := df_run_net (P := l.prog) (w := w) (base := base) B C F14 b14 (PySem.W.mg_of X G a14) 
  have D_sorts := df_sorts (P := l.prog) (w := w) (base := base) B C F15 b15 (PySem.W.mg_of X G a15) D_is_pair D_rows_of D_run_net
  have D_law_right := df_law_right (P := l.prog) (w := w) (base := base) B C F16 b16 (PySem.W.mg_of X G a16) D_law_take D_law_drawn D_law_bent D_law_is_net D_law_sorts D_sorts
  exact fo_law (P := l.prog) (w := w) (base := base) B C F17 D_law_pool D_law_right
end BT
open PySem PySem.W PyProof.Rows
set_option maxHeartbeats 0 in
theorem PySem.Challenge.cw_blindtouch_k23_nets_looked_at_holds : PySem.Challenge.rw_blindtouch_k23_nets_looked_at.Holds := by
  w_on; o_law; k_head; (case hw => w_witness2)
  k_fill
  refine BT.walk_ofG (l := PySem.Challenge.rw_blindtouch_k23_nets_looked_at) (n := 63) (k := 17) (x := "_law_script") (sp := fun w => BT.lift (BT.S_law _)) rfl (by decide) rfl ⟨rfl, by decide, by decide⟩ (fun w h Y => PySem.W.kIn_of Y) ?F (fun _ H a ns hl _ hS => BT.law_start hl hS)
  case F =>
    intro w mg fa h KX G hmg
    refine' BT.all_mk KX G hmg ?a0 ?l0 ?c0 ?k0 ?a1 ?l1 ?c1 ?k1 ?a2 ?l2 ?c2 ?k2 ?a3 ?l3 ?c3 ?k3 ?a4 ?l4 ?c4 ?k4 ?a5 ?l5 ?c5 ?k5 ?a6 ?l6 ?c6 ?k6 ?a7 ?l7 ?c7 ?k7 ?a8 ?l8 ?c8 ?k8 ?a9 ?l9 ?c9 ?k9 ?a10 ?l10 ?c10 ?k10 ?a11 ?l11 ?c11 ?k11 ?a12 ?l12 ?c12 ?k12 ?a13 ?l13 ?c13 ?k13 ?a14 ?l14 ?c14 ?k14 ?a15 ?l15 ?c15 ?k15 ?a16 ?l16 ?c16 ?k16 ?a17 ?l17 ?c17 ?k17 ?z_all ?z_bool ?z_int ?z_isinstance ?z_len ?z_list ?z_max ?z_min ?z_range ?z_repr ?z_sorted ?z_tuple 
    (case a0 => k_is); (case l0 => k_is); (case c0 => k_is); (case k0 => k_is); (case a1 => k_is); (case l1 => k_is); (case c1 => k_is); (case k1 => k_is); (case a2 => k_is); (case l2 => k_is); (case c2 => k_is); (case k2 => k_is); (case a3 => k_is); (case l3 => k_is); (case c3 => k_is); (case k3 => k_is); (case a4 => k_is); (case l4 => k_is); (case c4 => k_is); (case k4 => k_is); (case a5 => k_is); (case l5 => k_is); (case c5 => k_is); (case k5 => k_is); (case a6 => k_is); (case l6 => k_is); (case c6 => k_is); (case k6 => k_is); (case a7 => k_is); (case l7 => k_is); (case c7 => k_is); (case k7 => k_is); (case a8 => k_is); (case l8 => k_is); (case c8 => k_is); (case k8 => k_is); (case a9 => k_is); (case l9 => k_is); (case c9 => k_is); (case k9 => k_is); (case a10 => k_is); (case l10 => k_is); (case c10 => k_is); (case k10 => k_is); (case a11 => k_is); (case l11 => k_is); (case c11 => k_is); (case k11 => k_is); (case a12 => k_is); (case l12 => k_is); (case c12 => k_is); (case k12 => k_is); (case a13 => k_is); (case l13 => k_is); (case c13 => k_is); (case k13 => k_is); (case a14 => k_is); (case l14 => k_is); (case c14 => k_is); (case k14 => k_is); (case a15 => k_is); (case l15 => k_is); (case c15 => k_is); (case k15 => k_is); (case a16 => k_is); (case l16 => k_is); (case c16 => k_is); (case k16 => k_is); (case a17 => k_is); (case l17 => k_is); (case c17 => k_is); (case k17 => k_is); (case z_all => k_is); (case z_bool => k_is); (case z_int => k_is); (case z_isinstance => k_is); (case z_len => k_is); (case z_list => k_is); (case z_max => k_is); (case z_min => k_is); (case z_range => k_is); (case z_repr => k_is); (case z_sorted => k_is); (case z_tuple => k_is)
