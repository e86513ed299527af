import PyProof.Rows.All
import Wide.All
import OpenK.AllK
import Wide.FinOn
import HandS.ForMost
import HandS.Exc
import HandS.TryOnly
import HandS.ExcOwn
import HandS.WordsExc
import HandS.Wide
import HandS.WideBits
import HandS.IsInst
import HandS.SortInts
import HandS.Style
import HandS.ExcIs
import HandS.ExcValue
import HandS.Conv
import HandS.Dict
import KE.DataMinMax
import HandS.RevRange
import HandS.More
import PyProof.SetRoads
import HandS.SetKeys
import HandS.TupAny
import HandS.NoneIn
import PyProof.EqKinds
import PyProof.FactsAll.dict
import HandS.ListItems
import PyProof.ReprRoads
import PyProof.ReprLen
import PyProof.Rows.StrJoinMade
import HandS.Set
import HandS.SetFor
import PySem.Challenge.RW_blindtouch_k43_whole_groves_by_a_model
set_option Elab.async false
set_option linter.all false
set_option maxRecDepth 100000
set_option maxHeartbeats 4000000
/-! KL: readings over what is known of the heap: a frozen part G, and cells M that may be written. -/
namespace BT
open PySem PySem.Spec L2
open PyProof.Rows hiding St

abbrev Mem := List (Addr × HO)
structure Hv (G : Hp) (M : Mem) (H : Hp) : Prop where
  ex : ∀ a o, G a = some o → H a = some o
  mu : ∀ x, x ∈ M → H x.1 = some x.2
  nd : (M.map (·.1)).Nodup
  dj : ∀ x, x ∈ M → G x.1 = none
def Fr (G : Hp) (M : Mem) (p : Addr) : Prop := G p = none ∧ ∀ x, x ∈ M → x.1 ≠ p
def At (G : Hp) (M : Mem) (a : Addr) (o : HO) : Prop := (a, o) ∈ M ∨ G a = some o
section
variable {G : Hp} {M : Mem} {H : Hp} {p a : Addr} {o o' : HO} {n : Nat}
theorem Hv.self (H : Hp) : Hv H [] H := ⟨fun _ _ h => h, fun _ h => (nomatch h), List.nodup_nil, fun _ h => (nomatch h)⟩
theorem Hv.fr (h : Hv G M H) (hp : H p = none) : Fr G M p := by
  refine ⟨?_, fun x hx e => ?_⟩
  · cases e : G p with
    | none => rfl
    | some o => rw [h.ex p o e] at hp; cases hp
  · have := h.mu x hx
    rw [e, hp] at this; cases this
theorem Hv.at (h : Hv G M H) (q : At G M a o) : H a = some o := by
  rcases q with q | q
  · exact h.mu _ q
  · exact h.ex _ _ q
theorem Hv.newM (h : Hv G M H) (hp : H p = none) : Hv G ((p, o) :: M) (upd H p o) := by
  have f := h.fr hp
  refine ⟨fun b u e => ?_, fun x hx => ?_, ?_, fun x hx => ?_⟩
  · rw [upd_ne (ne_of_none (h.ex b u e) hp)]; exact h.ex b u e
  · rcases List.mem_cons.mp hx with rfl | hx
    · exact upd_same
    · rw [upd_ne (f.2 x hx)]; exact h.mu x hx
  · rw [List.map_cons, List.nodup_cons]
    refine ⟨fun hm => ?_, h.nd⟩
    obtain ⟨x, hx, e⟩ := List.mem_map.mp hm
    exact f.2 x hx e
  · rcases List.mem_cons.mp hx with rfl | hx
    · exact f.1
    · exact h.dj x hx
theorem Hv.newG (h : Hv G M H) (hp : H p = none) : Hv (upd G p o) M (upd H p o) := by
  have f := h.fr hp
  refine ⟨fun b u e => ?_, fun x hx => ?_, h.nd, fun x hx => ?_⟩
  · by_cases hb : b = p
    · subst hb; rw [upd_same] at e ⊢; exact e
    · rw [upd_ne hb] at e ⊢; exact h.ex b u e
  · rw [upd_ne (f.2 x hx)]; exact h.mu x hx
  · rw [upd_ne (f.2 x hx)]; exact h.dj x hx
/-- an object that nobody knows of is laid: nothing known changes -/
theorem Hv.junk (h : Hv G M H) (hp : H p = none) : Hv G M (upd H p o) := by
  have f := h.fr hp
  refine ⟨fun b u e => ?_, fun x hx => ?_, h.nd, h.dj⟩
  · rw [upd_ne (ne_of_none (h.ex b u e) hp)]; exact h.ex b u e
  · rw [upd_ne (f.2 x hx)]; exact h.mu x hx
theorem Hv.get (h : Hv G M H) (hn : M[n]? = some (p, o)) : H p = some o := h.mu _ (List.mem_of_getElem? hn)
theorem map_set_fst : ∀ (M : Mem) (n : Nat) (p : Addr) (o o' : HO), M[n]? = some (p, o) → (M.set n (p, o')).map (·.1) = M.map (·.1)
  | [], _, _, _, _, h => by simp at h
  | x :: M, 0, p, o, o', h => by
    have e : x = (p, o) := by simpa using h
    subst e; rfl
  | x :: M, n + 1, p, o, o', h => by
    have e : M[n]? = some (p, o) := by simpa using h
    show x.1 :: (M.set n (p, o')).map (·.1) = _
    rw [map_set_fst M n p o o' e]; rfl
theorem nodup_at : ∀ (M : Mem) (n : Nat) (p : Addr) (o : HO) (x : Addr × HO) (m : Nat), (M.map (·.1)).Nodup → M[n]? = some (p, o) → M[m]? = some x → x.1 = p → m = n := by
  intro M n p o x m hd h1 h2 e
  have q1 : (M.map (·.1))[n]? = some p := by rw [List.getElem?_map, h1]; rfl
  have q2 : (M.map (·.1))[m]? = some p := by rw [List.getElem?_map, h2, ← e]; rfl
  obtain ⟨l1, e1⟩ := List.getElem?_eq_some_iff.mp q1
  obtain ⟨l2, e2⟩ := List.getElem?_eq_some_iff.mp q2
  exact (List.getElem_inj hd).mp (e2.trans e1.symm)
theorem Hv.set (h : Hv G M H) (hn : M[n]? = some (p, o)) : Hv G (M.set n (p, o')) (upd H p o') := by
  have hlt : n < M.length := (List.getElem?_eq_some_iff.mp hn).1
  refine ⟨fun b u e => ?_, fun x hx => ?_, ?_, fun x hx => ?_⟩
  · have : b ≠ p := fun z => by
      have q := h.dj _ (List.mem_of_getElem? hn)
      rw [z] at e
      rw [show G p = none from q] at e; cases e
    rw [upd_ne this]; exact h.ex b u e
  · obtain ⟨m, hm⟩ := List.getElem?_of_mem hx
    by_cases e : m = n
    · subst e
      rw [List.getElem?_set_self hlt] at hm
      cases hm
      exact upd_same
    · rw [List.getElem?_set_ne (Ne.symm e)] at hm
      have : x.1 ≠ p := fun z => e (nodup_at M n p o x m h.nd hn hm z)
      rw [upd_ne this]
      exact h.mu x (List.mem_of_getElem? hm)
  · rw [map_set_fst M n p o o' hn]; exact h.nd
  · have : x.1 ∈ M.map (·.1) := by
      rw [← map_set_fst M n p o o' hn]; exact List.mem_map.mpr ⟨x, hx, rfl⟩
    obtain ⟨y, hy, e⟩ := List.mem_map.mp this
    rw [← e]; exact h.dj y hy
/-- what is known may be forgotten, and what may be written may be frozen -/
def Wk (G : Hp) (M : Mem) (G' : Hp) (M' : Mem) : Prop := ∀ H, Hv G M H → Hv G' M' H
theorem Wk.refl : Wk G M G M := fun _ h => h
theorem Wk.trans {G1 G2 G3 : Hp} {M1 M2 M3 : Mem} (a : Wk G1 M1 G2 M2) (b : Wk G2 M2 G3 M3) : Wk G1 M1 G3 M3 := fun H h => b H (a H h)
theorem Wk.drop (M1 : Mem) {x : Addr × HO} {M2 : Mem} : Wk G (M1 ++ x :: M2) G (M1 ++ M2) := fun H h => by
  refine ⟨h.ex, fun y hy => h.mu y ?_, ?_, fun y hy => h.dj y ?_⟩
  · rcases List.mem_append.mp hy with q | q
    · exact List.mem_append.mpr (.inl q)
    · exact List.mem_append.mpr (.inr (List.mem_cons_of_mem _ q))
  · refine h.nd.sublist ?_
    simp
  · rcases List.mem_append.mp hy with q | q
    · exact List.mem_append.mpr (.inl q)
    · exact List.mem_append.mpr (.inr (List.mem_cons_of_mem _ q))
theorem Wk.drop0 {x : Addr × HO} : Wk G (x :: M) G M := Wk.drop []
theorem Wk.drop1 {x y : Addr × HO} : Wk G (y :: x :: M) G (y :: M) := Wk.drop [y]
theorem Wk.frz (M1 : Mem) {M2 : Mem} : Wk G (M1 ++ (p, o) :: M2) (upd G p o) (M1 ++ M2) := fun H h => by
  have hp : H p = some o := h.mu (p, o) (by simp)
  have hg : G p = none := h.dj (p, o) (by simp)
  have h2 := Wk.drop (G := G) M1 (x := (p, o)) (M2 := M2) H h
  refine ⟨fun b u e => ?_, h2.mu, h2.nd, fun x hx => ?_⟩
  · by_cases hb : b = p
    · subst hb; rw [upd_same] at e; cases e; exact hp
    · rw [upd_ne hb] at e; exact h.ex b u e
  · have : x.1 ≠ p := fun z => by
      have nd := h.nd
      rw [List.map_append, List.map_cons, List.nodup_append] at nd
      obtain ⟨n1, n2, n3⟩ := nd
      rcases List.mem_append.mp hx with q | q
      · exact n3 x.1 (List.mem_map.mpr ⟨x, q, rfl⟩) p (by simp) z
      · rw [List.nodup_cons] at n2
        exact n2.1 (by rw [← z]; exact List.mem_map.mpr ⟨x, q, rfl⟩)
    rw [upd_ne this]; exact h2.dj x hx
theorem Wk.frz0 : Wk G ((p, o) :: M) (upd G p o) M := Wk.frz []
theorem Wk.perm {M' : Mem} (e : M'.Perm M) : Wk G M G M' := fun H h =>
  ⟨h.ex, fun x hx => h.mu x (e.mem_iff.mp hx), (e.map _).nodup_iff.mpr h.nd, fun x hx => h.dj x (e.mem_iff.mp hx)⟩
theorem Wk.swap {x y : Addr × HO} : Wk G (x :: y :: M) G (y :: x :: M) := Wk.perm (List.Perm.swap x y M)
/-- less of the frozen part -/
theorem Wk.less {G' : Hp} (e : ∀ a o, G' a = some o → G a = some o) : Wk G M G' M := fun H h =>
  ⟨fun a o q => h.ex a o (e a o q), h.mu, h.nd, fun x hx => by
    cases q : G' x.1 with
    | none => rfl
    | some o => have := h.dj x hx; rw [e _ _ q] at this; cases this⟩
end

/-! ### extension of the frozen part -/
def Ex (G G' : Hp) : Prop := ∀ a o, G a = some o → G' a = some o
theorem Ex.refl {G : Hp} : Ex G G := fun _ _ h => h
theorem Ex.trans {G G1 G2 : Hp} (a : Ex G G1) (b : Ex G1 G2) : Ex G G2 := fun x o h => b x o (a x o h)
theorem Ex.new {G : Hp} {M : Mem} {p : Addr} {o : HO} (h : Fr G M p) : Ex G (upd G p o) := fun a u e => by
  rw [upd_ne (ne_of_none e h.1)]; exact e
theorem Ex.new' {G : Hp} {p : Addr} {o : HO} (h : G p = none) : Ex G (upd G p o) := fun a u e => by
  rw [upd_ne (ne_of_none e h)]; exact e
theorem ex_rd {H H' : Hp} {a : Addr} {u : HO} (e : Ex H H') (h : Rd H a u) : Rd H' a u := by
  rcases h with h | ⟨o, h⟩
  · exact .inl (e a _ h)
  · exact .inr ⟨o, e a _ h⟩
theorem ex_l {K : PySem.W.Frag} {H H' : Hp} {a : Addr} {xs : List V} (e : Ex H H') (h : SqL K H a xs) : SqL K H' a xs := by
  rcases h with h | h
  · exact .inl (ex_rd e h)
  · exact .inr h
theorem ex_t {K : PySem.W.Frag} {H H' : Hp} {a : Addr} {xs : List V} (e : Ex H H') (h : SqT K H a xs) : SqT K H' a xs := by
  rcases h with h | h
  · exact .inl (ex_rd e h)
  · exact .inr h
mutual
theorem ex_d {K : PySem.W.Frag} {H H' : Hp} (e : Ex H H') : ∀ (d : PyData) {v : V}, Dp K H v d → Dp K H' v d
  | _, _, .non => .non
  | _, _, .bl b => .bl b
  | _, _, .int b => .int b
  | _, _, .str b => .str b
  | .list ds, _, .lst s a => .lst (ex_l e s) (ex_ds e ds a)
  | .tuple ds, _, .tup s a => .tup (ex_t e s) (ex_ds e ds a)
theorem ex_ds {K : PySem.W.Frag} {H H' : Hp} (e : Ex H H') : ∀ (ds : List PyData) {vs : List V}, DpAll K H vs ds → DpAll K H' vs ds
  | _, _, .nil => .nil
  | d :: ds, _, .cons a b => .cons (ex_d e d a) (ex_ds e ds b)
end
/-- a list, a tuple that can be read -/
def LstAt (K : PySem.W.Frag) (G : Hp) (M : Mem) (a : Addr) (xs : List V) : Prop := (a, HO.lst xs) ∈ M ∨ SqL K G a xs
def SeqAt' (K : PySem.W.Frag) (G : Hp) (M : Mem) (a : Addr) (xs : List V) : Prop := LstAt K G M a xs ∨ SqT K G a xs
/-- data that can be read -/
def DatAt (K : PySem.W.Frag) (G : Hp) (M : Mem) (v : V) (d : PyData) : Prop := ∀ H, Hv G M H → Dp K H v d
section
variable {K : PySem.W.Frag} {G : Hp} {M : Mem} {H : Hp} {a : Addr} {xs : List V}
theorem Hv.exx (h : Hv G M H) : Ex G H := h.ex
theorem Hv.lst (h : Hv G M H) (q : LstAt K G M a xs) : SqL K H a xs := by
  rcases q with q | q
  · exact .inl (.inl (h.mu _ q))
  · exact ex_l h.exx q
theorem Hv.tup (h : Hv G M H) (q : SqT K G a xs) : SqT K H a xs := ex_t h.exx q
theorem Hv.dat (h : Hv G M H) {v : V} {d : PyData} (q : DatAt K G M v d) : Dp K H v d := q H h
end

/-! ### judgements -/
abbrev KR := V → Hp → Mem → Prop
abbrev KX := Value → Option Addr → Hp → Mem → Prop
abbrev KK (α : Type) := St → Hp → Mem → (α → Hp → Mem → Prop) → KX → Prop
abbrev KE := KK V
abbrev KA := KK (List V)
abbrev KT := KK Bool
def upG {α : Type} (W : WX) (t : KK α) : St → Hp → (α → Hp → Prop) → Prop := fun σ H Q =>
  ∃ G M R E, Hv G M H ∧ t σ G M R E ∧ (∀ v G' M' H', Hv G' M' H' → R v G' M' → Q v H') ∧ (∀ c d G' M' H', Hv G' M' H' → E c d G' M' → W c d σ H')
def JE (X : Cx) (W : WX) (e : Expr) (t : KE) : Prop := PE X e (upG W t)
def JT (X : Cx) (W : WX) (e : Expr) (t : KT) : Prop := PT X e (upG W t)
def JW (X : Cx) (W : WX) (e : Expr) (t : KT) : Prop := PW X e (upG W t)
def JA (X : Cx) (W : WX) (es : List Expr) (t : KA) : Prop := PA X es (upG W t)
theorem pe_mono {X : Cx} {e : Expr} {t t' : TE} (h : PE X e t) (i : ∀ σ H Q, t' σ H Q → t σ H Q) : PE X e t' := ⟨fun pins s σ H Q I q => h.run pins s σ H Q I (i σ H Q q)⟩
theorem pt_mono {X : Cx} {e : Expr} {t t' : TT} (h : PT X e t) (i : ∀ σ H Q, t' σ H Q → t σ H Q) : PT X e t' := ⟨fun pins s σ H Q I q => h.run pins s σ H Q I (i σ H Q q)⟩
theorem pw_mono {X : Cx} {e : Expr} {t t' : TT} (h : PW X e t) (i : ∀ σ H Q, t' σ H Q → t σ H Q) : PW X e t' := ⟨fun wh pins s σ H Q I q => h.run wh pins s σ H Q I (i σ H Q q)⟩
theorem pa_mono {X : Cx} {e : List Expr} {t t' : TA} (h : PA X e t) (i : ∀ σ H Q, t' σ H Q → t σ H Q) : PA X e t' := ⟨fun pos pins s σ H Q I q => h.run pos pins s σ H Q I (i σ H Q q)⟩

section
variable {X : Cx} {W : WX} {pos : Pos}
/-- names, constants -/
def kVar (i : Nat) : KE := fun σ G M R _ => match σ[i]? with
  | some (some v) => R v G M
  | _ => False
def kC (v : V) : KE := fun _ G M R _ => R v G M
theorem je_var (i : Nat) {x : Str} (hN : X.N[i]? = some x := by rfl) (hv : Vis X.env.scope x := by first | exact Or.inl rfl | exact Or.inr (Or.inl rfl) | exact Or.inr (Or.inr rfl)) (hd : (x == ("__debug__" : Str)) = false := by decide)
    (hcd : (x == ("__classdict__" : Str)) = false := by decide) : JE X W (.Name x pos) (kVar i) := pe_mono (pe_var hN hv hd hcd) fun σ H Q ⟨G, M, R, E, hv, h, hR, _⟩ => by
  unfold kVar at h
  split at h
  · rename_i v e
    exact ⟨v, e, hR v G M H hv h⟩
  · exact h.elim
theorem je_c {e : Expr} {v : V} (h : PE X e (tC v)) : JE X W e (kC v) := pe_mono h fun σ H Q ⟨G, M, R, E, hv, h, hR, _⟩ => hR v G M H hv h
theorem je_int {i : Int} {j pos} : JE X W (.Constant (.int i) j pos) (kC (.int i)) := je_c pe_int
theorem je_bl {i : Bool} {j pos} : JE X W (.Constant (.bool i) j pos) (kC (.bl i)) := je_c pe_bl
theorem je_non {j pos} : JE X W (.Constant .none j pos) (kC .non) := je_c pe_non
theorem je_str {i : Str} {j pos} : JE X W (.Constant (.str i) j pos) (kC (.str i)) := je_c pe_str
/-- two in a row -/
def kBin {β : Type} (k : V → V → Hp → Mem → (β → Hp → Mem → Prop) → Prop) (ta tb : KE) : KK β := fun σ G M R E => ta σ G M (fun x G M => tb σ G M (fun y G M => k x y G M R) E) E
abbrev KR2 := V → V → Hp → Mem → KR → Prop
def KOp (X : Cx) (f : Value → Value → Sem Value) (k : KR2) : Prop :=
  ∀ (pins : List (Addr × Obj)) (s : Shared) (σ : St) (H : Hp) (x y : V) (v u : Value) (Q : VK) (G : Hp) (M : Mem) (R : KR), Inv X pins σ H s → RelV x v → RelV y u → Hv G M H → k x y G M R →
    (∀ v G' M' H', Hv G' M' H' → R v G' M' → Q v H') → wpAny (model X.prog X.w) X.A (f v u) (EP X pins σ Q) X.xe s
theorem kop_of {f : Value → Value → Sem Value} {r : R2} {k : KR2} (ho : OpR X f r)
    (s : ∀ x y G M R H Q, Hv G M H → k x y G M R → (∀ v G' M' H', Hv G' M' H' → R v G' M' → Q v H') → r x y H Q) : KOp X f k :=
  fun pins st σ H x y v u Q G M R I rx ry hv h hR => ho pins st σ H x y v u Q I rx ry (s x y G M R H Q hv h hR)
/-- an OpR whose reading is: it holds of k in some knowledge -/
def rUp (k : KR2) : R2 := fun x y H Q => ∃ G M R, Hv G M H ∧ k x y G M R ∧ ∀ v G' M' H', Hv G' M' H' → R v G' M' → Q v H'
theorem KOp.opr {f : Value → Value → Sem Value} {k : KR2} (h : KOp X f k) : OpR X f (rUp k) := fun pins s σ H x y v u Q I rx ry ⟨G, M, R, hv, hk, hR⟩ => h pins s σ H x y v u Q G M R I rx ry hv hk hR
theorem bin_sim {ta tb : KE} {k : KR2} {σ : St} {H : Hp} {Q : VK} (h : upG W (kBin k ta tb) σ H Q) : tOp (rUp k) (upG W ta) (upG W tb) σ H Q := by
  obtain ⟨G, M, R, E, hv, h, hR, hE⟩ := h
  exact ⟨G, M, _, E, hv, h, fun x G1 M1 H1 hv1 h1 => ⟨G1, M1, _, E, hv1, h1, fun y G2 M2 H2 hv2 h2 => ⟨G2, M2, R, hv2, h2, hR⟩, hE⟩, hE⟩
theorem je_op {a b : Expr} {op : Operator} {k : KR2} {ta tb : KE} (ho : KOp X (binaryOp op) k) (ha : JE X W a ta) (hb : JE X W b tb) : JE X W (.BinOp a op b pos) (kBin k ta tb) :=
  pe_mono (pe_op ho.opr ha hb) fun _ _ _ h => bin_sim h
theorem je_cmp {a b : Expr} {op : CmpOp} {k : KR2} {ta tb : KE} (ho : KOp X (compareOp op) k) (ha : JE X W a ta) (hb : JE X W b tb) (hm : behindInMarks op b = false) : JE X W (.Compare a [op] [b] pos) (kBin k ta tb) :=
  pe_mono (pe_cmpR ho.opr ha hb hm) fun _ _ _ h => bin_sim h
/-- a value as a test -/
def asB (R : Bool → Hp → Mem → Prop) : KR := fun v G M => match v with
  | .bl b => R b G M
  | _ => False
def kT (t : KE) : KT := fun σ G M R E => t σ G M (asB R) E
theorem asB_of {R : Bool → Hp → Mem → Prop} {v : V} {G : Hp} {M : Mem} (h : asB R v G M) : ∃ c, v = .bl c ∧ R c G M := by
  cases v <;> first | exact ⟨_, rfl, h⟩ | exact h.elim
theorem t_sim {t : KE} {σ : St} {H : Hp} {Q : Bool → Hp → Prop} (h : upG W (kT t) σ H Q) : tTest (upG W t) σ H Q := by
  obtain ⟨G, M, R, E, hv, h, hR, hE⟩ := h
  refine ⟨G, M, _, E, hv, h, fun v G1 M1 H1 hv1 h1 => ?_, hE⟩
  obtain ⟨c, rfl, h2⟩ := asB_of h1
  exact ⟨c, rfl, hR c G1 M1 H1 hv1 h2⟩
theorem jt_cmp {a b : Expr} {op : CmpOp} {k : KR2} {ta tb : KE} (ho : KOp X (compareOp op) k) (ha : JE X W a ta) (hb : JE X W b tb) (hm : behindInMarks op b = false) : JT X W (.Compare a [op] [b] pos) (kT (kBin k ta tb)) :=
  pt_mono (pt_cmpR ho.opr ha hb hm) fun σ H Q h => by
    have h2 := t_sim h
    exact bin_sim h2
theorem jt_val {e : Expr} {t : KE} (h : JE X W e t) (he : ∀ whole, isTrue e X.env whole = (do let v ← whole; standAt e.pos; holding [v] (truthy v)) := by intro _; rfl) : JT X W e (kT t) :=
  pt_mono (pt_val h he) fun σ H Q h => t_sim h
/-- chains -/
def kChain (k k' : KR2) (ta tb tc : KE) : KE := fun σ G M R E => ta σ G M (fun x G M => tb σ G M (fun y G M => k x y G M (asB fun c G M => if c = true then tc σ G M (fun z G M => k' y z G M R) E else R (.bl false) G M)) E) E
theorem chain_sim {ta tb tc : KE} {k k' : KR2} {σ : St} {H : Hp} {Q : VK} (h : upG W (kChain k k' ta tb tc) σ H Q) : tChain (rUp k) (rUp k') (upG W ta) (upG W tb) (upG W tc) σ H Q := by
  obtain ⟨G, M, R, E, hv, h, hR, hE⟩ := h
  refine ⟨G, M, _, E, hv, h, fun x G1 M1 H1 hv1 h1 => ⟨G1, M1, _, E, hv1, h1, fun y G2 M2 H2 hv2 h2 => ⟨G2, M2, _, hv2, h2, fun v G3 M3 H3 hv3 h3 => ?_⟩, hE⟩, hE⟩
  obtain ⟨c, rfl, h4⟩ := asB_of h3
  refine ⟨c, rfl, ?_⟩
  cases c with
  | true =>
    rw [if_pos rfl] at h4 ⊢
    exact ⟨G3, M3, _, E, hv3, h4, fun z G4 M4 H4 hv4 h5 => ⟨G4, M4, R, hv4, h5, hR⟩, hE⟩
  | false =>
    rw [if_neg Bool.false_ne_true] at h4 ⊢
    exact hR _ G3 M3 H3 hv3 h4
theorem je_chain {a b c : Expr} {op op' : CmpOp} {k k' : KR2} {ta tb tc : KE} (ho : KOp X (compareOp op) k) (ho' : KOp X (compareOp op') k') (ha : JE X W a ta) (hb : JE X W b tb) (hc : JE X W c tc)
    (hm : lastMarks [op, op'] [b, c] = false := by with_unfolding_all rfl) : JE X W (.Compare a [op, op'] [b, c] pos) (kChain k k' ta tb tc) := pe_mono (pe_chain ho.opr ho'.opr ha hb hc hm) fun _ _ _ h => chain_sim h
/-- and, or, not -/
def kAnd (t u : KT) : KT := fun σ G M R E => t σ G M (fun c G M => if c = true then u σ G M R E else R false G M) E
def kOr (t u : KT) : KT := fun σ G M R E => t σ G M (fun c G M => if c = true then R true G M else u σ G M R E) E
def kNot (t : KT) : KT := fun σ G M R E => t σ G M (fun c G M => R (!c) G M) E
def kAndV (t u : KE) : KE := fun σ G M R E => t σ G M (asB fun c G M => if c = true then u σ G M R E else R (.bl false) G M) E
def kNotV (t : KE) : KE := fun σ G M R E => t σ G M (asB fun c G M => R (.bl (!c)) G M) E
variable {a b : Expr} {rest : List Expr}
theorem jw_and1 {t : KT} (h : JT X W a t) : JW X W (.BoolOp .And [a] pos) t := pw_and1 h
theorem jw_or1 {t : KT} (h : JT X W a t) : JW X W (.BoolOp .Or [a] pos) t := pw_or1 h
theorem jw_and {t u : KT} (ha : JT X W a t) (hb : JW X W (.BoolOp .And (b :: rest) pos) u) : JW X W (.BoolOp .And (a :: b :: rest) pos) (kAnd t u) :=
  pw_mono (pw_and ha hb) fun σ H Q ⟨G, M, R, E, hv, h, hR, hE⟩ => ⟨G, M, _, E, hv, h, fun c G1 M1 H1 hv1 h1 => by
    cases c with
    | true => rw [if_pos rfl] at h1 ⊢; exact ⟨G1, M1, R, E, hv1, h1, hR, hE⟩
    | false => rw [if_neg Bool.false_ne_true] at h1 ⊢; exact hR _ G1 M1 H1 hv1 h1, hE⟩
theorem jw_or {t u : KT} (ha : JT X W a t) (hb : JW X W (.BoolOp .Or (b :: rest) pos) u) : JW X W (.BoolOp .Or (a :: b :: rest) pos) (kOr t u) :=
  pw_mono (pw_or ha hb) fun σ H Q ⟨G, M, R, E, hv, h, hR, hE⟩ => ⟨G, M, _, E, hv, h, fun c G1 M1 H1 hv1 h1 => by
    cases c with
    | true => rw [if_pos rfl] at h1 ⊢; exact hR _ G1 M1 H1 hv1 h1
    | false => rw [if_neg Bool.false_ne_true] at h1 ⊢; exact ⟨G1, M1, R, E, hv1, h1, hR, hE⟩, hE⟩
theorem JW.jt {e : Expr} {t : KT} (h : JW X W e t) : JT X W e t := PW.pt h
theorem jt_not {t : KT} (h : JT X W a t) : JT X W (.UnaryOp .Not a pos) (kNot t) :=
  pt_mono (pt_not h) fun σ H Q ⟨G, M, R, E, hv, h, hR, hE⟩ => ⟨G, M, _, E, hv, h, fun c G1 M1 H1 hv1 h1 => hR _ G1 M1 H1 hv1 h1, hE⟩
theorem je_one {op} {t : KE} (h : JE X W a t) : JE X W (.BoolOp op [a] pos) t := pe_one h
theorem je_and {t u : KE} (ha : JE X W a t) (hb : JE X W (.BoolOp .And (b :: rest) pos) u) : JE X W (.BoolOp .And (a :: b :: rest) pos) (kAndV t u) :=
  pe_mono (pe_and ha hb) fun σ H Q ⟨G, M, R, E, hv, h, hR, hE⟩ => ⟨G, M, _, E, hv, h, fun v G1 M1 H1 hv1 h1 => by
    obtain ⟨c, rfl, h2⟩ := asB_of h1
    refine ⟨c, rfl, ?_⟩
    cases c with
    | true => rw [if_pos rfl] at h2 ⊢; exact ⟨G1, M1, R, E, hv1, h2, hR, hE⟩
    | false => rw [if_neg Bool.false_ne_true] at h2 ⊢; exact hR _ G1 M1 H1 hv1 h2, hE⟩
theorem je_not {t : KE} (h : JE X W a t) : JE X W (.UnaryOp .Not a pos) (kNotV t) :=
  pe_mono (pe_not h) fun σ H Q ⟨G, M, R, E, hv, h, hR, hE⟩ => ⟨G, M, _, E, hv, h, fun v G1 M1 H1 hv1 h1 => by
    obtain ⟨c, rfl, h2⟩ := asB_of h1
    exact ⟨c, rfl, hR _ G1 M1 H1 hv1 h2⟩, hE⟩
/-- a if c else b -/
def kIte (t : KT) (ta tb : KE) : KE := fun σ G M R E => t σ G M (fun c G M => if c = true then ta σ G M R E else tb σ G M R E) E
end
end BT
set_option Elab.async false
set_option linter.all false
set_option maxRecDepth 100000
set_option maxHeartbeats 4000000
namespace BT
open PySem PySem.Spec L2
open PyProof.Rows hiding St
section
variable {X : Cx} {W : WX} {pos : Pos} {a b c e : Expr} {es : List Expr}
theorem je_ite {t : KT} {ta tb : KE} (hc : JT X W c t) (ha : JE X W a ta) (hb : JE X W b tb) : JE X W (.IfExp c a b pos) (kIte t ta tb) :=
  pe_mono (pe_ifExp hc ha hb) fun σ H Q ⟨G, M, R, E, hv, h, hR, hE⟩ => ⟨G, M, _, E, hv, h, fun c G1 M1 H1 hv1 h1 => by
    cases c with
    | true => rw [if_pos rfl] at h1 ⊢; exact ⟨G1, M1, R, E, hv1, h1, hR, hE⟩
    | false => rw [if_neg Bool.false_ne_true] at h1 ⊢; exact ⟨G1, M1, R, E, hv1, h1, hR, hE⟩, hE⟩
/-! ### arguments, displays -/
def kNil : KA := fun _ G M R _ => R [] G M
def kCons (t : KE) (u : KA) : KA := fun σ G M R E => t σ G M (fun x G M => u σ G M (fun xs G M => R (x :: xs) G M) E) E
theorem ja_nil : JA X W [] kNil := pa_mono pa_nil fun σ H Q ⟨G, M, R, E, hv, h, hR, _⟩ => hR _ G M H hv h
theorem ja_cons {t : KE} {u : KA} (ha : JE X W e t) (hr : JA X W es u) (hs : starEach (e :: es) X.env = (false, eval e X.env) :: starEach es X.env := by rfl) : JA X W (e :: es) (kCons t u) :=
  pa_mono (pa_cons ha hr hs) fun σ H Q ⟨G, M, R, E, hv, h, hR, hE⟩ => ⟨G, M, _, E, hv, h, fun x G1 M1 H1 hv1 h1 => ⟨G1, M1, _, E, hv1, h1, fun xs G2 M2 H2 hv2 h2 => hR _ G2 M2 H2 hv2 h2, hE⟩, hE⟩
def kLst (t : KA) : KE := fun σ G M R E => t σ G M (fun xs G M => xs.length ≤ sizeLine ∧ ∀ p, Fr G M p → R (.ref p) G ((p, .lst xs) :: M)) E
def kTup (t : KA) : KE := fun σ G M R E => t σ G M (fun xs G M => xs.length ≤ sizeLine ∧ ∀ p, Fr G M p → R (.ref p) (upd G p (.tup xs)) M) E
theorem je_lst {t : KA} (h : JA X W es t) : JE X W (.List es pos) (kLst t) :=
  pe_mono (pe_lst h) fun σ H Q ⟨G, M, R, E, hv, h, hR, hE⟩ => ⟨G, M, _, E, hv, h, fun xs G1 M1 H1 hv1 h1 => ⟨h1.1, fun p hp => hR _ G1 _ _ (hv1.newM hp) (h1.2 p (hv1.fr hp))⟩, hE⟩
theorem je_tup {t : KA} {k : Nat} (h : JA X W es t) : JE X W (.Tuple es k pos) (kTup t) :=
  pe_mono (pe_tup h) fun σ H Q ⟨G, M, R, E, hv, h, hR, hE⟩ => ⟨G, M, _, E, hv, h, fun xs G1 M1 H1 hv1 h1 => ⟨h1.1, fun p hp => hR _ _ M1 _ (hv1.newG hp) (h1.2 p (hv1.fr hp))⟩, hE⟩
/-! ### operators -/
def kAdd : KR2 := fun x y G M R => match x, y with
  | .int i, .int j => R (.int (i + j)) G M
  | .str i, .str j => i.length + j.length ≤ sizeLine ∧ R (.str (i ++ j)) G M
  | .ref a, .ref b => ∃ xs ys, At G M a (.lst xs) ∧ At G M b (.lst ys) ∧ xs.length + ys.length ≤ sizeLine ∧ ∀ p, Fr G M p → R (.ref p) G ((p, .lst (xs ++ ys)) :: M)
  | _, _ => False
theorem kop_add : KOp X (binaryOp .Add) kAdd := fun pins s σ H x y v u Q G M R I rx ry hv h hR => by
  cases x <;> cases y <;> first
    | exact op_add pins s σ H _ _ v u Q I rx ry ⟨_, _, rfl, rfl, hR _ G M H hv h⟩
    | exact op_add_str pins s σ H _ _ v u Q I rx ry ⟨_, _, rfl, rfl, h.1, hR _ G M H hv h.2⟩
    | (obtain ⟨xs, ys, h1, h2, h3, h4⟩ := h
       exact op_cat pins s σ H _ _ v u Q I rx ry ⟨_, _, xs, ys, rfl, rfl, hv.at h1, hv.at h2, h3, fun p hp => hR _ G _ _ (hv.newM hp) (h4 p (hv.fr hp))⟩)
    | exact h.elim
def kI (C : Int → Int → Prop) (g : Int → Int → V) : KR2 := fun x y G M R => match x, y with
  | .int i, .int j => C i j ∧ R (g i j) G M
  | _, _ => False
def kI0 (g : Int → Int → V) : KR2 := fun x y G M R => match x, y with
  | .int i, .int j => R (g i j) G M
  | _, _ => False
theorem kop_I {f : Value → Value → Sem Value} {C : Int → Int → Prop} {g : Int → Int → V} (h : OpR X f (rI C g)) : KOp X f (kI C g) := kop_of h fun x y G M R H Q hv h hR => by
  cases x <;> cases y <;> first
    | exact ⟨_, _, rfl, rfl, h.1, hR _ G M H hv h.2⟩
    | exact h.elim
theorem kop_I0 {f : Value → Value → Sem Value} {g : Int → Int → V} (h : OpR X f (rI0 g)) : KOp X f (kI0 g) := kop_of h fun x y G M R H Q hv h hR => by
  cases x <;> cases y <;> first
    | exact ⟨_, _, rfl, rfl, hR _ G M H hv h⟩
    | exact h.elim
/-- sizes of products, quotients -/
def MulOk (i j : Int) : Prop := CMul i j ∨ CMulW i j
theorem kop_sub : KOp X (binaryOp .Sub) (kI0 fun i j => .int (i - j)) := kop_I0 op_sub
/-- a product of ints, a list repeated -/
def kMul : KR2 := fun x y G M R => match x, y with
  | .int i, .int j => MulOk i j ∧ R (.int (i * j)) G M
  | .ref a, .int k => ∃ xs, At G M a (.lst xs) ∧ -(2 ^ 63) ≤ k ∧ k < 2 ^ 63 ∧ xs.length * k.toNat ≤ sizeLine ∧ ∀ p, Fr G M p → R (.ref p) G ((p, .lst (List.replicate k.toNat xs).flatten) :: M)
  | _, _ => False
theorem kop_mul : KOp X (binaryOp .Mult) kMul := fun pins s σ H x y v u Q G M R I rx ry hv h hR => by
  cases x <;> cases y <;> first
    | (obtain ⟨hc, h⟩ := h
       rcases hc with hc | hc
       · exact op_mul pins s σ H _ _ v u Q I rx ry ⟨_, _, rfl, rfl, hc, hR _ G M H hv h⟩
       · exact op_mulW pins s σ H _ _ v u Q I rx ry ⟨_, _, rfl, rfl, hc, hR _ G M H hv h⟩)
    | (obtain ⟨xs, h1, h2, h3, h4, h5⟩ := h
       exact op_rep pins s σ H _ _ v u Q I rx ry ⟨_, _, xs, rfl, rfl, hv.at h1, h2, h3, h4, fun p hp => hR _ G _ _ (hv.newM hp) (h5 p (hv.fr hp))⟩)
    | exact h.elim
theorem kop_mod : KOp X (binaryOp .Mod) (kI (fun _ j => 0 < j) fun i j => .int (i % j)) := kop_I op_mod
theorem kop_fdiv : KOp X (binaryOp .FloorDiv) (kI CDivW fun i j => .int (i / j)) := kop_I op_fdivW
theorem kop_pow : KOp X (binaryOp .Pow) (kI CPow fun i j => .int (i ^ j.toNat)) := kop_I op_pow
theorem kop_shl : KOp X (binaryOp .LShift) (kI CPow fun i j => .int (i * 2 ^ j.toNat)) := kop_I op_shl
theorem kop_shr : KOp X (binaryOp .RShift) (kI (fun _ j => 0 ≤ j) fun i j => .int (i / 2 ^ j.toNat)) := kop_I op_shr
theorem kop_lt : KOp X (compareOp .Lt) (kI0 fun i j => .bl (decide (i < j))) := kop_I0 op_lt
theorem kop_le : KOp X (compareOp .LtE) (kI0 fun i j => .bl (decide (i ≤ j))) := kop_I0 op_le
theorem kop_gt : KOp X (compareOp .Gt) (kI0 fun i j => .bl (decide (j < i))) := kop_I0 op_gt
/-- equality: of plain values at once, of data by what they hold -/
def kEqv (neg : Bool) (K : PySem.W.Frag) : KR2 := fun x y G M R =>
  match scal x y with
  | true => R (.bl (if neg then !decide (x = y) else decide (x = y))) G M
  | false => ∃ d e, DatAt K G M x d ∧ DatAt K G M y e ∧ SeqAt.shaped d = true ∧ SeqAt.shaped e = true ∧ R (.bl (if neg then !PyData.eqv d e else PyData.eqv d e)) G M
theorem kop_eq (hu : X.A.units + 64 < cLine) : KOp X (compareOp .Eq) (kEqv false X.K) := fun pins s σ H x y v u Q G M R I rx ry hv h hR => by
  unfold kEqv at h
  split at h
  · rename_i e
    exact op_eq pins s σ H _ _ v u Q I rx ry ⟨e, hR _ G M H hv h⟩
  · obtain ⟨d, e, h1, h2, h3, h4, h5⟩ := h
    exact op_eqD hu pins s σ H _ _ v u Q I rx ry ⟨d, e, hv.dat h1, hv.dat h2, h3, h4, hR _ G M H hv h5⟩
theorem kop_ne (hu : X.A.units + 64 < cLine) : KOp X (compareOp .NotEq) (kEqv true X.K) := fun pins s σ H x y v u Q G M R I rx ry hv h hR => by
  unfold kEqv at h
  split at h
  · rename_i e
    exact op_ne pins s σ H _ _ v u Q I rx ry ⟨e, hR _ G M H hv h⟩
  · obtain ⟨d, e, h1, h2, h3, h4, h5⟩ := h
    exact op_neD hu pins s σ H _ _ v u Q I rx ry ⟨d, e, hv.dat h1, hv.dat h2, h3, h4, hR _ G M H hv h5⟩
def kUn (k : V → Hp → Mem → KR → Prop) (t : KE) : KE := fun σ G M R E => t σ G M (fun x G M => k x G M R) E
def kNeg : V → Hp → Mem → KR → Prop := fun x G M R => match x with
  | .int i => R (.int (-i)) G M
  | _ => False
theorem je_neg {t : KE} (h : JE X W a t) : JE X W (.UnaryOp .USub a pos) (kUn kNeg t) :=
  pe_mono (pe_un un_neg h) fun σ H Q ⟨G, M, R, E, hv, h, hR, hE⟩ => ⟨G, M, _, E, hv, h, fun x G1 M1 H1 hv1 h1 => by
    cases x <;> first
      | exact ⟨_, rfl, hR _ G1 M1 H1 hv1 h1⟩
      | exact h1.elim, hE⟩
/-! ### subscripts, slices -/
def kIx (K : PySem.W.Frag) : KR2 := fun x y G M R => match x, y with
  | .ref a, .int i => ∃ xs v, SeqAt' K G M a xs ∧ atI xs i = some v ∧ R v G M
  | .str z, .int i => ∃ c, z.length ≤ sizeLine ∧ atI z.cps.toList i = some c ∧ R (.str ⟨#[c]⟩) G M
  | _, _ => False
theorem ix_k : IxR X (rUp (kIx X.K)) := fun value slice pins s σ H x y v u Q I rx ry ⟨G, M, R, hv, h, hR⟩ hs => by
  cases x <;> cases y <;> first
    | (obtain ⟨xs, w, h1, h2, h3⟩ := h
       rcases h1 with h1 | h1
       · exact ix_list value slice pins s σ H _ _ v u Q I rx ry ⟨_, xs, _, w, rfl, rfl, hv.lst h1, h2, hR _ G M H hv h3⟩ hs
       · exact ix_tup value slice pins s σ H _ _ v u Q I rx ry ⟨_, xs, _, w, rfl, rfl, hv.tup h1, h2, hR _ G M H hv h3⟩ hs)
    | (obtain ⟨c, h1, h2, h3⟩ := h
       exact ix_str value slice pins s σ H _ _ v u Q I rx ry ⟨_, _, c, rfl, rfl, h1, h2, hR _ G M H hv h3⟩ hs)
    | exact h.elim
theorem je_ix {ta tb : KE} (ha : JE X W a ta) (hb : JE X W b tb) (hs : PlainIx b := by exact fun _ _ => rfl) : JE X W (.Subscript a b pos) (kBin (kIx X.K) ta tb) :=
  pe_mono (pe_ix ix_k ha hb hs) fun _ _ _ h => bin_sim h
abbrev KO := KK (Option Int)
def JO (X : Cx) (W : WX) (e : Option Expr) (t : KO) : Prop := PO X e (upG W t)
theorem po_mono {X : Cx} {e : Option Expr} {t t' : TO} (h : PO X e t) (i : ∀ σ H Q, t' σ H Q → t σ H Q) : PO X e t' := ⟨fun pins s σ H Q I q => h.run pins s σ H Q I (i σ H Q q)⟩
def kNoP : KO := fun _ G M R _ => R none G M
def asI (R : Option Int → Hp → Mem → Prop) : KR := fun v G M => match v with
  | .int i => R (some i) G M
  | _ => False
def kPart (t : KE) : KO := fun σ G M R E => t σ G M (asI R) E
theorem jo_none : JO X W none kNoP := po_mono po_none fun σ H Q ⟨G, M, R, E, hv, h, hR, _⟩ => hR _ G M H hv h
theorem jo_some {t : KE} (h : JE X W e t) : JO X W (some e) (kPart t) := po_mono (po_some h) fun σ H Q ⟨G, M, R, E, hv, h, hR, hE⟩ => ⟨G, M, _, E, hv, h, fun v G1 M1 H1 hv1 h1 => by
    cases v <;> first
      | exact ⟨_, rfl, hR _ G1 M1 H1 hv1 h1⟩
      | exact h1.elim, hE⟩
/-- xs[lo:hi] of a list -/
def kSl (K : PySem.W.Frag) (t : KE) (tl th : KO) : KE := fun σ G M R E => t σ G M (fun x G M => tl σ G M (fun l G M => th σ G M (fun u G M => match x with
  | .ref a => ∃ xs, LstAt K G M a xs ∧ ∀ p, Fr G M p → R (.ref p) G ((p, .lst (cutV xs l u)) :: M)
  | _ => False) E) E) E
theorem je_slice {t : KE} {lo hi : Option Expr} {tl th : KO} {p2 : Pos} (he : JE X W e t) (hl : JO X W lo tl) (hu : JO X W hi th) : JE X W (.Subscript e (.Slice lo hi none p2) pos) (kSl X.K t tl th) :=
  pe_mono (pe_slice sl_list he hl hu) fun σ H Q ⟨G, M, R, E, hv, h, hR, hE⟩ => ⟨G, M, _, E, hv, h, fun x G1 M1 H1 hv1 h1 => ⟨G1, M1, _, E, hv1, h1, fun l G2 M2 H2 hv2 h2 => ⟨G2, M2, _, E, hv2, h2, fun u G3 M3 H3 hv3 h3 => by
    cases x <;> first
      | (obtain ⟨xs, q1, q2⟩ := h3
         exact ⟨_, xs, rfl, hv3.lst q1, fun p hp => hR _ G3 _ _ (hv3.newM hp) (q2 p (hv3.fr hp))⟩)
      | exact h3.elim, hE⟩, hE⟩, hE⟩
/-! ### calls of built-ins -/
abbrev KC := List V → Hp → Mem → KR → Prop
def rUpC (k : KC) : List V → Hp → VK → Prop := fun vs H Q => ∃ G M R, Hv G M H ∧ k vs G M R ∧ ∀ v G' M' H', Hv G' M' H' → R v G' M' → Q v H'
def kCB (k : KC) (t : KA) : KE := fun σ G M R E => t σ G M (fun vs G M => k vs G M R) E
def KCall (X : Cx) (f : Value) (k : KC) : Prop := CallR X f (rUpC k)
theorem kcall_of {f : Value} {r : List V → Hp → VK → Prop} {k : KC} (h : CallR X f r)
    (s : ∀ vs G M R H Q, Hv G M H → k vs G M R → (∀ v G' M' H', Hv G' M' H' → R v G' M' → Q v H') → r vs H Q) : KCall X f k :=
  fun pins st σ H xs us Q I rv ⟨G, M, R, hv, hk, hR⟩ => h pins st σ H xs us Q I rv (s xs G M R H Q hv hk hR)
theorem cb_sim {t : KA} {k : KC} {σ : St} {H : Hp} {Q : VK} (h : upG W (kCB k t) σ H Q) : tCB (rUpC k) (upG W t) σ H Q := by
  obtain ⟨G, M, R, E, hv, h, hR, hE⟩ := h
  exact ⟨G, M, _, E, hv, h, fun vs G1 M1 H1 hv1 h1 => ⟨G1, M1, R, hv1, h1, hR⟩, hE⟩
variable {x : Str} {p : Pos} {id T : String}
theorem je_callB {k : KC} {t : KA} (hc : KCall X (.builtin id) k) (hm : X.mg x = none) (ha : JA X W (e :: es) t) (hv : bootBuiltins x = some (.builtin id) := by decide +kernel) (hg : Gl X x := by rfl) (hn : x ≠ "__name__" := by decide) (hdb : (x == ("__debug__" : Str)) = false := by decide)
    (he : starEach (e :: es) X.env = (false, eval e X.env) :: starEach es X.env := by rfl) (hpl : (backTo pos (starEach es X.env)).any (·.1) = false := by rfl) : JE X W (.Call (.Name x p) (e :: es) [] pos) (kCB k t) :=
  pe_mono (pe_callB hc hg hm hv ha hn hdb he hpl) fun _ _ _ h => cb_sim h
theorem je_callTy {k : KC} {t : KA} (hc : KCall X (.type T) k) (hm : X.mg x = none) (ha : JA X W (e :: es) t) (hv : bootBuiltins x = some (.type T) := by decide +kernel) (hg : Gl X x := by rfl) (hn : x ≠ "__name__" := by decide) (hdb : (x == ("__debug__" : Str)) = false := by decide)
    (he : starEach (e :: es) X.env = (false, eval e X.env) :: starEach es X.env := by rfl) (hpl : (backTo pos (starEach es X.env)).any (·.1) = false := by rfl) : JE X W (.Call (.Name x p) (e :: es) [] pos) (kCB k t) :=
  pe_mono (pe_callTy hc hg hm hv ha hn hdb he hpl) fun _ _ _ h => cb_sim h
/-- a built-in type's name as a value -/
theorem je_ty {T : String} {x : Str} {pos : Pos} (hm : X.mg x = none) (hv : bootBuiltins x = some (.type T) := by decide +kernel) (hg : Gl X x := by rfl) (hn : x ≠ "__name__" := by decide) (hd : (x == ("__debug__" : Str)) = false := by decide) : JE X W (.Name x pos) (kC (.ty T)) :=
  je_c (pe_bltn hg hm hv rfl hn hd)
/-- a module's constant -/
theorem je_glob {x : Str} {v : V} {u : Value} {pos : Pos} (hm : X.mg x = some u) (r : RelV v u) (hg : Gl X x := by rfl) (hd : (x == ("__debug__" : Str)) = false := by decide) : JE X W (.Name x pos) (kC v) := je_c (pe_glob hg hm r hd)
def kLen (K : PySem.W.Frag) : KC := fun vs G M R => match vs with
  | [.ref a] => ∃ xs, SeqAt' K G M a xs ∧ R (.int xs.length) G M
  | _ => False
theorem kc_len : KCall X (.builtin "len") (kLen X.K) := kcall_of call_len_seq fun vs G M R H Q hv h hR => by
  match vs, h with
  | [.ref a], ⟨xs, h1, h2⟩ => exact ⟨a, xs, rfl, h1.elim (fun q => .inl (hv.lst q)) (fun q => .inr (hv.tup q)), hR _ G M H hv h2⟩
def kList (K : PySem.W.Frag) : KC := fun vs G M R => match vs with
  | [.ref a] => ∃ xs, SeqAt' K G M a xs ∧ ∀ p, Fr G M p → R (.ref p) G ((p, .lst xs) :: M)
  | _ => False
theorem kc_list : KCall X (.type "list") (kList X.K) := kcall_of call_list_of fun vs G M R H Q hv h hR => by
  match vs, h with
  | [.ref a], ⟨xs, h1, h2⟩ => exact ⟨a, xs, rfl, h1.elim (fun q => .inl (hv.lst q)) (fun q => .inr (hv.tup q)), fun p hp => hR _ G _ _ (hv.newM hp) (h2 p (hv.fr hp))⟩
def kMin2 : KC := fun vs G M R => match vs with
  | [.int i, .int j] => R (.int (min i j)) G M
  | _ => False
def kMax2 : KC := fun vs G M R => match vs with
  | [.int i, .int j] => R (.int (max i j)) G M
  | _ => False
theorem kc_min2 (hc : X.calm = true := by rfl) : KCall X (.builtin "min") kMin2 := kcall_of (call_min2 hc) fun vs G M R H Q hv h hR => by
  match vs, h with
  | [.int i, .int j], h =>
    refine ⟨i, j, rfl, ?_⟩
    have e : (if j < i then j else i) = min i j := by split <;> omega
    rw [e]
    exact hR _ G M H hv h
theorem kc_max2 (hc : X.calm = true := by rfl) : KCall X (.builtin "max") kMax2 := kcall_of (call_max2 hc) fun vs G M R H Q hv h hR => by
  match vs, h with
  | [.int i, .int j], h =>
    refine ⟨i, j, rfl, ?_⟩
    have e : (if j > i then j else i) = max i j := by split <;> omega
    rw [e]
    exact hR _ G M H hv h
def kAll (K : PySem.W.Frag) : KC := fun vs G M R => match vs with
  | [.ref a] => ∃ bs : List Bool, LstAt K G M a (bs.map V.bl) ∧ R (.bl (bs.all _root_.id)) G M
  | _ => False
theorem kc_all (hc : X.calm = true := by rfl) : KCall X (.builtin "all") (kAll X.K) := kcall_of (cr_all hc) fun vs G M R H Q hv h hR => by
  match vs, h with
  | [.ref a], ⟨ns, h1, h2⟩ => exact ⟨a, ns, rfl, hv.lst h1, hR _ G M H hv h2⟩
/-- isinstance(x, c) -/
def kIsi (K : PySem.W.Frag) : KC := fun vs G M R => match vs with
  | [x, c] => ∃ (t u : Value) (b : Bool), ClsV c u ∧ (∀ H, Hv G M H → TyX K H x t) ∧ PySem.W.kitOne K t u = some b ∧ R (.bl b) G M
  | _ => False
theorem kc_isi : KCall X (.builtin "isinstance") (kIsi X.K) := kcall_of call_isi fun vs G M R H Q hv h hR => by
  match vs, h with
  | [x, c], ⟨t, u, b, h1, h2, h3, h4⟩ => exact ⟨x, c, t, u, b, rfl, h1, h2 H hv, h3, hR _ G M H hv h4⟩
/-! ### methods of built-in types -/
abbrev KM := V → List V → Hp → Mem → KR → Prop
def rUpM (k : KM) : V → List V → Hp → VK → Prop := fun x vs H Q => ∃ G M R, Hv G M H ∧ k x vs G M R ∧ ∀ v G' M' H', Hv G' M' H' → R v G' M' → Q v H'
def KMt (X : Cx) (id : String) (k : KM) : Prop := MtR X id (rUpM k)
theorem kmt_of {r : V → List V → Hp → VK → Prop} {k : KM} (h : MtR X id r)
    (s : ∀ x vs G M R H Q, Hv G M H → k x vs G M R → (∀ v G' M' H', Hv G' M' H' → R v G' M' → Q v H') → r x vs H Q) : KMt X id k :=
  fun pins st σ H x xs v us Q I rx rv ⟨G, M, R, hv, hk, hR⟩ => h pins st σ H x xs v us Q I rx rv (s x xs G M R H Q hv hk hR)
def kBM (K : PySem.W.Frag) (T : String) (k : KM) (to : KE) (t : KA) : KE := fun σ G M R E => to σ G M (fun x G M => (∀ H, Hv G M H → tyV K T x H) ∧ t σ G M (fun vs G M => k x vs G M R) E) E
variable {o : Expr} {name : Str} {apos cpos : Pos}
theorem je_bm {k : KM} {to : KE} {t : KA} (pa : PlainAttrs T) (slot : Slot T name id) (hty : typeOf (.builtin id) = pure (.type "method_descriptor")) (hm : KMt X id k) (ho : JE X W o to) (ha : JA X W (e :: es) t)
    (hbase : attributeBase o name X.env (eval o X.env) = eval o X.env := by rfl)
    (hfew : ((backTo cpos (starEach (e :: es) X.env)).all (fun x => !x.1) && (backToKw cpos (keywordEach [] X.env)).all (fun x => x.1.isSome)
      && decide ((e :: es).length + ([] : List Keyword).length + (if ([] : List Keyword).isEmpty then 0 else 1) < 30)) = true := by rfl)
    (hline : (apos.endLine == cpos.line) = true := by rfl) (hs : starEach (e :: es) X.env = (false, eval e X.env) :: starEach es X.env := by rfl) (hplain : (backTo cpos (starEach es X.env)).any (·.1) = false := by rfl) :
    JE X W (.Call (.Attribute o name apos) (e :: es) [] cpos) (kBM X.K T k to t) :=
  pe_mono (pe_bm pa slot hty hm ho ha hbase hfew hline hs hplain) fun σ H Q ⟨G, M, R, E, hv, h, hR, hE⟩ => ⟨G, M, _, E, hv, h, fun x G1 M1 H1 hv1 h1 => ⟨h1.1 H1 hv1, G1, M1, _, E, hv1, h1.2, fun vs G2 M2 H2 hv2 h2 => ⟨G2, M2, R, hv2, h2, hR⟩, hE⟩, hE⟩
def kAppend : KM := fun x vs G M R => match x, vs with
  | .ref a, [y] => ∃ n xs, M[n]? = some (a, .lst xs) ∧ xs.length < sizeLine ∧ R .non G (M.set n (a, .lst (xs ++ [y])))
  | _, _ => False
theorem km_append : KMt X "list.append" kAppend := kmt_of mt_append fun x vs G M R H Q hv h hR => by
  match x, vs, h with
  | .ref a, [y], ⟨n, xs, h1, h2, h3⟩ => exact ⟨a, xs, y, rfl, rfl, hv.get h1, h2, hR _ G _ _ (hv.set h1) h3⟩
def kExtend : KM := fun x vs G M R => match x, vs with
  | .ref a, [.ref b] => ∃ n xs ys, M[n]? = some (a, .lst xs) ∧ At G M b (.lst ys) ∧ xs.length + ys.length ≤ sizeLine ∧ R .non G (M.set n (a, .lst (xs ++ ys)))
  | _, _ => False
theorem km_extend : KMt X "list.extend" kExtend := kmt_of mt_extend fun x vs G M R H Q hv h hR => by
  match x, vs, h with
  | .ref a, [.ref b], ⟨n, xs, ys, h1, h2, h3, h4⟩ => exact ⟨a, b, xs, ys, rfl, rfl, hv.get h1, hv.at h2, h3, hR _ G _ _ (hv.set h1) h4⟩
end
/-! ### defs -/
abbrev KSp := List V → Hp → Mem → KR → KX → Prop
def lift (S : KSp) : Sp := fun vs H Q E => ∃ G M R X, Hv G M H ∧ S vs G M R X ∧ (∀ v G' M' H', Hv G' M' H' → R v G' M' → Q v H') ∧ (∀ c d G' M' H', Hv G' M' H' → X c d G' M' → E c d H')
def kCall (S : KSp) (t : KA) : KE := fun σ G M R E => t σ G M (fun vs G M => S vs G M R E) E
section
variable {X : Cx} {W : WX} {pos p : Pos} {e : Expr} {es : List Expr} {x : Str} {k : Nat} {f : Addr} {fd : FuncData} {ps : List Str} {S : KSp} {t : KA}
theorem je_call (F : FnOk X.prog X.w X.K X.mg X.base (L2.CX X.prog X.w) k f fd ps (lift S)) (hr : Room k X.A) (tk : Takes X W) (hm : X.mg x = some (.ref f)) (hk : PySem.W.keepIn X.K (.ref f) = true) (hb : Binds X.K fd ps []) (ha : JA X W (e :: es) t) (hg : Gl X x := by rfl)
    (hdb : (x == ("__debug__" : Str)) = false := by decide) (he : starEach (e :: es) X.env = (false, eval e X.env) :: starEach es X.env := by rfl) (hpl : (backTo pos (starEach es X.env)).any (·.1) = false := by rfl) :
    JE X W (.Call (.Name x p) (e :: es) [] pos) (kCall S t) :=
  pe_mono (pe_callS F hr hg hm hk hb (passAt tk) ha hdb he hpl) fun σ H Q ⟨G, M, R, E, hv, h, hR, hE⟩ =>
    ⟨G, M, _, E, hv, h, fun vs G1 M1 H1 hv1 h1 => ⟨G1, M1, R, E, hv1, h1, hR, hE⟩, hE⟩
end
end BT
set_option Elab.async false
set_option linter.all false
set_option maxRecDepth 100000
set_option maxHeartbeats 4000000
namespace BT
open PySem PySem.Spec L2
open PyProof.Rows hiding St
/-! ### statements -/
structure Kd where
  nx : St → Hp → Mem → Prop
  rt : KR
  bk : St → Hp → Mem → Prop := fun _ _ _ => False
  ct : St → Hp → Mem → Prop := fun _ _ _ => False
  xc : Value → Option Addr → St → Hp → Mem → Prop := fun _ _ _ _ _ => False
abbrev KS := Kd → St → Hp → Mem → Prop
structure EndsTo (W : WX) (d : Kd) (D : Ends) : Prop where
  nx : ∀ σ G M H, Hv G M H → d.nx σ G M → D.nx σ H
  rt : ∀ v G M H, Hv G M H → d.rt v G M → D.rt v H
  bk : ∀ σ G M H, Hv G M H → d.bk σ G M → D.bk σ H
  ct : ∀ σ G M H, Hv G M H → d.ct σ G M → D.ct σ H
  xc : ∀ c a σ G M H, Hv G M H → d.xc c a σ G M → W c a σ H
def upS (W : WX) (t : KS) : TS := fun D σ H => ∃ G M d, Hv G M H ∧ t d σ G M ∧ EndsTo W d D
def JS (X : Cx) (W : WX) (s : Stmt) (t : KS) : Prop := PS X s (upS W t)
def JSs (X : Cx) (W : WX) (s : List Stmt) (t : KS) : Prop := PSs X s (upS W t)
theorem ps_mono {X : Cx} {s : Stmt} {t t' : TS} (h : PS X s t) (i : ∀ D σ H, t' D σ H → t D σ H) : PS X s t' := ⟨fun pins st σ H D I q => h.run pins st σ H D I (i D σ H q)⟩
theorem pss_mono {X : Cx} {s : List Stmt} {t t' : TS} (h : PSs X s t) (i : ∀ D σ H, t' D σ H → t D σ H) : PSs X s t' := ⟨fun pins st σ H D I q => h.run pins st σ H D I (i D σ H q)⟩
def Kd.x (d : Kd) (σ : St) : KX := fun c a G M => d.xc c a σ G M
section
variable {X : Cx} {W : WX} {pos : Pos} {s : Stmt} {ss : List Stmt} {e : Expr} {t u : KS}
def kNext : KS := fun D σ G M => D.nx σ G M
def kSeq (t u : KS) : KS := fun D σ G M => ∃ G' M', Wk G M G' M' ∧ t { D with nx := u D } σ G' M'
def kNever : KS := fun _ _ _ _ => False
theorem jss_nil : JSs X W [] kNext := pss_mono pss_nil fun D σ H ⟨G, M, d, hv, h, en⟩ => en.nx σ G M H hv h
theorem jss_cons (h1 : JS X W s t) (h2 : JSs X W ss u) : JSs X W (s :: ss) (kSeq t u) := pss_mono (pss_cons h1 h2) fun D σ H ⟨G, M, d, hv, ⟨G', M', wk, h⟩, en⟩ =>
  ⟨G', M', _, wk H hv, h, ⟨fun σ' G2 M2 H2 hv2 q => ⟨G2, M2, d, hv2, q, en⟩, en.rt, en.bk, en.ct, en.xc⟩⟩
theorem js_never : JS X W s kNever := ps_mono ps_never fun D σ H ⟨G, M, d, hv, h, en⟩ => h
def kSet (i : Nat) (t : KE) : KS := fun D σ G M => t σ G M (fun v G M => D.nx (σ.set i (some v)) G M) (D.x σ)
theorem js_set {i : Nat} {x : Str} {t : KE} {pos' : Pos} (he : JE X W e t) (hN : X.N.Nodup) (hi : X.N[i]? = some x := by rfl) (hx : Loc X.env.scope x := by first | exact Or.inl rfl | exact Or.inr rfl)
    (hs : swapsWith e (some (.Name x pos')) pos.line X.env = pure false := by rfl) (hf : X.fn x = true ∨ X.env.scope.names.lookup x = some .local := by first | exact .inl rfl | exact .inr rfl | assumption) :
    JS X W (.Assign [.Name x pos'] e pos) (kSet i t) := ps_mono (ps_set hN hi hx he hs hf) fun D σ H ⟨G, M, d, hv, h, en⟩ =>
  ⟨G, M, _, _, hv, h, fun v G' M' H' hv' q => en.nx _ G' M' H' hv' q, fun c a G' M' H' hv' q => en.xc c a σ G' M' H' hv' q⟩
def kExpr (t : KE) : KS := fun D σ G M => t σ G M (fun _ G M => D.nx σ G M) (D.x σ)
theorem js_expr {t : KE} (he : JE X W e t) (hs : swapsWith e none pos.line X.env = pure false := by rfl) : JS X W (.Expr e pos) (kExpr t) := ps_mono (ps_expr he hs) fun D σ H ⟨G, M, d, hv, h, en⟩ =>
  ⟨G, M, _, _, hv, h, fun v G' M' H' hv' q => en.nx _ G' M' H' hv' q, fun c a G' M' H' hv' q => en.xc c a σ G' M' H' hv' q⟩
def kRet (t : KE) : KS := fun D σ G M => t σ G M D.rt (D.x σ)
theorem js_ret {t : KE} (he : JE X W e t) : JS X W (.Return (some e) pos) (kRet t) := ps_mono (ps_ret he) fun D σ H ⟨G, M, d, hv, h, en⟩ =>
  ⟨G, M, _, _, hv, h, fun v G' M' H' hv' q => en.rt _ G' M' H' hv' q, fun c a G' M' H' hv' q => en.xc c a σ G' M' H' hv' q⟩
def kIf (c : KT) (t u : KS) : KS := fun D σ G M => c σ G M (fun b G M => if b = true then t D σ G M else u D σ G M) (D.x σ)
theorem js_if {c : Expr} {a b : List Stmt} {tc : KT} (hc : JT X W c tc) (ha : JSs X W a t) (hb : JSs X W b u) : JS X W (.If c a b pos) (kIf tc t u) := ps_mono (ps_if hc ha hb) fun D σ H ⟨G, M, d, hv, h, en⟩ =>
  ⟨G, M, _, _, hv, h, fun v G' M' H' hv' q => by
    cases v with
    | true => rw [if_pos rfl] at q ⊢; exact ⟨G', M', d, hv', q, en⟩
    | false => rw [if_neg Bool.false_ne_true] at q ⊢; exact ⟨G', M', d, hv', q, en⟩, fun c a G' M' H' hv' q => en.xc c a σ G' M' H' hv' q⟩
/-! ### targets -/
structure KG where
  val : V → St → Hp → Mem → (St → Hp → Mem → Prop) → Prop
  tup : List V → St → Hp → Mem → (St → Hp → Mem → Prop) → Prop
structure JG (X : Cx) (tg : Expr) (g : KG) (gr : TG) : Prop where
  pg : PG X tg gr
  val : ∀ v σ G M R H Q, Hv G M H → g.val v σ G M R → (∀ σ' G' M' H', Hv G' M' H' → R σ' G' M' → Q σ' H') → gr v σ H Q
  tup : ∀ T vs σ G M R H Q, Hv G M H → H T = none → g.tup vs σ G M R → (∀ σ' G' M' H', Hv G' M' H' → R σ' G' M' → Q σ' H') → gr (.ref T) σ (upd H T (.tup vs)) Q
def kgName (i : Nat) : KG := ⟨fun v σ G M R => R (σ.set i (some v)) G M, fun vs σ G M R => ∀ T, Fr G M T → R (σ.set i (some (.ref T))) (upd G T (.tup vs)) M⟩
theorem jg_name {i : Nat} {x : Str} (hN : X.N.Nodup) (hi : X.N[i]? = some x := by rfl) (hx : Loc X.env.scope x := by first | exact Or.inl rfl | exact Or.inr rfl) (hf : X.fn x = true ∨ X.env.scope.names.lookup x = some .local := by first | exact .inl rfl | exact .inr rfl | assumption) : JG X (.Name x pos) (kgName i) (gName i) :=
  ⟨pg_name hN hi hx hf, fun v σ G M R H Q hv h hR => hR _ G M H hv h, fun T vs σ G M R H Q hv hT h hR => hR _ _ M _ (hv.newG hT) (h T (hv.fr hT))⟩
/-- several targets at once -/
abbrev KGs := List V → St → Hp → Mem → (St → Hp → Mem → Prop) → Prop
def kgsNil : KGs := fun vs σ G M R => match vs with
  | [] => R σ G M
  | _ => False
def kgsCons (g : KG) (r : KGs) : KGs := fun vs σ G M R => match vs with
  | v :: vs => g.val v σ G M (fun σ G M => r vs σ G M R)
  | [] => False
structure JGs (X : Cx) (ts : List Expr) (g : KGs) (gr : TGs) : Prop where
  pgs : PGs X ts gr
  sim : ∀ vs σ G M R H Q, Hv G M H → g vs σ G M R → (∀ σ' G' M' H', Hv G' M' H' → R σ' G' M' → Q σ' H') → gr vs σ H Q
theorem jgs_nil : JGs X [] kgsNil gNil := ⟨pgs_nil, fun vs σ G M R H Q hv h hR => by
  match vs, h with
  | [], h => exact ⟨rfl, hR _ G M H hv h⟩⟩
theorem jgs_cons {tg : Expr} {ts : List Expr} {g : KG} {r : KGs} {gr : TG} {gs : TGs} (h1 : JG X tg g gr) (hr : JGs X ts r gs)
    (hs : (assignEach (tg :: ts) X.env).map (·.2) = assign tg X.env :: (assignEach ts X.env).map (·.2) := by rfl) : JGs X (tg :: ts) (kgsCons g r) (gCons gr gs) :=
  ⟨pgs_cons h1.pg hr.pgs hs, fun vs σ G M R H Q hv h hR => by
    match vs, h with
    | v :: vs, h => exact ⟨v, vs, rfl, h1.val v σ G M _ H _ hv h fun σ' G' M' H' hv' q => hr.sim vs σ' G' M' R H' Q hv' q hR⟩⟩
def onLen (n : Nat) (g : KGs) : KGs := fun vs σ G M R => match vs.length == n with
  | true => g vs σ G M R
  | false => False
theorem onLen_of {n : Nat} {g : KGs} {vs : List V} {σ : St} {G : Hp} {M : Mem} {R : St → Hp → Mem → Prop} (h : onLen n g vs σ G M R) : vs.length = n ∧ g vs σ G M R := by
  unfold onLen at h
  split at h
  · rename_i e; exact ⟨beq_iff_eq.mp e, h⟩
  · exact h.elim
def kgTup (K : PySem.W.Frag) (n : Nat) (g : KGs) : KG := ⟨fun v σ G M R => match v with
    | .ref a => ∃ xs, SqT K G a xs ∧ onLen n g xs σ G M R
    | _ => False, onLen n g⟩
theorem jg_tup {K : PySem.W.Frag} {ts : List Expr} {g : KGs} {gs : TGs} {n k : Nat} (hc : X.calm = true) (h : JGs X ts g gs) (hK : X.K = K := by rfl) (hn : (assignEach ts X.env).length = n := by rfl) (hst : (assignEach ts X.env).findIdx? (·.1) = none := by rfl) :
    JG X (.Tuple ts k pos) (kgTup K n g) (gTup K n gs) := by
  subst hK
  exact ⟨pg_tup hc h.pgs hn hst, fun v σ G M R H Q hv q hR => by
    match v, q with
    | .ref a, ⟨xs, q1, q2⟩ =>
      obtain ⟨e, q3⟩ := onLen_of q2
      exact ⟨a, xs, rfl, hv.tup q1, e, h.sim xs σ G M R H Q hv q3 hR⟩,
   fun T vs σ G M R H Q hv hT q hR => by
    obtain ⟨e, q3⟩ := onLen_of q
    exact ⟨T, vs, rfl, .inl (.inl upd_same), e, h.sim vs σ G M R _ Q (hv.junk hT) q3 hR⟩⟩
/-- nothing is raised -/
def W0 : WX := fun _ _ _ _ => False
/-- a place of a list as a target -/
def setL (o i v : V) (G : Hp) (M : Mem) (R : Hp → Mem → Prop) : Prop := match o, i with
  | .ref a, .int k => ∃ n xs j, M[n]? = some (a, .lst xs) ∧ ixN xs.length k = some j ∧ R G (M.set n (a, .lst (xs.set j v)))
  | _, _ => False
def kgIx (to ti : KE) : KG := ⟨fun v σ G M R => to σ G M (fun o G M => ti σ G M (fun i G M => setL o i v G M (fun G M => R σ G M)) (fun _ _ _ _ => False)) (fun _ _ _ _ => False), fun _ _ _ _ _ => False⟩
theorem jg_ix {o i : Expr} {to ti : KE} (ho : JE X W0 o to) (hi : JE X W0 i ti)
    (ha : ∀ v, assign (.Subscript o i pos) X.env v = (do
      let ov ← holding [v] (eval o X.env)
      let iv ← holding [v, ov] (eval i X.env)
      standAt pos
      holding [v, ov, iv] (setItem ov iv v)
      release [v, ov, iv] []) := by intro _; rfl) : JG X (.Subscript o i pos) (kgIx to ti) (gSub (upG W0 to) (upG W0 ti) rSetL) :=
  ⟨pg_sub ho hi set_list ha, fun v σ G M R H Q hv q hR => ⟨G, M, _, _, hv, q, fun ov G2 M2 H2 hv2 q2 => ⟨G2, M2, _, _, hv2, q2, fun iv G3 M3 H3 hv3 q3 => by
    match ov, iv, q3 with
    | .ref a, .int k, ⟨n, xs, j, e1, e2, q⟩ => exact ⟨a, xs, k, j, rfl, rfl, hv3.get e1, e2, hR σ G3 _ _ (hv3.set e1) q⟩, fun _ _ _ _ _ _ z => z.elim⟩, fun _ _ _ _ _ _ z => z.elim⟩,
   fun _ _ _ _ _ _ _ _ _ _ z => z.elim⟩
/-- a target of an assignment -/
def kAsg (t : KE) (g : KG) : KS := fun D σ G M => t σ G M (fun v G M => g.val v σ G M D.nx) (D.x σ)
theorem js_asg {tg : Expr} {t : KE} {g : KG} {gr : TG} (he : JE X W e t) (hg : JG X tg g gr) (hs : swapsWithSole [tg] e pos.line X.env = pure false := by rfl) (hw : swappedStores [tg] e X.env = pure none := by rfl)
    (h1 : (assignEach [tg] X.env).map (·.2) = [assign tg X.env] := by rfl) : JS X W (.Assign [tg] e pos) (kAsg t g) := ps_mono (ps_asg he hg.pg hs hw h1) fun D σ H ⟨G, M, d, hv, h, en⟩ =>
  ⟨G, M, _, _, hv, h, fun v G' M' H' hv' q => hg.val v σ G' M' _ H' _ hv' q fun σ' G2 M2 H2 hv2 q2 => en.nx _ G2 M2 H2 hv2 q2, fun c a G' M' H' hv' q => en.xc c a σ G' M' H' hv' q⟩
end
end BT
set_option Elab.async false
set_option linter.all false
set_option maxRecDepth 100000
set_option maxHeartbeats 4000000
namespace BT
open PySem PySem.Spec L2
open PyProof.Rows hiding St
/-! ### what is walked -/
structure Src where
  n : Nat
  get : Nat → V ⊕ List V
  ok : Hp → Mem → Prop
abbrev KI := KK Src
/-- an iterator that gives what the source says -/
structure Goes (src : Src) (J : It) : Prop where
  go : ∀ i G M H, Hv G M H → src.ok G M → i < src.n → J.go i H
  stop : ∀ i G M H, Hv G M H → src.ok G M → src.n ≤ i → J.stop i H
  yld : ∀ i G M H x H', Hv G M H → src.ok G M → i < src.n → J.yld i H x H' → match src.get i with
    | .inl v => x = v ∧ H' = H
    | .inr vs => ∃ T, x = .ref T ∧ H T = none ∧ H' = upd H T (.tup vs)
def upI (W : WX) (t : KI) : TI := fun σ H Q => ∃ G M R E, Hv G M H ∧ t σ G M R E ∧ (∀ src G' M' H', Hv G' M' H' → R src G' M' → ∀ J, Goes src J → Q J H') ∧ (∀ c d G' M' H', Hv G' M' H' → E c d G' M' → W c d σ H')
def JI (X : Cx) (W : WX) (tg it : Expr) (t : KI) : Prop := PI X tg it (upI W t)
theorem pi_mono {X : Cx} {tg it : Expr} {t t' : TI} (h : PI X tg it t) (i : ∀ σ H Q, t' σ H Q → t σ H Q) : PI X tg it t' := ⟨fun pins s σ H Q I q => h.run pins s σ H Q I (i σ H Q q)⟩
def srcL (K : PySem.W.Frag) (a : Addr) (xs : List V) : Src := ⟨xs.length, fun i => .inl (xs.getD i .non), fun G M => LstAt K G M a xs⟩
def srcT (K : PySem.W.Frag) (a : Addr) (xs : List V) : Src := ⟨xs.length, fun i => .inl (xs.getD i .non), fun G M => SqT K G a xs⟩
def srcR (lo : Int) (n : Nat) : Src := ⟨n, fun i => .inl (.int (lo + i)), fun _ _ => True⟩
def srcC (lo c : Int) (n : Nat) : Src := ⟨n, fun i => .inl (.int (lo + (i : Nat) * c)), fun _ _ => True⟩
def srcE (K : PySem.W.Frag) (a : Addr) (xs : List V) : Src := ⟨xs.length, fun i => .inr [.int i, xs.getD i .non], fun G M => LstAt K G M a xs⟩
def srcV (K : PySem.W.Frag) (a : Addr) (xs : List V) : Src := ⟨xs.length, fun i => .inl (xs.getD (xs.length - 1 - i) .non), fun G M => LstAt K G M a xs⟩
theorem getD_of {xs : List V} {i : Nat} {x : V} (h : xs[i]? = some x) : xs.getD i .non = x := by
  rw [List.getD_eq_getElem?_getD, h]; rfl
theorem get_lt {xs : List V} {i : Nat} (h : i < xs.length) : xs[i]? = some (xs.getD i .non) := by
  rw [List.getD_eq_getElem?_getD, List.getElem?_eq_getElem h]; rfl
theorem goes_L {K : PySem.W.Frag} {a : Addr} {xs : List V} : Goes (srcL K a xs) (Itl K a) where
  go := fun i G M H hv ok hi => ⟨xs, _, hv.lst ok, get_lt hi⟩
  stop := fun i G M H hv ok hi => ⟨xs, hv.lst ok, hi⟩
  yld := fun i G M H x H' hv ok hi y => ⟨(getD_of (y.2 xs (hv.lst ok))).symm, y.1⟩
theorem goes_T {K : PySem.W.Frag} {a : Addr} {xs : List V} : Goes (srcT K a xs) (Itt K a) where
  go := fun i G M H hv ok hi => ⟨xs, _, hv.tup ok, get_lt hi⟩
  stop := fun i G M H hv ok hi => ⟨xs, hv.tup ok, hi⟩
  yld := fun i G M H x H' hv ok hi y => ⟨(getD_of (y.2 xs (hv.tup ok))).symm, y.1⟩
theorem goes_R {lo : Int} {n : Nat} : Goes (srcR lo n) (Itr lo n) where
  go := fun i G M H hv ok hi => hi
  stop := fun i G M H hv ok hi => hi
  yld := fun i G M H x H' hv ok hi y => ⟨y.2, y.1⟩
theorem goes_C {lo c : Int} {n : Nat} : Goes (srcC lo c n) (Itc lo c n) where
  go := fun i G M H hv ok hi => hi
  stop := fun i G M H hv ok hi => hi
  yld := fun i G M H x H' hv ok hi y => ⟨y.2, y.1⟩
theorem goes_E {K : PySem.W.Frag} {a : Addr} {xs : List V} : Goes (srcE K a xs) (Ite K a) where
  go := fun i G M H hv ok hi => ⟨xs, _, hv.lst ok, get_lt hi⟩
  stop := fun i G M H hv ok hi => ⟨xs, hv.lst ok, hi⟩
  yld := fun i G M H x H' hv ok hi y => by
    obtain ⟨T, z, e1, e2, e3, e4⟩ := y
    have e5 := getD_of (e4 xs (hv.lst ok))
    exact ⟨T, e1, e2, by rw [e3, ← e5]⟩
theorem goes_V {K : PySem.W.Frag} {a : Addr} {xs : List V} : Goes (srcV K a xs) (Itv K a xs.length) where
  go := fun i G M H hv ok hi => ⟨hi, xs, _, hv.lst ok, get_lt (by have hi : i < xs.length := hi; omega)⟩
  stop := fun i G M H hv ok hi => hi
  yld := fun i G M H x H' hv ok hi y => ⟨(getD_of (y.2 xs (hv.lst ok))).symm, y.1⟩
section
variable {X : Cx} {W : WX} {pos p tpos : Pos} {e e2 a b c : Expr} {es : List Expr} {tg : Expr}
def kiSeq (K : PySem.W.Frag) (t : KE) : KI := fun σ G M R E => t σ G M (fun x G M => match x with
  | .ref a => ∃ xs, LstAt K G M a xs ∧ R (srcL K a xs) G M
  | _ => False) E
def kiTup (K : PySem.W.Frag) (t : KE) : KI := fun σ G M R E => t σ G M (fun x G M => match x with
  | .ref a => ∃ xs, SqT K G a xs ∧ R (srcT K a xs) G M
  | _ => False) E
theorem ji_list {t : KE} (h : JE X W e t) : JI X W tg e (kiSeq X.K t) := pi_mono (pi_list h) fun σ H Q ⟨G, M, R, E, hv, h, hR, hE⟩ => ⟨G, M, _, E, hv, h, fun x G1 M1 H1 hv1 q => by
    match x, q with
    | .ref a, ⟨xs, q1, q2⟩ => exact ⟨a, rfl, ⟨xs, hv1.lst q1⟩, hR _ G1 M1 H1 hv1 q2 _ goes_L⟩, hE⟩
theorem ji_tup {t : KE} (h : JE X W e t) : JI X W tg e (kiTup X.K t) := pi_mono (pi_tup h) fun σ H Q ⟨G, M, R, E, hv, h, hR, hE⟩ => ⟨G, M, _, E, hv, h, fun x G1 M1 H1 hv1 q => by
    match x, q with
    | .ref a, ⟨xs, q1, q2⟩ => exact ⟨a, rfl, ⟨xs, hv1.tup q1⟩, hR _ G1 M1 H1 hv1 q2 _ goes_T⟩, hE⟩
/-- range(n), range(a, b), range(a, b, c) -/
def kiR1 (t : KA) : KI := fun σ G M R E => t σ G M (fun vs G M => match vs with
  | [.int j] => (-(2 ^ 62) ≤ j ∧ j < 2 ^ 62) ∧ R (srcR 0 j.toNat) G M
  | _ => False) E
def kiR2 (t : KA) : KI := fun σ G M R E => t σ G M (fun vs G M => match vs with
  | [.int i, .int j] => (-(2 ^ 62) ≤ i ∧ i < 2 ^ 62 ∧ -(2 ^ 62) ≤ j ∧ j < 2 ^ 62) ∧ R (srcR i (j - i).toNat) G M
  | _ => False) E
def kiR3 (t : KA) : KI := fun σ G M R E => t σ G M (fun vs G M => match vs with
  | [.int i, .int j, .int c] => ∃ n, RgC i j c n ∧ R (srcC i c n) G M
  | _ => False) E
theorem ji_range1 {t : KA} (hm : X.mg "range" = none) (ha : JA X W [a] t) (hg : Gl X "range" := by rfl) (hs : starEach [a] X.env = [(false, eval a X.env)] := by rfl) : JI X W tg (.Call (.Name "range" p) [a] [] pos) (kiR1 t) :=
  pi_mono (pi_range1 hg hm ha hs) fun σ H Q ⟨G, M, R, E, hv, h, hR, hE⟩ => ⟨G, M, _, E, hv, h, fun vs G1 M1 H1 hv1 q => by
    match vs, q with
    | [.int j], ⟨⟨q1, q2⟩, q3⟩ => exact ⟨j, rfl, q1, q2, hR _ G1 M1 H1 hv1 q3 _ goes_R⟩, hE⟩
theorem ji_range2 {t : KA} (hm : X.mg "range" = none) (ha : JA X W [a, b] t) (hg : Gl X "range" := by rfl) (hs : starEach [a, b] X.env = [(false, eval a X.env), (false, eval b X.env)] := by rfl) (hs2 : starEach [b] X.env = [(false, eval b X.env)] := by rfl) : JI X W tg (.Call (.Name "range" p) [a, b] [] pos) (kiR2 t) :=
  pi_mono (pi_range2 hg hm ha hs hs2) fun σ H Q ⟨G, M, R, E, hv, h, hR, hE⟩ => ⟨G, M, _, E, hv, h, fun vs G1 M1 H1 hv1 q => by
    match vs, q with
    | [.int i, .int j], ⟨q1, q3⟩ => exact ⟨i, j, rfl, q1, hR _ G1 M1 H1 hv1 q3 _ goes_R⟩, hE⟩
theorem ji_range3 {t : KA} (hm : X.mg "range" = none) (ha : JA X W [a, b, c] t) (hg : Gl X "range" := by rfl) (hs : starEach [a, b, c] X.env = (false, eval a X.env) :: starEach [b, c] X.env := by rfl) (hpl : (backTo pos (starEach [b, c] X.env)).any (·.1) = false := by rfl) : JI X W tg (.Call (.Name "range" p) [a, b, c] [] pos) (kiR3 t) :=
  pi_mono (pi_range3 hg hm ha hs hpl) fun σ H Q ⟨G, M, R, E, hv, h, hR, hE⟩ => ⟨G, M, _, E, hv, h, fun vs G1 M1 H1 hv1 q => by
    match vs, q with
    | [.int i, .int j, .int c], ⟨n, q1, q3⟩ => exact ⟨i, j, c, n, rfl, q1, hR _ G1 M1 H1 hv1 q3 _ goes_C⟩, hE⟩
def kiEnum (K : PySem.W.Frag) (t : KA) : KI := fun σ G M R E => t σ G M (fun vs G M => match vs with
  | [.ref a] => ∃ xs, LstAt K G M a xs ∧ R (srcE K a xs) G M
  | _ => False) E
def kiRev (K : PySem.W.Frag) (t : KA) : KI := fun σ G M R E => t σ G M (fun vs G M => match vs with
  | [.ref a] => ∃ xs, LstAt K G M a xs ∧ R (srcV K a xs) G M
  | _ => False) E
variable {elts : List Expr} {kk : Nat}
theorem ji_enum {t : KA} (hm : X.mg "enumerate" = none) (ha : JA X W [e] t) (hg : Gl X "enumerate" := by rfl) (hs : starEach [e] X.env = [(false, eval e X.env)] := by rfl) : JI X W (.Tuple elts kk tpos) (.Call (.Name "enumerate" p) [e] [] pos) (kiEnum X.K t) :=
  pi_mono (pi_enum hg hm ha hs) fun σ H Q ⟨G, M, R, E, hv, h, hR, hE⟩ => ⟨G, M, _, E, hv, h, fun vs G1 M1 H1 hv1 q => by
    match vs, q with
    | [.ref a], ⟨xs, q1, q3⟩ => exact ⟨a, xs, rfl, hv1.lst q1, hR _ G1 M1 H1 hv1 q3 _ goes_E⟩, hE⟩
theorem ji_rev {t : KA} (hm : X.mg "reversed" = none) (ha : JA X W [e] t) (hg : Gl X "reversed" := by rfl) (hs : starEach [e] X.env = [(false, eval e X.env)] := by rfl) : JI X W tg (.Call (.Name "reversed" p) [e] [] pos) (kiRev X.K t) :=
  pi_mono (pi_reversed hg hm ha hs) fun σ H Q ⟨G, M, R, E, hv, h, hR, hE⟩ => ⟨G, M, _, E, hv, h, fun vs G1 M1 H1 hv1 q => by
    match vs, q with
    | [.ref a], ⟨xs, q1, q3⟩ => exact ⟨a, xs, rfl, hv1.lst q1, hR _ G1 M1 H1 hv1 q3 _ goes_V⟩, hE⟩
/-! ### for -/
def asg (g : KG) (w : V ⊕ List V) : St → Hp → Mem → (St → Hp → Mem → Prop) → Prop := match w with
  | .inl v => g.val v
  | .inr vs => g.tup vs
def wk1 (Pv : St → Hp → Mem → Prop) : St → Hp → Mem → Prop := fun σ G M => ∃ G' M', Wk G M G' M' ∧ Pv σ G' M'
def kFor (ti : KI) (g : KG) (tb : KS) : KS := fun D σ G M => ti σ G M (fun src G M => ∃ Pv : Nat → St → Hp → Mem → Prop, Pv 0 σ G M ∧ (∀ i σ G M, i ≤ src.n → Pv i σ G M → src.ok G M) ∧
  (∀ i σ G M, i < src.n → Pv i σ G M → asg g (src.get i) σ G M (fun σ G M => tb { D with nx := wk1 (Pv (i + 1)), ct := wk1 (Pv (i + 1)), bk := D.nx } σ G M)) ∧ (∀ σ G M, Pv src.n σ G M → D.nx σ G M)) (D.x σ)
theorem asg_sim {g : KG} {gr : TG} (hg : JG X tg g gr) {w : V ⊕ List V} {σ : St} {G : Hp} {M : Mem} {R : St → Hp → Mem → Prop} {H H' : Hp} {x : V} {Q : St → Hp → Prop} (hv : Hv G M H)
    (y : match w with | .inl v => x = v ∧ H' = H | .inr vs => ∃ T, x = .ref T ∧ H T = none ∧ H' = upd H T (.tup vs)) (h : asg g w σ G M R) (hR : ∀ σ' G' M' H', Hv G' M' H' → R σ' G' M' → Q σ' H') : gr x σ H' Q := by
  cases w with
  | inl v =>
    obtain ⟨rfl, rfl⟩ := y
    exact hg.val _ σ G M R _ Q hv h hR
  | inr vs =>
    obtain ⟨T, rfl, hT, rfl⟩ := y
    exact hg.tup T vs σ G M R H Q hv hT h hR
theorem js_for {it : Expr} {body : List Stmt} {ti : KI} {g : KG} {gr : TG} {tb : KS} (hp : PassesOwn (model X.prog X.w) X.A X.env X.xe) (hc : X.calm = true) (hi : JI X W tg it ti) (hg : JG X tg g gr) (hb : JSs X W body tb)
    (hs : ∀ x, foldedSetIterable it X.env x = pure x := by intro _; rfl) : JS X W (.For tg it body [] pos) (kFor ti g tb) := ps_mono (ps_for hp hc hi hg.pg hb hs) fun D σ H ⟨G, M, d, hv, h, en⟩ => by
  refine ⟨G, M, _, _, hv, h, fun src G1 M1 H1 hv1 q J go => ?_, fun c a G' M' H' hv' q => en.xc c a σ G' M' H' hv' q⟩
  obtain ⟨Pv, p0, pok, pst, pend⟩ := q
  refine ⟨fun i m σ H => m = src.n - i ∧ i ≤ src.n ∧ ∃ G M, Hv G M H ∧ Pv i σ G M, ⟨src.n, by simp, Nat.zero_le _, G1, M1, hv1, p0⟩, ?_⟩
  rintro i m σ2 H2 ⟨rfl, hi2, G2, M2, hv2, p2⟩
  have ok := pok i σ2 G2 M2 hi2 p2
  by_cases hlt : i < src.n
  · refine .inr ⟨go.go i G2 M2 H2 hv2 ok hlt, fun σ' H' => ∃ G M, Hv G M H' ∧ Pv (i + 1) σ' G M, fun σ' H' ⟨G3, M3, hv3, p3⟩ => ⟨src.n - (i + 1), by omega, rfl, hlt, G3, M3, hv3, p3⟩, fun x H' y => ?_⟩
    refine asg_sim hg hv2 (go.yld i G2 M2 H2 x H' hv2 ok hlt y) (pst i σ2 G2 M2 hlt p2) fun σ3 G3 M3 H3 hv3 q3 => ?_
    have e1 : ∀ σ G M H, Hv G M H → wk1 (Pv (i + 1)) σ G M → ∃ G M, Hv G M H ∧ Pv (i + 1) σ G M := fun σ G M H hv ⟨G', M', wk, q⟩ => ⟨G', M', wk H hv, q⟩
    exact ⟨G3, M3, _, hv3, q3, ⟨e1, en.rt, en.nx, e1, en.xc⟩⟩
  · have e : i = src.n := by omega
    subst e
    exact .inl ⟨go.stop _ G2 M2 H2 hv2 ok (Nat.le_refl _), en.nx _ G2 M2 H2 hv2 (pend σ2 G2 M2 p2)⟩
/-! ### while -/
def kWhile (c : KT) (tb : KS) : KS := fun D σ G M => ∃ Pv : Nat → St → Hp → Mem → Prop, (∃ m, Pv m σ G M) ∧ ∀ m σ G M, Pv m σ G M →
  c σ G M (fun b G M => if b = true then tb { D with nx := fun σ G M => ∃ m', m' < m ∧ wk1 (Pv m') σ G M, ct := fun σ G M => ∃ m', m' < m ∧ wk1 (Pv m') σ G M, bk := D.nx } σ G M else D.nx σ G M) (D.x σ)
theorem js_while {c : Expr} {body : List Stmt} {tc : KT} {tb : KS} (hp : PassesOwn (model X.prog X.w) X.A X.env X.xe) (hc : JT X W c tc) (hb : JSs X W body tb) : JS X W (.While c body [] pos) (kWhile tc tb) := ps_mono (ps_while hp hc hb) fun D σ H ⟨G, M, d, hv, ⟨Pv, ⟨m0, p0⟩, st⟩, en⟩ => by
  refine ⟨fun m σ H => ∃ G M, Hv G M H ∧ Pv m σ G M, ⟨m0, G, M, hv, p0⟩, ?_⟩
  rintro m σ1 H1 ⟨G1, M1, hv1, p1⟩
  refine ⟨G1, M1, _, _, hv1, st m σ1 G1 M1 p1, fun b G2 M2 H2 hv2 q2 => ?_, fun c a G' M' H' hv' q => en.xc c a σ1 G' M' H' hv' q⟩
  cases b with
  | true =>
    rw [if_pos rfl] at q2 ⊢
    refine ⟨fun σ' H' => ∃ m', m' < m ∧ ∃ G M, Hv G M H' ∧ Pv m' σ' G M, fun σ' H' h => h, ?_⟩
    have e1 : ∀ σ G M H, Hv G M H → (∃ m', m' < m ∧ wk1 (Pv m') σ G M) → ∃ m', m' < m ∧ ∃ G M, Hv G M H ∧ Pv m' σ G M := fun σ G M H hv ⟨m', l, G', M', wk, q⟩ => ⟨m', l, G', M', wk H hv, q⟩
    exact ⟨G2, M2, _, hv2, q2, ⟨e1, en.rt, en.nx, e1, en.xc⟩⟩
  | false =>
    rw [if_neg Bool.false_ne_true] at q2 ⊢
    exact en.nx _ G2 M2 H2 hv2 q2
/-! ### list comprehensions -/
def E0 : KX := fun _ _ _ _ => False
def kYes : KT := fun _ G M R _ => R true G M
def JTs (X : Cx) (W : WX) (es : List Expr) (t : KT) : Prop := PTs X es (upG W t)
theorem jts_nil : JTs X W [] kYes := ⟨fun pins s σ H Q I ⟨G, M, R, E, hv, h, hR, _⟩ => pts_nil.run pins s σ H Q I (hR _ G M H hv h)⟩
theorem jts_one {t : KT} (h : JT X W c t) : JTs X W [c] t := pts_one h
def kComp (ti : KI) (g : KG) (tt : KT) (te : KE) (own : List Nat) : KE := fun σ G M R E => ti σ G M (fun src G M => src.n ≤ sizeLine ∧ ∃ Pv : Nat → List V → Hp → Mem → Prop, Pv 0 [] G M ∧ (∀ i acc G M, i ≤ src.n → Pv i acc G M → src.ok G M) ∧
  (∀ i acc G M D, i < src.n → acc.length ≤ i → Pv i acc G M → Fr G M D → asg g (src.get i) (wipe σ own) G ((D, .lst acc) :: M) (fun σ2 G M => wipe σ2 own = wipe σ own ∧ tt σ2 G M (fun b G M =>
    if b = true then te σ2 G M (fun y G M => ∃ G' M', Wk G M G' ((D, .lst acc) :: M') ∧ Pv (i + 1) (acc ++ [y]) G' M') E0 else ∃ G' M', Wk G M G' ((D, .lst acc) :: M') ∧ Pv (i + 1) acc G' M') E0)) ∧
  (∀ acc G M p, Pv src.n acc G M → acc.length ≤ src.n → Fr G M p → R (.ref p) G ((p, .lst acc) :: M))) E
theorem comp_sim {K : PySem.W.Frag} {ti : KI} {g : KG} {gr : TG} {tt : KT} {te : KE} {own : List Nat} {σ : St} {H : Hp} {Q : VK}
    (hgv : ∀ v σ G M R H Q, Hv G M H → g.val v σ G M R → (∀ σ' G' M' H', Hv G' M' H' → R σ' G' M' → Q σ' H') → gr v σ H Q)
    (hgt : ∀ T vs σ G M R H Q, Hv G M H → H T = none → g.tup vs σ G M R → (∀ σ' G' M' H', Hv G' M' H' → R σ' G' M' → Q σ' H') → gr (.ref T) σ (upd H T (.tup vs)) Q)
    (h : upG W (kComp ti g tt te own) σ H Q) : tLc (upI W ti) gr (upG W0 tt) (upG W0 te) own σ H Q := by
  obtain ⟨G, M, R, E, hv, h, hR, hE⟩ := h
  refine ⟨G, M, _, E, hv, h, fun src G1 M1 H1 hv1 q J go => ?_, hE⟩
  obtain ⟨hn, Pv, p0, pok, pst, pend⟩ := q
  intro D hD
  refine ⟨fun i m H => m = src.n - i ∧ i ≤ src.n ∧ ∃ acc G M, acc.length ≤ i ∧ Hv G ((D, .lst acc) :: M) H ∧ Pv i acc G M, ⟨src.n, by simp, Nat.zero_le _, [], G1, M1, Nat.le_refl _, hv1.newM hD, p0⟩, ?_⟩
  rintro i m H2 ⟨rfl, hi2, acc, G2, M2, hacc, hv2, p2⟩
  have hv2' : Hv G2 M2 H2 := Wk.drop0 H2 hv2
  have ok := pok i acc G2 M2 hi2 p2
  have fD : Fr G2 M2 D := by
    refine ⟨hv2.dj (D, .lst acc) List.mem_cons_self, fun x hx e => ?_⟩
    have nd := hv2.nd
    rw [List.map_cons, List.nodup_cons] at nd
    exact nd.1 (by rw [← e]; exact List.mem_map.mpr ⟨x, hx, rfl⟩)
  by_cases hlt : i < src.n
  · refine .inr ⟨go.go i G2 M2 H2 hv2' ok hlt, fun H' => ∃ acc G M, acc.length ≤ i + 1 ∧ Hv G ((D, .lst acc) :: M) H' ∧ Pv (i + 1) acc G M, fun H' ⟨acc', G3, M3, l3, hv3, p3⟩ => ⟨src.n - (i + 1), by omega, rfl, hlt, acc', G3, M3, l3, hv3, p3⟩, fun x H' y => ?_⟩
    have step := pst i acc G2 M2 D hlt hacc p2 fD
    have yy := go.yld i G2 M2 H2 x H' hv2' ok hlt y
    have fin : ∀ σ3 G3 M3 H3, Hv G3 M3 H3 → (wipe σ3 own = wipe σ own ∧ tt σ3 G3 M3 (fun b G M =>
        if b = true then te σ3 G M (fun y G M => ∃ G' M', Wk G M G' ((D, .lst acc) :: M') ∧ Pv (i + 1) (acc ++ [y]) G' M') E0 else ∃ G' M', Wk G M G' ((D, .lst acc) :: M') ∧ Pv (i + 1) acc G' M') E0) →
        (wipe σ3 own = wipe σ own ∧ upG W0 tt σ3 H3 fun b H3 => if b = true then upG W0 te σ3 H3 fun y H4 => ∃ acc, H4 D = some (.lst acc) ∧ acc.length < sizeLine ∧ (∃ acc' G M, acc'.length ≤ i + 1 ∧ Hv G ((D, .lst acc') :: M) (upd H4 D (.lst (acc ++ [y]))) ∧ Pv (i + 1) acc' G M) else ∃ acc' G M, acc'.length ≤ i + 1 ∧ Hv G ((D, .lst acc') :: M) H3 ∧ Pv (i + 1) acc' G M) := by
      rintro σ3 G3 M3 H3 hv3 ⟨ew, q3⟩
      refine ⟨ew, G3, M3, _, _, hv3, q3, fun b G4 M4 H4 hv4 q4 => ?_, fun _ _ _ _ _ _ z => z.elim⟩
      cases b with
      | true =>
        rw [if_pos rfl] at q4 ⊢
        refine ⟨G4, M4, _, _, hv4, q4, fun y G5 M5 H5 hv5 ⟨G6, M6, wk, p6⟩ => ?_, fun _ _ _ _ _ _ z => z.elim⟩
        have hv6 := wk H5 hv5
        refine ⟨acc, hv6.mu (D, .lst acc) List.mem_cons_self, by omega, acc ++ [y], G6, M6, by rw [List.length_append]; exact Nat.succ_le_succ hacc, ?_, p6⟩
        exact hv6.set (n := 0) (o' := .lst (acc ++ [y])) rfl
      | false =>
        rw [if_neg Bool.false_ne_true] at q4 ⊢
        obtain ⟨G6, M6, wk, p6⟩ := q4
        exact ⟨acc, G6, M6, by omega, wk H4 hv4, p6⟩
    revert yy step
    cases src.get i with
    | inl v =>
      rintro step ⟨rfl, rfl⟩
      exact hgv _ _ G2 _ _ _ _ hv2 step fin
    | inr vs =>
      rintro step ⟨T, rfl, hT, rfl⟩
      exact hgt T vs _ G2 _ _ _ _ hv2 hT step fin
  · have e : i = src.n := by omega
    subst e
    exact .inl ⟨go.stop _ G2 M2 H2 hv2' ok (Nat.le_refl _), hR _ _ _ _ hv2 (pend acc G2 M2 D p2 hacc fD)⟩
variable {elt it : Expr} {ifs : List Expr} {scope : Scope} {own : List (Str × Nat)} {spos py : Pos}
theorem je_comp {ti : KI} {g : KG} {gr : TG} {tt : KT} {te : KE} (hc : X.calm = true) (hN : X.N.Nodup) (hi : JI X W tg it ti) (ok : BlkOk X.N X.env.scope scope own)
    (hg : ∀ (s : Shared) (H : Hp) (C : Addr) (cl : List (Str × Addr)) (fp : List Addr), JG (X.blk s H scope (compEnvC scope cl C X.env) fp) tg g gr) (ht : ∀ (s : Shared) (H : Hp) (C : Addr) (cl : List (Str × Addr)) (fp : List Addr), JTs (X.blk s H scope (compEnvC scope cl C X.env) fp) W0 ifs tt)
    (he : ∀ (s : Shared) (H : Hp) (C : Addr) (cl : List (Str × Addr)) (fp : List Addr), JE (X.blk s H scope (compEnvC scope cl C X.env) fp) W0 elt te) (hs : ∀ x, foldedSetIterable it X.env x = pure x := by intro _; rfl) :
    JE X W (.ListComp elt [⟨tg, it, ifs, 0⟩] scope pos) (kComp ti g tt te (own.map (·.2))) :=
  pe_mono (pe_lc hc hN hi ok (fun s H C cl fp => (hg s H C cl fp).pg) ht he hs) fun σ H Q h =>
    comp_sim (K := X.K) (fun v σ G M R H Q hv => ((hg X.s_0 H 0 [] []).val v σ G M R H Q hv)) (fun T vs σ G M R H Q hv => ((hg X.s_0 H 0 [] []).tup T vs σ G M R H Q hv)) h
theorem js_setComp {i : Nat} {y : Str} {ti : KI} {g : KG} {gr : TG} {tt : KT} {te : KE} (hc : X.calm = true) (hN : X.N.Nodup) (hsw : swapsWith (.ListComp elt [⟨tg, it, ifs, 0⟩] scope pos) (some (.Name y py)) spos.line X.env = pure true) (hi : JI X W tg it ti) (ok : BlkOk X.N X.env.scope scope own)
    (hg : ∀ (s : Shared) (H : Hp) (C : Addr) (cl : List (Str × Addr)) (fp : List Addr), JG (X.blk s H scope (compEnvC scope cl C X.env) fp) tg g gr) (ht : ∀ (s : Shared) (H : Hp) (C : Addr) (cl : List (Str × Addr)) (fp : List Addr), JTs (X.blk s H scope (compEnvC scope cl C X.env) fp) W0 ifs tt)
    (he : ∀ (s : Shared) (H : Hp) (C : Addr) (cl : List (Str × Addr)) (fp : List Addr), JE (X.blk s H scope (compEnvC scope cl C X.env) fp) W0 elt te) (hy : X.N[i]? = some y := by rfl) (hyl : X.env.scope.names.lookup y = some .local := by rfl) (hs : ∀ x, foldedSetIterable it X.env x = pure x := by intro _; rfl) :
    JS X W (.Assign [.Name y py] (.ListComp elt [⟨tg, it, ifs, 0⟩] scope pos) spos) (kSet i (kComp ti g tt te (own.map (·.2)))) :=
  ps_mono (ps_setLc hc hN hy hyl hsw hi ok (fun s H C cl fp => (hg s H C cl fp).pg) ht he hs) fun D σ H ⟨G, M, d, hv, h, en⟩ =>
    comp_sim (K := X.K) (fun v σ G M R H Q hv => ((hg X.s_0 H 0 [] []).val v σ G M R H Q hv)) (fun T vs σ G M R H Q hv => ((hg X.s_0 H 0 [] []).tup T vs σ G M R H Q hv))
      ⟨G, M, _, _, hv, h, fun v G' M' H' hv' q => en.nx _ G' M' H' hv' q, fun c a G' M' H' hv' q => en.xc c a σ G' M' H' hv' q⟩
end
/-! ### a def -/
/-- what is known may be weakened at the end -/
def wkR (R : KR) : KR := fun v G M => ∀ H, Hv G M H → ∃ G' M', Hv G' M' H ∧ R v G' M'
def wkX (Z : KX) : KX := fun c d G M => ∃ G' M', Wk G M G' M' ∧ Z c d G' M'
theorem ret0 {R : KR} {v : V} {G : Hp} {M : Mem} (h : R v G M) : wkR R v G M := fun _ hv => ⟨G, M, hv, h⟩
theorem retW {R : KR} {v : V} {G G' : Hp} {M M' : Mem} (w : Wk G M G' M') (h : R v G' M') : wkR R v G M := fun H hv => ⟨G', M', w H hv, h⟩
section
variable {P : Program} {w : World} {K : PySem.W.Frag} {mg : Str → Option Value} {base : Heap}
theorem fn_ok {x qual : Str} {st : Stmt} {f : Addr} {fd : FuncData} {N ps : List Str} {k : Nat} {S : KSp} (F : Fun K x qual st f fd) (sc : FnScope N ps (defScope st)) (len : ∀ vs G M R X, S vs G M R X → vs.length = ps.length)
    (hbody : ∀ (cdv : Value) (A : Around) (outer : List Env) (s : Shared) (H : Hp) (E : XK), Room k (A.deeper (envOfC qual (defScope st) s.heap.objs.size f cdv)) →
      ∃ t, JSs (cxOf (L2.CX P w) P w K mg base N qual (defScope st) f cdv A outer s H E) (fun c d _ H => E c d H) (defBody st) t ∧
        ∀ vs G M R Z, S vs G M R Z → t { nx := fun _ G M => wkR R .non G M, rt := wkR R, xc := fun c d _ G M => wkX Z c d G M } (start N vs) G M) : FnOk P w K mg base (L2.CX P w) (k + 1) f fd ps (lift S) := by
  refine F.okX sc (fun vs H Q E ⟨G, M, R, Z, _, h, _⟩ => len vs G M R Z h) fun cdv A outer s H vs Q E hr ⟨G, M, R, Z, hv, h, hR, hZ⟩ => ?_
  obtain ⟨t, j, q⟩ := hbody cdv A outer s H E hr
  exact ⟨_, j, G, M, _, hv, q vs G M R Z h, ⟨fun σ G M H hv h => (h H hv).elim fun G' h => h.elim fun M' h => hR _ G' M' H h.1 h.2, fun v G M H hv h => (h H hv).elim fun G' h => h.elim fun M' h => hR _ G' M' H h.1 h.2, fun _ _ _ _ _ z => z.elim, fun _ _ _ _ _ z => z.elim, fun c a σ G M H hv ⟨G', M', w, q⟩ => hZ c a G' M' H (w H hv) q⟩⟩
/-- a def that keeps its promise -/
structure Def (P : Program) (w : World) (K : PySem.W.Frag) (mg : Str → Option Value) (base : Heap) (lev : Nat) (x : Str) (ps : List Str) (S : KSp) : Prop where
  ex : ∃ f fd, FnOk P w K mg base (L2.CX P w) lev f fd ps (lift S) ∧ mg x = some (.ref f) ∧ PySem.W.keepIn K (.ref f) = true ∧ Binds K fd ps []
end
section
variable {X : Cx} {W : WX} {pos p : Pos} {e : Expr} {es : List Expr} {x : Str} {k lev : Nat} {ps : List Str} {S : KSp} {t : KA}
theorem je_callD (D : Def X.prog X.w X.K X.mg X.base lev x ps S) (hr : Room k X.A) (tk : Takes X W) (ha : JA X W (e :: es) t) (hl : lev ≤ k := by decide) (hg : Gl X x := by rfl)
    (hdb : (x == ("__debug__" : Str)) = false := by decide) (he : starEach (e :: es) X.env = (false, eval e X.env) :: starEach es X.env := by rfl) (hpl : (backTo pos (starEach es X.env)).any (·.1) = false := by rfl) :
    JE X W (.Call (.Name x p) (e :: es) [] pos) (kCall S t) := by
  obtain ⟨f, fd, F, hm, hk, hb⟩ := D.ex
  exact je_call (F.mono hl) hr tk hm hk hb ha hg hdb he hpl
end
end BT
set_option Elab.async false
set_option linter.all false
set_option maxRecDepth 100000
set_option maxHeartbeats 4000000
namespace BT
open PySem PySem.Spec L2
open PyProof.Rows hiding St
/-! ### promises by the number of arguments -/
def sp1 (f : V → Hp → Mem → KR → KX → Prop) : KSp := fun vs G M R Z => match vs with
  | [x] => f x G M R Z
  | _ => False
def sp2 (f : V → V → Hp → Mem → KR → KX → Prop) : KSp := fun vs G M R Z => match vs with
  | [x, y] => f x y G M R Z
  | _ => False
def sp3 (f : V → V → V → Hp → Mem → KR → KX → Prop) : KSp := fun vs G M R Z => match vs with
  | [x, y, z] => f x y z G M R Z
  | _ => False
def sp4 (f : V → V → V → V → Hp → Mem → KR → KX → Prop) : KSp := fun vs G M R Z => match vs with
  | [x, y, z, u] => f x y z u G M R Z
  | _ => False
def sp5 (f : V → V → V → V → V → Hp → Mem → KR → KX → Prop) : KSp := fun vs G M R Z => match vs with
  | [x, y, z, u, t] => f x y z u t G M R Z
  | _ => False
section
variable {vs : List V} {G : Hp} {M : Mem} {R : KR} {Z : KX}
theorem sp1_of {f} (h : sp1 f vs G M R Z) : ∃ x, vs = [x] ∧ f x G M R Z := by
  match vs, h with
  | [x], h => exact ⟨x, rfl, h⟩
theorem sp2_of {f} (h : sp2 f vs G M R Z) : ∃ x y, vs = [x, y] ∧ f x y G M R Z := by
  match vs, h with
  | [x, y], h => exact ⟨x, y, rfl, h⟩
theorem sp3_of {f} (h : sp3 f vs G M R Z) : ∃ x y z, vs = [x, y, z] ∧ f x y z G M R Z := by
  match vs, h with
  | [x, y, z], h => exact ⟨x, y, z, rfl, h⟩
theorem sp4_of {f} (h : sp4 f vs G M R Z) : ∃ x y z u, vs = [x, y, z, u] ∧ f x y z u G M R Z := by
  match vs, h with
  | [x, y, z, u], h => exact ⟨x, y, z, u, rfl, h⟩
theorem sp5_of {f} (h : sp5 f vs G M R Z) : ∃ x y z u t, vs = [x, y, z, u, t] ∧ f x y z u t G M R Z := by
  match vs, h with
  | [x, y, z, u, t], h => exact ⟨x, y, z, u, t, rfl, h⟩
theorem sp_len1 {f} (h : sp1 f vs G M R Z) : vs.length = 1 := by obtain ⟨_, rfl, _⟩ := sp1_of h; rfl
theorem sp_len2 {f} (h : sp2 f vs G M R Z) : vs.length = 2 := by obtain ⟨_, _, rfl, _⟩ := sp2_of h; rfl
theorem sp_len3 {f} (h : sp3 f vs G M R Z) : vs.length = 3 := by obtain ⟨_, _, _, rfl, _⟩ := sp3_of h; rfl
theorem sp_len4 {f} (h : sp4 f vs G M R Z) : vs.length = 4 := by obtain ⟨_, _, _, _, rfl, _⟩ := sp4_of h; rfl
theorem sp_len5 {f} (h : sp5 f vs G M R Z) : vs.length = 5 := by obtain ⟨_, _, _, _, _, rfl, _⟩ := sp5_of h; rfl
end
/-- what a body has at its ends -/
abbrev ends (R : KR) (Z : KX) : Kd := { nx := fun _ G M => wkR R .non G M, rt := wkR R, xc := fun c d _ G M => wkX Z c d G M }
/-! ### small helps -/
section
variable {K : PySem.W.Frag} {G : Hp} {M : Mem} {a p : Addr} {xs : List V} {o : HO} {n : Nat}
theorem lst_n (h : M[n]? = some (a, .lst xs)) : SeqAt' K G M a xs := .inl (.inl (List.mem_of_getElem? h))
theorem lat_n (h : M[n]? = some (a, .lst xs)) : LstAt K G M a xs := .inl (List.mem_of_getElem? h)
theorem lst_g (h : SqL K G a xs) : SeqAt' K G M a xs := .inl (.inr h)
theorem lat_g (h : SqL K G a xs) : LstAt K G M a xs := .inr h
theorem at_n (h : M[n]? = some (a, o)) : At G M a o := .inl (List.mem_of_getElem? h)
theorem set_n {x : Addr × HO} (h : M[n]? = some (p, o)) : (M.set n x)[n]? = some x := List.getElem?_set_self (List.getElem?_eq_some_iff.mp h).1
theorem sqt_new {xs : List V} : SqT K (upd G p (.tup xs)) p xs := .inl (.inl upd_same)
theorem sql_new {xs : List V} : SqL K (upd G p (.lst xs)) p xs := .inl (.inl upd_same)
theorem ite2' {c : Bool} {A B : Prop} (h1 : c = true → A) (h2 : c = false → B) : if c = true then A else B := by
  cases c with
  | true => rw [if_pos rfl]; exact h1 rfl
  | false => rw [if_neg Bool.false_ne_true]; exact h2 rfl
theorem sz {n : Nat} (h : n ≤ 16777216) : n ≤ sizeLine := h
theorem tyl_n (h : M[n]? = some (a, .lst xs)) : ∀ H, Hv G M H → tyV K "list" (.ref a) H := fun H hv => .inl ⟨rfl, xs, .inl (.inl (hv.get h))⟩
end
/-! ### the law's pool of numbers -/
def pool (c s : Int) : HO := .lst [.int c, .int s]
def PoolOk (s : Int) : Prop := 0 ≤ s ∧ s < 2147483647
def S_law_take (K : PySem.W.Frag) : KSp := sp2 fun x y G M R Z => ∃ (p : Addr) (m : Int) (n : Nat) (c s : Int), x = .ref p ∧ y = .int m ∧ M[n]? = some (p, pool c s) ∧ PoolOk s ∧ 0 < m ∧ m < 2 ^ 200 ∧
  ∀ r c' s', 0 ≤ r → r < m → PoolOk s' → R (.int r) G (M.set n (p, pool c' s'))
def S_law_pool (K : PySem.W.Frag) : KSp := sp2 fun x y G M R Z => ∃ (a : Addr) (ns : List Int) (k : Int), x = .ref a ∧ y = .int k ∧ SqL K G a (ns.map V.int) ∧ 0 ≤ k ∧ k ≤ 100 ∧ ns.length ≤ 63 ∧
  ∀ p c s, Fr G M p → PoolOk s → R (.ref p) G ((p, pool c s) :: M)
end BT
set_option Elab.async false
set_option linter.all false
set_option maxRecDepth 100000
set_option maxHeartbeats 4000000
namespace BT
open PySem PySem.Spec L2
open PyProof.Rows hiding St
/-! ### shapes of data -/
inductive Shp : Nat → PyData → Prop
  | non {n} : Shp n .none
  | bl {n b} : Shp n (.bool b)
  | int {n i} : Shp n (.int i)
  | str {n x} : PyData.strOk x = true → Shp n (.str x)
  | list {n ds} : (∀ d, d ∈ ds → Shp n d) → Shp (n + 1) (.list ds)
  | tuple {n ds} : (∀ d, d ∈ ds → Shp n d) → Shp (n + 1) (.tuple ds)
theorem shp_all {n : Nat} (ih : ∀ d, Shp n d → d.canLay0 = true ∧ d.depth ≤ n) : ∀ ds : List PyData, (∀ d, d ∈ ds → Shp n d) → PyData.canLayAll0 ds = true ∧ PyData.depthAll ds ≤ n
  | [], _ => by
    refine ⟨by simp [PyData.canLayAll0], by simp [PyData.depthAll]⟩
  | d :: ds, h => by
    obtain ⟨a, b⟩ := ih d (h d List.mem_cons_self)
    obtain ⟨c, e⟩ := shp_all ih ds fun x hx => h x (List.mem_cons_of_mem _ hx)
    refine ⟨by simp [PyData.canLayAll0, a, c], ?_⟩
    show max d.depth (PyData.depthAll ds) ≤ n
    omega
theorem shp_of : ∀ (n : Nat) (d : PyData), Shp n d → d.canLay0 = true ∧ d.depth ≤ n
  | n, _, .non => by refine ⟨by simp [PyData.canLay0], by simp [PyData.depth]⟩
  | n, _, .bl => by refine ⟨by simp [PyData.canLay0], by simp [PyData.depth]⟩
  | n, _, .int => by refine ⟨by simp [PyData.canLay0], by simp [PyData.depth]⟩
  | n, _, .str h => by refine ⟨by simp [PyData.canLay0, h], by simp [PyData.depth]⟩
  | n + 1, .list ds, .list h => by
    obtain ⟨a, b⟩ := shp_all (shp_of n) ds h
    refine ⟨by simp [PyData.canLay0, a], ?_⟩
    show PyData.depthAll ds + 1 ≤ n + 1
    omega
  | n + 1, .tuple ds, .tuple h => by
    obtain ⟨a, b⟩ := shp_all (shp_of n) ds h
    refine ⟨by simp [PyData.canLay0, a], ?_⟩
    show PyData.depthAll ds + 1 ≤ n + 1
    omega
theorem Shp.shaped {n : Nat} {d : PyData} (h : Shp n d) (hn : n ≤ 64) : SeqAt.shaped d = true := by
  obtain ⟨a, b⟩ := shp_of n d h
  unfold SeqAt.shaped
  rw [a, decide_eq_true (Nat.le_trans b hn)]; rfl
theorem Shp.refl {n : Nat} {d : PyData} (h : Shp n d) : PyData.eqv d d = true := by
  obtain ⟨a, b⟩ := shp_of n d h
  exact SeqAt.eqv_refl d a
/-! ### data known -/
section
variable {K : PySem.W.Frag} {G G' : Hp} {M : Mem} {a : Addr} {v : V} {d : PyData} {vs : List V} {ds : List PyData}
def DatAll (K : PySem.W.Frag) (G : Hp) (M : Mem) (vs : List V) (ds : List PyData) : Prop := ∀ H, Hv G M H → DpAll K H vs ds
theorem dat_g (h : Dp K G v d) : DatAt K G M v d := fun H hv => ex_d hv.exx d h
theorem dats_g (h : DpAll K G vs ds) : DatAll K G M vs ds := fun H hv => ex_ds hv.exx ds h
theorem dat_list (h : LstAt K G M a vs) (hs : DatAll K G M vs ds) : DatAt K G M (.ref a) (.list ds) := fun H hv => .lst (hv.lst h) (hs H hv)
theorem dat_int {i : Int} : DatAt K G M (.int i) (.int i) := fun H hv => .int i
theorem dat_str {i : Str} : DatAt K G M (.str i) (.str i) := fun H hv => .str i
theorem dats_nil : DatAll K G M [] [] := fun H hv => .nil
theorem dats_cons (h : DatAt K G M v d) (hs : DatAll K G M vs ds) : DatAll K G M (v :: vs) (d :: ds) := fun H hv => .cons (h H hv) (hs H hv)
theorem dpall_snoc : ∀ {vs : List V} {ds : List PyData}, DpAll K G vs ds → Dp K G v d → DpAll K G (vs ++ [v]) (ds ++ [d])
  | _, _, .nil, h => .cons h .nil
  | _, _, .cons a b, h => .cons a (dpall_snoc b h)
theorem dpall_len : ∀ {vs : List V} {ds : List PyData}, DpAll K G vs ds → vs.length = ds.length
  | _, _, .nil => rfl
  | _, _, .cons _ b => by simp [dpall_len b]
theorem dpall_get : ∀ {vs : List V} {ds : List PyData} {i : Nat} {d : PyData}, DpAll K G vs ds → ds[i]? = some d → ∃ v, vs[i]? = some v ∧ Dp K G v d
  | _, _, _, _, .nil, e => by simp at e
  | _, _, 0, _, .cons a _, e => by
    rw [List.getElem?_cons_zero] at e
    cases e; exact ⟨_, rfl, a⟩
  | _, _, i + 1, d, .cons _ b, e => by
    obtain ⟨v, h1, h2⟩ := dpall_get (i := i) (d := d) b (by simpa using e)
    exact ⟨v, by simpa using h1, h2⟩
theorem dp_int_inv {i : Int} (h : Dp K G v (.int i)) : v = .int i := by cases h; rfl
theorem dp_tup_inv (h : Dp K G v (.tuple ds)) : ∃ t xs, v = .ref t ∧ SqT K G t xs ∧ DpAll K G xs ds := by
  cases h with
  | tup s a => exact ⟨_, _, rfl, s, a⟩
theorem dpall_ints_inv : ∀ {vs : List V} {ns : List Int}, DpAll K G vs (ns.map .int) → vs = ns.map V.int
  | _, [], h => by cases h; rfl
  | _, n :: ns, h => by
    cases h with
    | cons a b =>
      have e := dp_int_inv a
      subst e
      rw [dpall_ints_inv b]; rfl
end
/-! ### pairs of ints -/
/-! ### lists of ints by place -/
section
theorem atI_int {ns : List Int} {k : Int} (h0 : 0 ≤ k) (h1 : k < ns.length) : atI (ns.map V.int) k = some (.int (ns.getD k.toNat 0)) := by
  obtain ⟨j, rfl⟩ : ∃ j : Nat, k = j := ⟨k.toNat, by omega⟩
  have hj : j < ns.length := by omega
  refine atI_nat ?_
  rw [List.getElem?_map, List.getElem?_eq_getElem hj, Int.toNat_natCast, List.getD_eq_getElem?_getD, List.getElem?_eq_getElem hj]; rfl
theorem ixN_int {n : Nat} {k : Int} (h0 : 0 ≤ k) (h1 : k < n) : ixN n k = some k.toNat := by
  unfold ixN
  rw [if_pos h0, if_pos h1]
theorem lat_cons {K : PySem.W.Frag} {G : Hp} {M : Mem} {a : Addr} {xs : List V} {x : Addr × HO} (h : LstAt K G M a xs) : LstAt K G (x :: M) a xs := by
  rcases h with h | h
  · exact .inl (List.mem_cons_of_mem _ h)
  · exact .inr h
theorem lat_ex {K : PySem.W.Frag} {G G' : Hp} {M : Mem} {a : Addr} {xs : List V} (e : Ex G G') (h : LstAt K G M a xs) : LstAt K G' M a xs := by
  rcases h with h | h
  · exact .inl h
  · exact .inr (ex_l e h)
theorem lat_0 {K : PySem.W.Frag} {G : Hp} {M : Mem} {a : Addr} {xs : List V} : LstAt K G ((a, .lst xs) :: M) a xs := .inl List.mem_cons_self
theorem seq_0 {K : PySem.W.Frag} {G : Hp} {M : Mem} {a : Addr} {xs : List V} : SeqAt' K G ((a, .lst xs) :: M) a xs := .inl lat_0
theorem mul_l {i j : Int} (h0 : -(2 ^ 64) < i) (h1 : i < 2 ^ 64) : MulOk i j := .inl (.inl ⟨h0, h1⟩)
theorem mul_r {i j : Int} (h0 : -(2 ^ 64) < j) (h1 : j < 2 ^ 64) : MulOk i j := .inl (.inr ⟨h0, h1⟩)
theorem divW {m : Int} (h0 : 0 < m) (h1 : m < 2 ^ 200) (c : Int) : CDivW c m := wide_div (b := 200) h0 (by omega) (by decide) (by decide)
theorem sz0 : (0 : Nat) ≤ sizeLine := by decide
theorem sz1 : (1 : Nat) ≤ sizeLine := by decide
theorem sz2 : (2 : Nat) ≤ sizeLine := by decide
theorem sz3 : (3 : Nat) ≤ sizeLine := by decide
theorem sz4 : (4 : Nat) ≤ sizeLine := by decide
theorem pow10_18 : CPow 10 18 := ⟨by decide, by decide, by decide⟩
end
end BT
namespace BT
open PySem PySem.Spec L2
section
variable {K : PySem.W.Frag} {G : Hp} {M : Mem} {a b : Addr} {vs ws : List V} {i : Nat} {v u : V} {g : KG} {σ : St} {R : St → Hp → Mem → Prop}
theorem asg_L (h : vs[i]? = some v) (q : g.val v σ G M R) : asg g ((srcL K a vs).get i) σ G M R := by
  show g.val (vs.getD i .non) σ G M R
  rw [getD_of h]; exact q
theorem asg_T (h : vs[i]? = some v) (q : g.val v σ G M R) : asg g ((srcT K a vs).get i) σ G M R := by
  show g.val (vs.getD i .non) σ G M R
  rw [getD_of h]; exact q
theorem asg_V (h : vs[vs.length - 1 - i]? = some v) (q : g.val v σ G M R) : asg g ((srcV K a vs).get i) σ G M R := by
  show g.val (vs.getD (vs.length - 1 - i) .non) σ G M R
  rw [getD_of h]; exact q
theorem asg_E (h : vs[i]? = some v) (q : g.tup [.int i, v] σ G M R) : asg g ((srcE K a vs).get i) σ G M R := by
  show g.tup [.int i, vs.getD i .non] σ G M R
  rw [getD_of h]; exact q
end
end BT
namespace BT
open PySem PySem.Spec L2
/-- a cell becomes frozen -/
theorem frz {G : Hp} {M : Mem} {p : Addr} (o : HO) (h : Fr G M p) : ∃ G', Ex G G' ∧ G' p = some o ∧ Wk G ((p, o) :: M) G' M ∧ ∀ q M0, Fr G M0 q → q ≠ p → Fr G' M0 q :=
  ⟨upd G p o, Ex.new h, upd_same, Wk.frz0, fun q M0 f hq => ⟨by rw [upd_ne hq]; exact f.1, f.2⟩⟩
theorem Wk.nil' {G : Hp} {M : Mem} : Wk G M G [] := fun H h => ⟨h.ex, fun _ z => (nomatch z), List.nodup_nil, fun _ z => (nomatch z)⟩
theorem sql_of {K : PySem.W.Frag} {G : Hp} {a : Addr} {xs : List V} (h : G a = some (.lst xs)) : SqL K G a xs := .inl (.inl h)
theorem Fr.cons {G : Hp} {M : Mem} {p : Addr} {x : Addr × HO} (h : Fr G (x :: M) p) : Fr G M p := ⟨h.1, fun y hy => h.2 y (List.mem_cons_of_mem _ hy)⟩
end BT
set_option Elab.async false
set_option linter.all false
set_option maxRecDepth 100000
set_option maxHeartbeats 4000000
namespace BT
open PySem PySem.Spec L2
open PyProof.Rows hiding St
/-- the slots at a body's start -/
def sta (n : Nat) (vs : List V) : St := vs.map some ++ List.replicate (n - vs.length) none
/-! ### ranges with a step -/
theorem rg_up {i j c : Int} (hc : 0 < c) (hc2 : c < 1000000) (hi : -1000000000000 < i) (hi2 : i < 1000000000000) (hj : -1000000000000 < j) (hj2 : j < 1000000000000) :
    RgC i j c (if i < j then ((j - i - 1) / c + 1).toNat else 0) := by
  have e : Builtin.Range.rangeSize i j c = if i < j then (j - i - 1) / c + 1 else 0 := by
    unfold Builtin.Range.rangeSize
    rw [if_pos hc]
  have hb : 0 ≤ (j - i - 1) / c ∨ ¬ i < j := by
    by_cases h : i < j
    · exact .inl (Int.ediv_nonneg (by omega) (by omega))
    · exact .inr h
  have hb2 : (j - i - 1) / c ≤ 2000000000000 ∨ ¬ i < j := by
    by_cases h : i < j
    · left
      have := Int.ediv_le_self c (show 0 ≤ j - i - 1 by omega)
      omega
    · exact .inr h
  refine ⟨by omega, by omega, ?_, ?_⟩
  · unfold Builtin.Range.small
    rw [e]
    simp only [Builtin.Range.rangeFitsLong, Bool.and_eq_true, Bool.or_eq_true, decide_eq_true_eq, beq_iff_eq, hc, gt_iff_lt, if_true]
    by_cases h : i < j
    · rw [if_pos h]; omega
    · rw [if_neg h]; omega
  · rw [e]
    by_cases h : i < j
    · rw [if_pos h, if_pos h]; omega
    · rw [if_neg h, if_neg h]; rfl
theorem rg_down {i j : Int} (hi : -1000000000000 < i) (hi2 : i < 1000000000000) (hj : -1000000000000 < j) (hj2 : j < 1000000000000) : RgC i j (-1) (i - j).toNat :=
  RgC.neg (by omega) (by omega) (by omega) (by omega)
section
variable {X : Cx} {W : WX} {pos : Pos} {a b c e : Expr} {es : List Expr}
/-! ### sorted, xs[::-1] -/
/-! ### in, not in: flat things in a list or a tuple -/
def kIn (neg : Bool) (K : PySem.W.Frag) : KR2 := fun x y G M R => match y with
  | .ref a => ∃ xs, SeqAt' K G M a xs ∧ flatV x = true ∧ xs.all flatV = true ∧ R (.bl (if neg then !inV x xs else inV x xs)) G M
  | _ => False
theorem kop_in : KOp X (compareOp .In) (kIn false X.K) := kop_of op_in_seq fun x y G M R H Q hv h hR => by
  match y, h with
  | .ref a, ⟨xs, h1, h2, h3, h4⟩ => exact ⟨a, xs, rfl, h1.elim (fun q => .inl (hv.lst q)) (fun q => .inr (hv.tup q)), h2, h3, hR _ G M H hv h4⟩
/-! ### list.index, list.insert, tuple(xs), bool(x), list(range) -/
end
end BT
namespace BT
open PySem PySem.Spec L2
open PyProof.Rows hiding St
theorem cx_none {P : Program} {w : World} {l : List Env} {H : Hp} {s : Shared} {e : Value} {s' : Shared} (h : L2.CX P w l H s (fun _ _ _ => False) e s') : False := by
  obtain ⟨_, _, _, _, _, _, _, _, _, _, _, _, z⟩ := h
  exact z.elim
/-- a law's promise -/
def S_law (K : PySem.W.Frag) : KSp := sp1 fun x G M R Z => ∃ (a : Addr) (ns : List Int), x = .ref a ∧ SqL K G a (ns.map V.int) ∧ ns.length ≤ 63 ∧ ∀ G' M', R (.bl true) G' M'
theorem law_start {K : PySem.W.Frag} {H : Hp} {a : Addr} {ns : List Int} (hl : ns.length ≤ 63) (hS : SqL K H a (ns.map V.int)) : lift (S_law K) [.ref a] H (fun v _ => v = .bl true) fun _ _ _ => False :=
  ⟨H, [], fun v _ _ => v = .bl true, fun _ _ _ _ => False, Hv.self H, ⟨a, ns, rfl, hS, hl, fun _ _ => rfl⟩, fun _ _ _ _ _ h => h, fun _ _ _ _ _ _ z => z⟩
end BT
namespace BT
open PySem PySem.Spec L2
open PyProof.Rows hiding St
/-! ### is of None and of truths -/
def kIs2 (neg : Bool) : KR2 := fun x y G M R => match x, y with
  | .bl a, .bl b => R (.bl (if neg then !decide (a = b) else decide (a = b))) G M
  | x, .non => R (.bl (if neg then !decide (x = .non) else decide (x = .non))) G M
  | _, _ => False
theorem kop_is2 {X : Cx} : KOp X (compareOp .Is) (kIs2 false) := fun pins s σ H x y v u Q G M R I rx ry hv h hR => by
  cases y <;> cases x <;> first
    | exact op_isBl pins s σ H _ _ v u Q I rx ry ⟨_, _, rfl, rfl, hR _ G M H hv h⟩
    | exact op_isN pins s σ H _ _ v u Q I rx ry ⟨rfl, hR _ G M H hv h⟩
    | exact h.elim
theorem kop_isnot2 {X : Cx} : KOp X (compareOp .IsNot) (kIs2 true) := fun pins s σ H x y v u Q G M R I rx ry hv h hR => by
  cases y <;> cases x <;> first
    | exact op_notBl pins s σ H _ _ v u Q I rx ry ⟨_, _, rfl, rfl, hR _ G M H hv h⟩
    | exact op_notN pins s σ H _ _ v u Q I rx ry ⟨rfl, hR _ G M H hv h⟩
    | exact h.elim
/-! ### types of values -/
inductive PT | int | bool | non | str | list | tuple | dict
  deriving DecidableEq
def PT.name : PT → String
  | .int => "int" | .bool => "bool" | .non => "NoneType" | .str => "str" | .list => "list" | .tuple => "tuple" | .dict => "dict"
def TyK (K : PySem.W.Frag) (G : Hp) (M : Mem) (x : V) (T : PT) : Prop := ∀ H, Hv G M H → TyX K H x (.type T.name)
section
variable {K : PySem.W.Frag} {G : Hp} {M : Mem} {a : Addr} {xs : List V} {n : Nat}
theorem ty_int {i : Int} : TyK K G M (.int i) .int := fun H hv => .base (.int i)
theorem ty_bl {i : Bool} : TyK K G M (.bl i) .bool := fun H hv => .base (.bl i)
theorem ty_non : TyK K G M .non .non := fun H hv => .base .non
theorem ty_str {i : Str} : TyK K G M (.str i) .str := fun H hv => .base (.str i)
theorem ty_lst (h : LstAt K G M a xs) : TyK K G M (.ref a) .list := fun H hv => by
  rcases hv.lst h with (z | ⟨o, z⟩) | ⟨o, its, m, z1, z2, _⟩
  · exact .base (.lst z)
  · exact .base (.frz z)
  · exact .kList z1 z2
theorem ty_tup (h : SqT K G a xs) : TyK K G M (.ref a) .tuple := fun H hv => by
  rcases hv.tup h with (z | ⟨o, z⟩) | ⟨o, its, m, z1, z2, _⟩
  · exact .base (.tup z)
  · exact .fTuple z
  · exact .kTuple z1 z2
theorem ty_dict {kvs : List (Key × V)} (h : At G M a (.dK kvs)) : TyK K G M (.ref a) .dict := fun H hv => .base (.dK (hv.at h))
/-- isinstance(x, T): both answers -/
def isaB (T U : PT) : Bool := T == U || (T == .bool && U == .int)
theorem kit_pt (T U : PT) : PySem.W.kitOne K (.type T.name) (.type U.name) = some (isaB T U) := by
  cases T <;> cases U <;> exact kit_ty (by decide +kernel)
theorem isi_pt {x : V} {T : PT} {R : KR} (U : PT) (h : TyK K G M x T) (q : R (.bl (isaB T U)) G M) : kIsi K [x, .ty U.name] G M R :=
  ⟨.type T.name, .type U.name, _, .ty U.name, h, kit_pt T U, q⟩
end
end BT
namespace BT
open PySem PySem.Spec L2
/-! ### steps by name -/
section
variable {D : Kd} {σ : St} {G : Hp} {M : Mem} {i : Nat} {te ta tb : KE}
theorem kset_of (h : te σ G M (fun v G M => D.nx (σ.set i (some v)) G M) (D.x σ)) : kSet i te D σ G M := h
end
end BT
set_option Elab.async false
set_option linter.all false
set_option maxRecDepth 100000
set_option maxHeartbeats 4000000
namespace BT
open PySem PySem.Spec L2
open PyProof.Rows hiding St
/-! ### own errors: raised, caught, held -/
/-- the address of a class, by its name -/
def cl (K : PySem.W.Frag) (x : Str) : Addr := match PySem.W.nsIn K mainGlobals x with
  | some (some (.ref a)) => a
  | _ => 0
theorem cl_of {K : PySem.W.Frag} {x : Str} {C : Addr} (a : PySem.W.nsIn K mainGlobals x = some (some (.ref C))) : cl K x = C := by
  unfold cl
  rw [a]
/-- a class that is known -/
structure XG (K : PySem.W.Frag) (mg : Str → Option Value) (x : Str) : Prop where
  g : mg x = some (.ref (cl K x))
  k : PySem.W.keepIn K (.ref (cl K x)) = true
/-- a class without own __init__ under ValueError, to be raised -/
structure XR (K : PySem.W.Frag) (x : Str) : Prop where
  n : PySem.W.excIn K (cl K x) [.type "ValueError", .type "Exception", .type "BaseException", .type "object"] "ValueError.__new__" = true
  b : PySem.W.subIn K (.ref (cl K x)) (.type "BaseException") = some true
  t : PySem.W.typeIn K (.ref (cl K x)) = some (.type "type")
theorem xg_mk {K : PySem.W.Frag} {mg : Str → Option Value} {h : Heap} {x : Str} {C : Addr} (X : K.In h) (G : h.Ns mainGlobals mg) (a : PySem.W.nsIn K mainGlobals x = some (some (.ref C))) (k : PySem.W.keepIn K (.ref C) = true) : XG K mg x := by
  have e := cl_of a
  exact ⟨by rw [e]; exact PySem.W.mg_of X G a, by rw [e]; exact k⟩
theorem xr_mk {K : PySem.W.Frag} {x : Str} {C : Addr} (a : PySem.W.nsIn K mainGlobals x = some (some (.ref C)))
    (q : PySem.W.excIn K C [.type "ValueError", .type "Exception", .type "BaseException", .type "object"] "ValueError.__new__" = true)
    (b : PySem.W.subIn K (.ref C) (.type "BaseException") = some true) (t : PySem.W.typeIn K (.ref C) = some (.type "type")) : XR K x := by
  have e := cl_of a
  exact ⟨by rw [e]; exact q, by rw [e]; exact b, by rw [e]; exact t⟩
theorem xe_mk {K : PySem.W.Frag} {x : Str} {C : Addr} (a : PySem.W.nsIn K mainGlobals x = some (some (.ref C))) (q : ExcC K C) : ExcC K (cl K x) := by
  rw [cl_of a]
  exact q
section
variable {X : Cx} {W : WX} {pos : Pos}
/-- raise C('m') -/
def kRaise (K : PySem.W.Frag) (x : Str) : KS := fun D σ G M => D.xc (.ref (cl K x)) none σ G M
theorem js_raise {x m : Str} {j : Nat} {p p2 pos2 : Pos} (g : XG X.K X.mg x) (r : XR X.K x) (tk : Takes X W) (hc : X.calm = true := by rfl) (hg : Gl X x := by rfl) (hdb : (x == ("__debug__" : Str)) = false := by decide) :
    JS X W (.Raise (some (.Call (.Name x p) [.Constant (.str m) j p2] [] pos2)) none pos) (kRaise X.K x) :=
  ps_mono (ps_raise hc tk (pmk_own PySem.F.excBase_ValueError r.n g.g g.k (raises_own r.b r.t) hg hdb)) fun D σ H ⟨G, M, d, hv, h, en⟩ => en.xc _ _ _ _ _ _ hv h

/-- a caught error that is held: its class and its dict -/
def ExT (cls : Value) (d : Option Addr) (a : Addr) : HO := .ext fun h => ∃ (oe : Obj) (vs : Array Value), h.get? a = some oe ∧ Zc cls d oe ∧ oe.data = .fields vs
theorem exT_ok {P : Program} {w : World} {H : Hp} {h : Heap} {a : Addr} {cls : Value} {d : Option Addr} {oe : Obj} {vs : Array Value} (e : h.get? a = some oe) (z : Zc cls d oe) (q : oe.data = .fields vs) : ObjOk P w H h a (ExT cls d a) :=
  ⟨⟨oe, vs, e, z, q⟩, ⟨oe, e⟩, fun _ _ ⟨o, v, q, r⟩ k => ⟨o, v, k o q, r⟩⟩
/-- an object that nobody tracked is tracked from here on -/
theorem inv_track {pins : List (Addr × Obj)} {σ : St} {H : Hp} {s : Shared} {a : Addr} {o : HO} (I : Inv X pins σ H s) (n : H a = none) (n0 : X.s_0.heap.get? a = none) (nl : a ≠ X.env.locals)
    (nc : ∀ y c, X.env.cells.lookup y = some c → c ≠ a) (np : ∀ p ∈ X.pn ++ pins, p.1 ≠ a) (new : ObjOk X.prog X.w (upd H a o) s.heap a o) : Inv X pins σ (upd H a o) s := by
  have ne : ∀ b u, H b = some u → b ≠ a := fun b u e z => by
    rw [z, n] at e
    cases e
  refine ⟨I.ok, I.os, I.bare, ⟨I.base.keep, I.base.slot, fun b u e m x => ?_, I.base.there, fun b xs e => ?_, fun b u v e => ?_, fun b ps e => ?_⟩, I.loc, I.cell, ?_, fun y c e => ?_, fun p hp => ?_, fun b u e => ?_, I.len⟩
  · rw [upd_ne (fun z => by rw [z, n0] at e; cases e)]
    exact I.base.free b u e m x
  · have q := I.base.tups b xs e
    rw [upd_ne (ne b _ q)]
    exact q
  · have q := I.base.frzs b u v e
    rw [upd_ne (ne b _ q)]
    exact q
  · obtain ⟨m, q⟩ := I.base.tbls b ps e
    exact ⟨m, by rw [upd_ne (ne b _ q)]; exact q⟩
  · rw [upd_ne (Ne.symm nl)]
    exact I.free
  · rw [upd_ne (nc y c e)]
    exact I.freeC y c e
  · obtain ⟨p1, p2, p3, p4, p5⟩ := I.pin p hp
    exact ⟨p1, by rw [upd_ne (np p hp)]; exact p2, p3, p4, p5⟩
  · by_cases hb : b = a
    · subst hb
      rw [upd_same] at e
      cases e
      exact new
    · rw [upd_ne hb] at e
      exact (I.hok b u e).stay (fun c v _ q => q) (fun c q => by rw [upd_ne (ne c _ q)]; exact q) fun c xs q => by rw [upd_ne (ne c _ q)]; exact q
end

/-- what 'except x as n: y = n' wishes of an error of the body -/
def wKeep (K : PySem.W.Frag) (c : Value) (i j : Nat) (Wout : WX) (D : Ends) : WX := fun cls d σ H => ∃ b, PySem.W.exmOne K cls c = some b ∧
  (b = true → ∀ a, H a = none → D.nx (((σ.set i (some (.ref a))).set j (some (.ref a))).set i none) (upd H a (ExT cls d a))) ∧ (b = false → Wout cls d σ H)
section
variable {X : Cx} {x n y : Str} {c : Value} {i j : Nat} {body : List Stmt} {np pos pos' q1 q2 q3 : Pos} {tb : WX → TS} {Wout : WX}
theorem ps_try_keep (hs : X.stack = X.env :: X.outer) (hf : X.env.frame = some X.env.locals) (hx : X.ex = []) (hN : X.N.Nodup) (hi : X.N[i]? = some n) (hj : X.N[j]? = some y) (hln : X.env.kindOf n = some .local) (hlj : Loc X.env.scope y) (hij : i ≠ j)
    (hfy : X.fn y = true ∨ X.env.scope.names.lookup y = some .local) (hdn : (n == ("__debug__" : Str)) = false) (hcn : (n == ("__classdict__" : Str)) = false)
    (hsw : swapsWith (.Name n q2) (some (.Name y q1)) q3.line X.env = pure false) (hc : Names X x c) (tk : Takes X Wout)
    (hb : ∀ (W : WX) (pn : List (Addr × Obj)) (xe : Value → Shared → Prop), Takes (X.tr pn xe) W → PassesOwn (model X.prog X.w) X.A X.env xe → PSs (X.tr pn xe) body (tb W)) :
    PS X (.Try body [.ExceptHandler (some (.Name x np)) (some n) [.Assign [.Name y q1] (.Name n q2) q3] pos'] [] [] pos) (fun D σ H => tb (wKeep X.K c i j Wout D) D σ H) := by
  refine ⟨fun pins s σ H D I h => ?_⟩
  have ok := I.ok
  have fr0 : X.A.frames = some (X.env :: X.outer) := by rw [ok.frames, hs]
  refine wpAny_Try_except ?_
  refine wpAny_mono ((hb (wKeep X.K c i j Wout D) (X.pn ++ pins) _ (fun u s' xx => ?_) PassesOwn.looking).run [] s σ H D (I.toTry _) h) (fun f s1 hsp => ?_) (fun e s1 he => he)
  · obtain ⟨a, B, sI, pins', σ', H', cls, d, rfl, J', nb, up, sky, na, os, ag, b, hb1, hyes, hno⟩ := xx
    have J : Inv X pins σ' H' sI := J'.ofTry ok
    have sky2 : Sky B (X.env :: X.outer) a (Zc cls d) X.env.locals s'.heap := by
      rw [← hs]
      exact sky
    show wpAny (model X.prog X.w) X.A (noteFrame (.ref a) X.env) _ _ _
    refine Sky.land Zc.steady fr0 hf sky2 fun h3 fl3 up3 => ?_
    have J3 : Inv X pins σ' H' { s' with heap := h3 } := J.landed nb fl3.1 (up.trans up3) os ag
    obtain ⟨oe3, vs3, he3, hz3, hd3⟩ := fl3.there
    have nfr : a ∉ frs (X.env :: X.outer) := fun hm => by
      obtain ⟨_, o', e', hnf⟩ := fl3.2.2.1.mem hm
      rw [he3] at e'
      cases e'
      exact hnf _ hd3
    have nL : a ≠ X.env.locals := fun z => nfr (List.mem_filterMap.mpr ⟨X.env, List.mem_cons_self, by rw [hf, z]⟩)
    have nF : a ∉ X.fs := fun hm => by
      obtain ⟨e, he, q⟩ := List.mem_filterMap.mp hm
      exact nfr (List.mem_filterMap.mpr ⟨e, List.mem_cons_of_mem _ he, q⟩)
    have nI : sI.heap.get? a = none := by
      cases e : sI.heap.get? a with
      | none => rfl
      | some o =>
        have z := nb a o e (by rw [hs]; exact nfr)
        rw [fl3.2.1] at z
        cases z
    have n0 : X.s_0.heap.get? a = none := by
      cases e : X.s_0.heap.get? a with
      | none => rfl
      | some o =>
        obtain ⟨o', z⟩ := J.base.there a o e (by rw [hx]; exact fun z => nomatch z)
        rw [nI] at z
        cases z
    have nc : ∀ w c, X.env.cells.lookup w = some c → c ≠ a := fun w c e z => by
      obtain ⟨v, o, ho, _⟩ := J.cell w c e
      rw [z, nI] at ho
      cases ho
    have npn : ∀ p ∈ X.pn ++ pins, p.1 ≠ a := fun p hp z => by
      obtain ⟨q, _⟩ := J.pin p hp
      rw [z, nI] at q
      cases q
    have S3 := J3.suite he3 hd3 na nL nF
    refine wpAny_handleBy_cons (codeAny_handlers_test ?_) (by intro q; cases q)
    have LT : PySem.W.Looks (model X.prog X.w) h3 (typeOf (.ref a)) cls := fun A Q E s k q => wpAny_typeOf_ref (k _ _ he3) (by rw [hz3.1]; exact q)
    have LM := PySem.W.exm_one (M := model X.prog X.w) (J3.kIn) LT hb1
    have look : ∀ {Q : Value → Shared → Prop} {E : Value → Shared → Prop}, Q c { s' with heap := h3 } → wpAny (model X.prog X.w) (X.A.mark (some (.ref a))) (eval (.Name x np) X.env) Q E { s' with heap := h3 } := fun {Q E} q => by
      obtain ⟨hg, hdbg, hm | ⟨hm, hv, hnn⟩⟩ := hc
      · exact ld_glob (X := X.suite a ((a, oe3) :: (X.pn ++ pins))) S3 hg hm q hdbg
      · exact ld_blt (X := X.suite a ((a, oe3) :: (X.pn ++ pins))) S3 hg hm hv q hnn hdbg
    refine look (LM.here ?_)
    cases b with
    | true =>
      refine codeAny_handlers_suite_as ?_
      refine HandSPX.lands_againZ fl3 fun h4 fl4 up4 => ?_
      have J4 : Inv X pins σ' H' { s' with heap := h4 } := J.landed nb fl4.1 ((up.trans up3).trans up4) os ag
      obtain ⟨oe4, vs4, he4, hz4, hd4⟩ := fl4.there
      have S4 := J4.suite he4 hd4 na nL nF
      refine store_ok (X := X.suite a ((a, oe4) :: (X.pn ++ pins))) (v := .ref a) S4 hN hi (.inl hln) rfl (fun s5 S5 => ?_) (.inr hln)
      have lenσ : σ'.length = X.N.length := J.len
      have hiσ : i < σ'.length := by
        rw [lenσ]
        exact (List.getElem?_eq_some_iff.mp hi).1
      have P1 : PSs (X.suite a ((a, oe4) :: (X.pn ++ pins))) [.Assign [.Name y q1] (.Name n q2) q3] (tSeq (tAsg (tVar i) (gName j)) tNext) :=
        pss_cons (ps_set hN hj hlj (pe_var hi (.inl hln) hdn hcn) hsw hfy) pss_nil
      refine wpAny_mono (P1.run [] s5 (σ'.set i (some (.ref a))) H' { nx := fun σ6 H6 => σ6 = (σ'.set i (some (.ref a))).set j (some (.ref a)) ∧ H6 = H', rt := fun _ _ => False, bk := fun _ _ => False, ct := fun _ _ => False } S5 ?_) (fun f s6 hsp => ?_) (fun _ _ z => False.elim z)
      · exact ⟨.ref a, by rw [List.getElem?_set_self hiσ], rfl, rfl⟩
      · cases f with
        | next =>
          obtain ⟨σ6, H6, S6, rfl, rfl⟩ := hsp
          refine gone_ok (X := X.suite a ((a, oe4) :: (X.pn ++ pins))) S6 hN hi hln fun s7 S7 => ?_
          obtain ⟨k1, k2, _⟩ := S7.pin (a, oe4) (List.mem_append.mpr (.inl List.mem_cons_self))
          exact ⟨_, _, inv_track (S7.unsuite ok) na n0 nL nc npn (exT_ok k1 hz4 hd4), hyes rfl a na⟩
        | brk => obtain ⟨_, _, _, z⟩ := hsp; exact z.elim
        | cont => obtain ⟨_, _, _, z⟩ := hsp; exact z.elim
        | ret u => obtain ⟨_, _, _, _, _, z⟩ := hsp; exact z.elim
    | false =>
      show wpAny _ X.A (handleBy (.ref a) X.env []) _ _ _
      refine wpAny_handleBy_nil ?_
      obtain ⟨k1, k2, k3, oe, vs, T, oT, ts', he, hz, hd, h1, hr⟩ := id fl3
      unfold PySem.passOn
      refine wpAny_bind (wpAny_field he hd h1 ?_)
      rw [if_neg (show ¬ ((Value.ref T == Value.none) = true) from by simp)]
      have fin : wpAny (model X.prog X.w) X.A (setFlight (.ref a) X.env.frame) (fun _ s4 => wpAny (model X.prog X.w) X.A (throw (.ref a) : Sem Flow) (SP X pins D) X.xe s4) X.xe { s' with heap := h3 } := by
        rw [hf]
        refine HandSPX.setFlight_upZ fl3 fun h4 hh4 up4 => wpAny_throw (tk _ _ ?_)
        exact ⟨a, B, sI, pins, σ', H', cls, d, rfl, J, nb, (up.trans up3).trans up4, .inr (.inr (by rw [hs]; exact hh4)), na, os, ag, hno rfl⟩
      first
        | exact wpAny_bind (wpAny_pure (wpAny_bind fin))
        | exact wpAny_bind fin
  · cases f with
    | next => obtain ⟨σ', H', J', q⟩ := hsp; exact wpAny_execs_nil ⟨σ', H', J'.ofTry ok, q⟩
    | brk => obtain ⟨σ', H', J', q⟩ := hsp; exact ⟨σ', H', J'.ofTry ok, q⟩
    | cont => obtain ⟨σ', H', J', q⟩ := hsp; exact ⟨σ', H', J'.ofTry ok, q⟩
    | ret u => obtain ⟨v, σ', H', J', r, q⟩ := hsp; exact ⟨v, σ', H', J'.ofTry ok, r, q⟩
end
/-! ### the readings -/
/-- an error of the class named x, held at a -/
def ErA (K : PySem.W.Frag) (x : Str) (d : Option Addr) (a : Addr) : HO := ExT (.ref (cl K x)) d a
/-- try: t, except C as n (slot i): y = n (slot j); the classes that the law knows, and whether they stand under C -/
def kTry (K : PySem.W.Frag) (tab : List (Str × Bool)) (i j : Nat) (t : KS) : KS := fun D σ G M => t { D with xc := fun c d σ' G' M' => ∃ p ∈ tab, c = .ref (cl K p.1) ∧
  (if p.2 = true then ∀ a, Fr G' M' a → D.nx (((σ'.set i (some (.ref a))).set j (some (.ref a))).set i none) (upd G' a (ErA K p.1 d a)) M' else D.xc c d σ' G' M') } σ G M
section
variable {X : Cx} {W : WX} {pos : Pos}
theorem js_try {K : PySem.W.Frag} {x n y : Str} {i j : Nat} {tab : List (Str × Bool)} {body : List Stmt} {t : KS} {np pos' q1 q2 q3 : Pos} (g : XG X.K X.mg x) (ht : ∀ p ∈ tab, PySem.W.exmOne X.K (.ref (cl X.K p.1)) (.ref (cl X.K x)) = some p.2) (hN : X.N.Nodup) (tk : Takes X W)
    (hb : ∀ (W : WX) (pn : List (Addr × Obj)) (xe : Value → Shared → Prop), Takes (X.tr pn xe) W → PassesOwn (model X.prog X.w) X.A X.env xe → JSs (X.tr pn xe) W body t)
    (hK : X.K = K := by rfl) (hs : X.stack = X.env :: X.outer := by rfl) (hf : X.env.frame = some X.env.locals := by rfl) (hx : X.ex = [] := by rfl) (hi : X.N[i]? = some n := by rfl) (hj : X.N[j]? = some y := by rfl)
    (hln : X.env.kindOf n = some .local := by rfl) (hlj : Loc X.env.scope y := by first | exact Or.inl rfl | exact Or.inr rfl) (hij : i ≠ j := by decide)
    (hfy : X.fn y = true ∨ X.env.scope.names.lookup y = some .local := by first | exact .inl rfl | exact .inr rfl) (hdn : (n == ("__debug__" : Str)) = false := by decide) (hcn : (n == ("__classdict__" : Str)) = false := by decide)
    (hsw : swapsWith (.Name n q2) (some (.Name y q1)) q3.line X.env = pure false := by rfl) (hg : Gl X x := by rfl) (hxd : (x == ("__debug__" : Str)) = false := by decide) :
    JS X W (.Try body [.ExceptHandler (some (.Name x np)) (some n) [.Assign [.Name y q1] (.Name n q2) q3] pos'] [] [] pos) (kTry K tab i j t) := by
  subst hK
  refine ps_mono (ps_try_keep (c := .ref (cl X.K x)) (tb := fun W => upS W t) hs hf hx hN hi hj hln hlj hij hfy hdn hcn hsw ⟨hg, hxd, .inl g.g⟩ tk hb) fun D σ H ⟨G, M, d, hv, h, en⟩ => ?_
  refine ⟨G, M, _, hv, h, ⟨en.nx, en.rt, en.bk, en.ct, fun c e σ' G' M' H' hv' q => ?_⟩⟩
  obtain ⟨p, hp, rfl, q⟩ := q
  refine ⟨p.2, ht p hp, fun hb a na => ?_, fun hb => ?_⟩
  · rw [if_pos hb] at q
    exact en.nx _ _ _ _ (hv'.newG na) (q a (hv'.fr na))
  · rw [if_neg (by rw [hb]; exact Bool.false_ne_true)] at q
    exact en.xc _ _ _ _ _ _ hv' q
/-- isinstance(v, C), where v is an error that is held, or None -/
def kIsX (K : PySem.W.Frag) (c : V) (tab : List (Str × Bool)) : KC := fun vs G M R => match vs with
  | [.non, c'] => c' = c ∧ R (.bl false) G M
  | [.ref a, c'] => c' = c ∧ ∃ p ∈ tab, At G M a (ErA K p.1 none a) ∧ R (.bl p.2) G M
  | _ => False
theorem kc_isX {tab : List (Str × Bool)} {c : V} {cv : Value} (hcv : ClsV c cv) (hn : PySem.W.kitOne X.K (.type "NoneType") cv = some false)
    (ht : ∀ p ∈ tab, ExcC X.K (cl X.K p.1) ∧ PySem.W.kitOne X.K (.ref (cl X.K p.1)) cv = some p.2) : KCall X (.builtin "isinstance") (kIsX X.K c tab) := by
  intro pins s σ H xs us Q I r h
  obtain ⟨G, M, R, hv, h, hR⟩ := h
  match xs, h with
  | [.non, c'], h2 =>
    obtain ⟨rfl, h3⟩ := h2
    exact (call_isi (X := X)) pins s σ H [.non, c'] _ Q I r ⟨_, _, .type "NoneType", _, false, rfl, hcv, .base .non, hn, hR _ _ _ _ hv h3⟩
  | [.ref a, c'], h2 =>
    obtain ⟨rfl, p, hp, ha, h3⟩ := h2
    cases r with
    | cons rx rr =>
      cases rr with
      | cons rt rr =>
        cases rr
        have ec := hcv.eq rt
        subst ec
        cases rx
        obtain ⟨C, e⟩ := ht p hp
        have hH : H a = some (ErA X.K p.1 none a) := hv.at ha
        obtain ⟨⟨oe, vs, hget, hz, hd⟩, _, _⟩ := I.hok a _ hH
        have J : PySem.W.InstAt s.heap a oe (cl X.K p.1) none := by
          obtain ⟨oc, od, oda, osl⟩ := oe
          obtain ⟨h1, h2⟩ := hz
          dsimp only at h1 h2 hd
          subst h1 h2 hd
          exact ⟨hget, rfl, rfl, trivial⟩
        exact PySem.W.kia_one (PySem.W.handS_kitx_exc C.hg C.hk C.hs C.hd C.ha C.hn C.ht C.hm) I.kIn J e (fun z => nomatch z) fun tk => ⟨.bl p.2, H, I.kept (t' := tk) fun _ _ z => z, rfl, hR _ _ _ _ hv h3⟩
/-- the name of an own class -/
theorem je_cls {K : PySem.W.Frag} {x : Str} {pos : Pos} (g : XG X.K X.mg x) (hK : X.K = K := by rfl) (hg : Gl X x := by rfl) (hd : (x == ("__debug__" : Str)) = false := by decide) : JE X W (.Name x pos) (kC (.ref (cl K x))) := by
  subst hK
  exact je_glob g.g rfl hg hd
end
theorem kop_shlW {X : Cx} : KOp X (binaryOp .LShift) (kI CShl fun i j => .int (i * 2 ^ j.toNat)) := kop_I op_shlW
theorem kit_ref {K : PySem.W.Frag} {t : Value} {C : Addr} {b : Bool} (hc : PySem.W.hasDictIn K C = true) (ht : PySem.W.typeIn K (.ref C) = some (.type "type")) (hs : PySem.W.subIn K (.ref C) (.ref C) = some true) (h : PySem.W.subIn K t (.ref C) = some b) :
    PySem.W.kitOne K t (.ref C) = some b := by
  unfold PySem.W.kitOne
  by_cases e : (t == .ref C) = true
  · rw [if_pos e]
    have e2 : t = .ref C := beq_iff_eq.mp e
    rw [e2, hs] at h
    exact h
  · rw [if_neg e]
    obtain ⟨cd, hcd, _⟩ := PySem.W.any_some hc
    have e1 : ((PySem.W.clsIn K C).isSome && PySem.W.typeIn K (.ref C) == some (.type "type")) = true := by rw [hcd, ht] <;> rfl
    show (if ((PySem.W.clsIn K C).isSome && PySem.W.typeIn K (.ref C) == some (.type "type")) = true then PySem.W.subIn K t (.ref C) else none) = some b
    rw [if_pos e1]
    exact h
end BT
set_option Elab.async false
set_option linter.all false
set_option maxRecDepth 100000
set_option maxHeartbeats 4000000
namespace BT
open PySem PySem.Spec L2
open PyProof.Rows hiding St
section
variable {X : Cx} {W : WX} {pos p : Pos} {a b : Expr}
/-! ### list(range(..)) -/
/-! ### an empty dict -/
def kDNew : KE := fun _ G M R _ => ∀ q, Fr G M q → R (.ref q) G ((q, .dK []) :: M)
theorem je_dnew : JE X W (.Dict [] [] pos) kDNew := pe_mono pe_dnewK fun σ H Q ⟨G, M, R, E, hv, h, hR, hE⟩ => fun w hw => hR _ G _ _ (hv.newM hw) (h w (hv.fr hw))
/-! ### constants of the module -/
theorem je_const {x : Str} {v : V} (h : ∃ u, X.mg x = some u ∧ RelV v u) (hg : Gl X x := by rfl) (hd : (x == ("__debug__" : Str)) = false := by decide) : JE X W (.Name x pos) (kC v) := by
  obtain ⟨u, hm, r⟩ := h
  exact je_glob hm r hg hd
/-- a tuple of texts that the module holds -/
def kConT (K : PySem.W.Frag) (x : Str) (xs : List V) : KE := fun _ G M R _ => (∀ H, SqT K H (cl K x) xs) → R (.ref (cl K x)) G M
structure XT (K : PySem.W.Frag) (mg : Str → Option Value) (x : Str) (xs : List V) : Prop where
  g : mg x = some (.ref (cl K x))
  s : ∀ H, SqT K H (cl K x) xs
theorem je_conT {K : PySem.W.Frag} {x : Str} {xs : List V} (h : XT X.K X.mg x xs) (hK : X.K = K := by rfl) (hg : Gl X x := by rfl) (hd : (x == ("__debug__" : Str)) = false := by decide) : JE X W (.Name x pos) (kConT K x xs) := by
  subst hK
  exact pe_mono (je_glob (W := W) (v := .ref (cl X.K x)) h.g rfl hg hd) fun σ H Q ⟨G, M, R, E, hv, q, hR, hE⟩ => ⟨G, M, R, E, hv, q h.s, hR, hE⟩
end
theorem vals_abs : ∀ {us : List Value} {xs : List V}, us.map absV = xs.map some → (∀ x, x ∈ xs → (∃ i, x = .int i) ∨ ∃ s, x = .str s) → Vals xs us
  | [], [], _, _ => .nil
  | [], _ :: _, h, _ => by cases h
  | _ :: _, [], h, _ => by cases h
  | u :: us, x :: xs, h, hx => by
    rw [List.map_cons, List.map_cons] at h
    injection h with h1 h2
    refine .cons ?_ (vals_abs h2 fun y hy => hx y (List.mem_cons_of_mem _ hy))
    rcases hx x List.mem_cons_self with ⟨i, rfl⟩ | ⟨s, rfl⟩
    · cases u <;> simp only [absV] at h1 <;> first | (cases h1; done) | (injection h1 with h1; first | (cases h1; exact ⟨_, rfl⟩) | cases h1)
    · cases u <;> simp only [absV] at h1 <;> first | (cases h1; done) | (injection h1 with h1; first | (cases h1; exact ⟨_, rfl⟩) | cases h1)
theorem xt_mk {K : PySem.W.Frag} {mg : Str → Option Value} {h : Heap} {x : Str} {C : Addr} {xs : List V} {od : Option Addr} {its : Array Value} {n : Nat} {sl : Array (Option Value)} (X : K.In h) (G : h.Ns mainGlobals mg) (a : PySem.W.nsIn K mainGlobals x = some (some (.ref C)))
    (l : K.lookup C = some ⟨.type "tuple", od, .seq its n, sl⟩) (e : its.toList.map absV = xs.map some) (hx : ∀ x, x ∈ xs → (∃ i, x = .int i) ∨ ∃ s, x = .str s) (hs : its.size ≤ 1000) : XT K mg x xs := by
  have ec := cl_of a
  refine ⟨by rw [ec]; exact PySem.W.mg_of X G a, fun H => ?_⟩
  rw [ec]
  exact .inr ⟨_, its, n, l, rfl, rfl, Nat.le_trans hs (by decide), vals_abs e hx⟩
/-! ### sum of a tuple -/
section
variable {prog : Program} {w : World} {A : Around} {E : Value → Shared → Prop} {s : Shared} {l : Addr} {its : List Value} {ns : List Int} {Q : Value → Shared → Prop}
theorem sum_tupT (hh : A.handled = none) (hl : s.heap.IsTuple l its.toArray) (hi : IntsAre its ns)
    (h : ∀ h' tk t', (∀ b o, s.heap.get? b = some o → h'.get? b = some o) → Q (.int ns.sum t') { s with heap := h', toks := tk }) : wpAny (model prog w) A (call (.builtin "sum") [.ref l]) Q E s := by
  obtain ⟨xs, e⟩ := hi.allInts.items
  have hn : numsOf (intItems xs).toList = ns := by rw [← e]; exact hi.numsOf
  rw [nums_intItems] at hn
  rw [e] at hl
  have hlt : l < s.heap.objs.size := by obtain ⟨_, e, _⟩ := hl; exact Heap.lt_size e
  refine call_sum_walkG (wpAny_pyIter_tuple hl ?_)
  refine ⟨_, _, _, _, _, _, numAt xs, rfl, Walks.tuple (A := A.in1) hh _ l (Nat.ne_of_lt hlt) (intItems xs), ⟨⟨_, Heap.get?_push_size _ rfl, rfl, rfl⟩, hl.push _⟩, fun b hb => ?_, (fun _ _ => intItems_at), fun h' tk t' hk => ?_⟩
  · show b < (s.heap.push _).objs.size
    rw [Heap.size_push]
    simp only [List.mem_cons, List.not_mem_nil, or_false] at hb
    rcases hb with z | z
    · rw [z]; exact Nat.lt_succ_self _
    · rw [z]; exact Nat.lt_succ_of_lt hlt
  · have := h h' tk t' fun b o eb => hk b o (fun hm => absurd (Heap.lt_size eb) ((List.mem_singleton.mp hm) ▸ Nat.lt_irrefl _)) (Heap.get?_push_of_some _ eb)
    have e2 : preSum (numAt xs) (intItems xs).size = ns.sum := by
      rw [preSum_eq, List.take_of_length_le (by simp [intItems]), hn]
    rw [e2]; exact this
end
section
variable {X : Cx}
def kSumS (K : PySem.W.Frag) : KC := fun vs G M R => match vs with
  | [.ref a] => ∃ ns : List Int, SeqAt' K G M a (ns.map V.int) ∧ R (.int ns.sum) G M
  | _ => False
theorem kc_sumS (hc : X.calm = true := by rfl) : KCall X (.builtin "sum") (kSumS X.K) := by
  intro pins s σ H vs us Q I r h
  obtain ⟨G, M, R, hv, h, hR⟩ := h
  match vs, h with
  | [.ref a], ⟨ns, h1, h2⟩ =>
    rcases h1 with h1 | h1
    · exact cr_sum hc pins s σ H [.ref a] us Q I r ⟨a, ns, rfl, hv.lst h1, hR _ _ _ _ hv h2⟩
    · obtain ⟨its, rv, ht, _⟩ := I.tuple (ex_t hv.exx h1)
      rw [Vals.ref1 r]
      exact sum_tupT (I.ok.hd hc) ht rv.ints fun h' tk t' hk => ⟨.int _, H, I.kept hk, ⟨_, rfl⟩, hR _ _ _ _ hv h2⟩
end
end BT
set_option Elab.async false
set_option linter.all false
set_option maxRecDepth 100000
set_option maxHeartbeats 4000000
namespace BT
open PySem PySem.Spec L2
open PyProof.Rows hiding St
/-! ### len(set(xs)) of ints -/
section
variable {X : Cx} {W : WX}
/-! ### reversed(range(..)) -/
def revR (i j : Int) (R : Src → Hp → Mem → Prop) (G : Hp) (M : Mem) : Prop := (-(2 ^ 62) ≤ i ∧ i < 2 ^ 62 ∧ -(2 ^ 62) ≤ j ∧ j < 2 ^ 62) ∧ R (srcC (i + (((j - i).toNat : Nat) : Int) - 1) (-1) (j - i).toNat) G M
def kiRv1 (t : KE) : KI := fun σ G M R E => t σ G M (fun x G M => match x with
  | .int n => revR 0 n R G M
  | _ => False) E
theorem ji_rv1 {a tg : Expr} {t : KE} {p p2 pos pos2 : Pos} (hv : X.mg "reversed" = none) (hr : X.mg "range" = none) (ha : JE X W a t) (h1 : Gl X "reversed" := by rfl) (h2 : Gl X "range" := by rfl)
    (na : starEach [a] X.env = (false, eval a X.env) :: starEach [] X.env := by rfl) (nb : starEach [.Call (.Name "range" p2) [a] [] pos2] X.env = (false, eval (.Call (.Name "range" p2) [a] [] pos2) X.env) :: starEach [] X.env := by rfl) :
    JI X W tg (.Call (.Name "reversed" p) [.Call (.Name "range" p2) [a] [] pos2] [] pos) (kiRv1 t) :=
  pi_mono (pi_revR h1 hv (prg_1 h2 hr ha na) nb) fun σ H Q ⟨G, M, R, E, hv, h, hR, hE⟩ => ⟨G, M, _, E, hv, h, fun x G1 M1 H1 hv1 q => by
    match x, q with
    | .int n, ⟨⟨q1, q2, q3, q4⟩, q5⟩ => exact ⟨n, rfl, q1, q2, q3, q4, hR _ G1 M1 H1 hv1 q5 _ goes_C⟩, hE⟩
/-! ### index, insert, pop, clear, tuple(), bool() -/
def kTuple (K : PySem.W.Frag) : KC := fun vs G M R => match vs with
  | [.ref a] => (∃ xs, LstAt K G M a xs ∧ ∀ p, Fr G M p → R (.ref p) (upd G p (.tup xs)) M) ∨ ∃ xs, SqT K G a xs ∧ R (.ref a) G M
  | _ => False
/-! ### {k: v, ..} -/
def kPairs : List (KE × KE) → St → Hp → Mem → (List (V × V) → Hp → Mem → Prop) → KX → Prop
  | [], _, G, M, R, _ => R [] G M
  | (tk, tv) :: r, σ, G, M, R, E => tk σ G M (fun x G M => tv σ G M (fun y G M => kPairs r σ G M (fun ps G M => R ((x, y) :: ps) G M) E) E) E
def kDisp (trs : List (KE × KE)) : KE := fun σ G M R E => ∀ p, Fr G M p → kPairs trs σ G ((p, .dK []) :: M) (fun ps G M => ∃ (n : Nat) (kvs : List (Key × V)), M[n]? = some (p, .dK []) ∧ ps = kvs.map (fun kv => (kV kv.1, kv.2)) ∧ kvs.length ≤ 15 ∧ R (.ref p) G (M.set n (p, .dK (mergeK [] kvs)))) E
def JPs (X : Cx) (W : WX) (pos : Pos) (keys : List (Option Expr)) (values : List Expr) (trs : List (KE × KE)) : Prop := PPs X pos keys values (trs.map fun p => (upG W p.1, upG W p.2))
theorem jps_nil {pos : Pos} : JPs X W pos [] [] [] := pps_nil
theorem jps_cons {pos : Pos} {k v : Expr} {ks : List (Option Expr)} {vs : List Expr} {tk tv : KE} {trs : List (KE × KE)} (hk : JE X W k tk) (hv : JE X W v tv) (hr : JPs X W pos ks vs trs) : JPs X W pos (some k :: ks) (v :: vs) ((tk, tv) :: trs) := pps_cons hk hv hr
theorem pairs_sim {σ : St} {E : KX} (hE : ∀ c d G' M' H', Hv G' M' H' → E c d G' M' → W c d σ H') : ∀ (trs : List (KE × KE)) (G : Hp) (M : Mem) (R : List (V × V) → Hp → Mem → Prop) (H : Hp) (Q : List (V × V) → Hp → Prop), Hv G M H → kPairs trs σ G M R E →
    (∀ v G' M' H', Hv G' M' H' → R v G' M' → Q v H') → tPairs (trs.map fun p => (upG W p.1, upG W p.2)) σ H Q
  | [], G, M, R, H, Q, hv, h, hR => hR _ G M H hv h
  | (tk, tv) :: r, G, M, R, H, Q, hv, h, hR => ⟨G, M, _, E, hv, h, fun x G1 M1 H1 hv1 q1 => ⟨G1, M1, _, E, hv1, q1, fun y G2 M2 H2 hv2 q2 => pairs_sim hE r G2 M2 _ H2 _ hv2 q2 fun v G' M' H' hv' q => hR _ G' M' H' hv' q, hE⟩, hE⟩
theorem je_disp {pos : Pos} {keys : List (Option Expr)} {values : List Expr} {trs : List (KE × KE)} (h : JPs X W pos keys values trs) (hall : keys.all (·.isSome) = true := by rfl) (hl : keys.length = values.length := by rfl) (h0 : keys ≠ [] := by exact fun z => nomatch z) (h15 : keys.length ≤ 15 := by decide) :
    JE X W (.Dict keys values pos) (kDisp trs) := pe_mono (pe_disp h hall hl h0 h15) fun σ H Q ⟨G, M, R, E, hv, h, hR, hE⟩ => fun p hp =>
  pairs_sim hE trs G _ _ _ _ (hv.newM hp) (h p (hv.fr hp)) fun ps G' M' H' hv' ⟨n, kvs, q1, q2, q3, q4⟩ => ⟨hv'.get q1, kvs, q2, q3, hR _ G' _ _ (hv'.set q1) q4⟩
end
end BT
namespace BT
open PySem PySem.Spec L2
/-- what is walked, behind which something may be forgotten -/
def kiW (t : KI) : KI := fun σ G M R E => t σ G M (fun src G M => ∃ G' M', Wk G M G' M' ∧ R src G' M') E
theorem ji_w {X : Cx} {W : WX} {tg it : Expr} {t : KI} (h : JI X W tg it t) : JI X W tg it (kiW t) := pi_mono h fun σ H Q ⟨G, M, R, E, hv, h, hR, hE⟩ =>
  ⟨G, M, _, E, hv, h, fun src G1 M1 H1 hv1 ⟨G2, M2, w, q⟩ J go => hR src G2 M2 H1 (w H1 hv1) q J go, hE⟩
end BT
set_option Elab.async false
set_option linter.all false
set_option maxRecDepth 100000
set_option maxHeartbeats 4000000
namespace BT
open PySem PySem.Spec L2
open PyProof.Rows hiding St
/-! ### objects: the program's classes by number, their attributes by place -/
def clsN : Nat → Str × List Str
  | 0 => ("Plain", ["words"])
  | 1 => ("Keeper", ["log"])
  | 2 => ("Shelf", ["keeper", "number", "things"])
  | 3 => ("Scan", ["cells", "limit", "draws", "keeper", "made", "shelf"])
  | 4 => ("Spare", ["cells", "limit", "draws", "keeper", "made", "side", "order", "shelf", "hand"])
  | 5 => ("Stairs", ["cells", "limit", "draws", "keeper", "made", "climb", "hand", "shelves", "orders"])
  | 6 => ("Tree", ["cells", "limit", "draws", "keeper", "made", "body", "table"])
  | 7 => ("Grove", ["cells", "limit", "draws", "keeper", "made", "highs", "bodies", "start", "table"])
  | 8 => ("Body", ["shelf", "high", "firsts", "hand"])
  | 9 => ("Climb", ["cells", "last", "full", "drawn", "home", "held"])
  | 10 => ("Runner", ["program", "slates", "place"])
  | _ => ("Desk", ["stores"])
theorem cls_all {P : Str × List Str → Prop} (h : ∀ k, k < 12 → P (clsN k)) : ∀ k, P (clsN k) := fun k => by
  by_cases e : k < 12
  · exact h k e
  · have : clsN k = clsN 11 := by
      unfold clsN
      split <;> first | omega | rfl
    rw [this]; exact h 11 (by decide)
theorem cls_nodup : ∀ k, (clsN k).2.Nodup := cls_all (P := fun x => x.2.Nodup) (by decide +kernel)
theorem cls_few : ∀ k, (clsN k).2.length < 20 := cls_all (P := fun x => x.2.length < 20) (by decide +kernel)
def Ob (K : PySem.W.Frag) (k : Nat) (dx : Addr) (vs : List V) : HO := .ins (cl K (clsN k).1) dx ((clsN k).2.zip vs)
def putV : Nat → V → List V → List V
  | 0, y, [] => [y]
  | 0, y, _ :: r => y :: r
  | n + 1, y, x :: r => x :: putV n y r
  | _ + 1, _, [] => []
theorem zip_lookup : ∀ (ns : List Str) (vs : List V) (i : Nat) (f : Str), ns.Nodup → ns[i]? = some f → (ns.zip vs).lookup f = vs[i]?
  | [], _, _, _, _, h => by simp at h
  | n :: ns, [], i, f, _, _ => by simp
  | n :: ns, v :: vs, 0, f, _, h => by
    have e : n = f := by simpa using h
    subst e
    simp [List.zip_cons_cons, List.lookup]
  | n :: ns, v :: vs, i + 1, f, hn, h => by
    rw [List.nodup_cons] at hn
    have h2 : ns[i]? = some f := by simpa using h
    have ne : (f == n) = false := by
      rw [beq_eq_false_iff_ne]
      intro z
      exact hn.1 (z ▸ List.mem_of_getElem? h2)
    rw [List.zip_cons_cons, List.lookup, ne]
    simp only []
    rw [zip_lookup ns vs i f hn.2 h2]; simp
theorem zip_none : ∀ (ns : List Str) (vs : List V) (f : Str), f ∉ ns → (ns.zip vs).lookup f = none
  | [], _, _, _ => by simp
  | n :: ns, [], f, _ => by simp
  | n :: ns, v :: vs, f, h => by
    have ne : (f == n) = false := by
      rw [beq_eq_false_iff_ne]
      intro z
      exact h (z ▸ List.mem_cons_self)
    rw [List.zip_cons_cons, List.lookup, ne]
    exact zip_none ns vs f fun z => h (List.mem_cons_of_mem _ z)
theorem zip_put : ∀ (ns : List Str) (vs : List V) (i : Nat) (f : Str) (y : V), ns.Nodup → ns[i]? = some f → i ≤ vs.length → putF f y (ns.zip vs) = ns.zip (putV i y vs)
  | [], _, _, _, _, _, h, _ => by simp at h
  | n :: ns, [], 0, f, y, _, h, _ => by
    have e : n = f := by simpa using h
    subst e
    cases ns <;> rfl
  | n :: ns, [], i + 1, f, y, _, _, h => by simp at h
  | n :: ns, v :: vs, 0, f, y, _, h, _ => by
    have e : n = f := by simpa using h
    subst e
    show putF n y ((n, v) :: ns.zip vs) = _
    unfold putF
    rw [if_pos rfl]; rfl
  | n :: ns, v :: vs, i + 1, f, y, hn, h, hi => by
    rw [List.nodup_cons] at hn
    have h2 : ns[i]? = some f := by simpa using h
    have ne : ¬ n = f := fun z => hn.1 (z ▸ List.mem_of_getElem? h2)
    show putF f y ((n, v) :: ns.zip vs) = _
    unfold putF
    rw [if_neg ne, zip_put ns vs i f y hn.2 h2 (by simpa using hi)]; rfl
/-- what of the text a class must have -/
structure CK (K : PySem.W.Frag) (k : Nat) : Prop where
  cls : Cls K (cl K (clsN k).1)
  na : ∀ f ∈ (clsN k).2, NoAttr K (cl K (clsN k).1) f
theorem lookup_mem {α β : Type} [BEq α] [LawfulBEq α] : ∀ {l : List (α × β)} {a : α} {b : β}, l.lookup a = some b → (a, b) ∈ l
  | [], _, _, h => by simp at h
  | (x, y) :: l, a, b, h => by
    rw [List.lookup] at h
    split at h
    · rename_i e
      have e := eq_of_beq e
      cases h; subst e; exact List.mem_cons_self
    · exact List.mem_cons_of_mem _ (lookup_mem h)
section
variable {X : Cx} {W : WX} {pos : Pos}
/-- e.f; tab: the classes that have it, and its place -/
def kFld (K : PySem.W.Frag) (tab : List (Nat × Nat)) (t : KE) : KE := fun σ G M R E => t σ G M (fun x G M => match x with
  | .ref a => ∃ (k : Nat) (dx : Addr) (vs : List V) (i : Nat) (v : V), At G M a (Ob K k dx vs) ∧ tab.lookup k = some i ∧ vs[i]? = some v ∧ R v G M
  | _ => False) E
theorem je_fld {e : Expr} {f : Str} {tab : List (Nat × Nat)} {t : KE} (he : JE X W e t) (ht : ∀ p ∈ tab, CK X.K p.1 ∧ (clsN p.1).2[p.2]? = some f) (hb : attributeBase e f X.env (eval e X.env) = eval e X.env := by rfl) : JE X W (.Attribute e f pos) (kFld X.K tab t) :=
  pe_mono (pe_fld he hb) fun σ H Q ⟨G, M, R, E, hv, h, hR, hE⟩ => ⟨G, M, _, E, hv, h, fun x G1 M1 H1 hv1 q => by
    match x, q with
    | .ref a, ⟨k, dx, vs, i, v, q1, q2, q3, q4⟩ =>
      obtain ⟨ck, hf⟩ := ht (k, i) (lookup_mem q2)
      exact ⟨a, _, dx, _, v, rfl, hv1.at q1, ck.cls, ck.na f (List.mem_of_getElem? hf), by rw [zip_lookup _ _ i f (cls_nodup k) hf]; exact q3, hR _ G1 M1 H1 hv1 q4⟩, hE⟩
/-- o.f = e -/
def kFSet (K : PySem.W.Frag) (tab : List (Nat × Nat)) (to tv : KE) : KS := fun D σ G M => tv σ G M (fun y G M => to σ G M (fun x G M => match x with
  | .ref a => ∃ (n k : Nat) (dx : Addr) (vs : List V) (i : Nat), M[n]? = some (a, Ob K k dx vs) ∧ tab.lookup k = some i ∧ i ≤ vs.length ∧ D.nx σ G (M.set n (a, Ob K k dx (putV i y vs)))
  | _ => False) (D.x σ)) (D.x σ)
theorem js_fset {o value : Expr} {f : Str} {tab : List (Nat × Nat)} {to tv : KE} {pos' : Pos} (ho : JE X W o to) (hv : JE X W value tv) (ht : ∀ p ∈ tab, CK X.K p.1 ∧ (clsN p.1).2[p.2]? = some f)
    (hs : swapsWith value (some (.Attribute o f pos')) pos.line X.env = pure false := by rfl) : JS X W (.Assign [.Attribute o f pos'] value pos) (kFSet X.K tab to tv) :=
  ps_mono (ps_fld ho hv hs) fun D σ H ⟨G, M, d, hv, h, en⟩ => ⟨G, M, _, _, hv, h, fun y G1 M1 H1 hv1 q => ⟨G1, M1, _, _, hv1, q, fun x G2 M2 H2 hv2 q2 => by
    match x, q2 with
    | .ref a, ⟨n, k, dx, vs, i, q3, q4, q5, q6⟩ =>
      obtain ⟨ck, hf⟩ := ht (k, i) (lookup_mem q4)
      refine ⟨a, _, dx, _, rfl, hv2.get q3, ck.cls, ck.na f (List.mem_of_getElem? hf), ?_, ?_⟩
      · have := cls_few k
        rw [List.length_zip]; omega
      · rw [zip_put _ _ i f y (cls_nodup k) hf q5]
        exact en.nx _ G2 _ _ (hv2.set q3) q6, fun c a G' M' H' hv' q => en.xc c a σ G' M' H' hv' q⟩, fun c a G' M' H' hv' q => en.xc c a σ G' M' H' hv' q⟩
/-- a method that keeps its promise, of the class k -/
structure MDef (P : Program) (w : World) (K : PySem.W.Frag) (mg : Str → Option Value) (base : Heap) (lev : Nat) (k : Nat) (m : Str) (S : KSp) : Prop where
  ex : ∃ f fd ps, FnOk P w K mg base (L2.CX P w) lev f fd ps (lift S) ∧ Meth K (cl K (clsN k).1) m f ∧ Binds K fd ps []
  ck : CK K k
  no : m ∉ (clsN k).2
theorem MDef.mono {P : Program} {w : World} {K : PySem.W.Frag} {mg : Str → Option Value} {base : Heap} {lev lev' k : Nat} {m : Str} {S : KSp} (D : MDef P w K mg base lev k m S) (h : lev ≤ lev') : MDef P w K mg base lev' k m S := by
  obtain ⟨⟨f, fd, ps, F, a, b⟩, c, d⟩ := D
  exact ⟨⟨f, fd, ps, F.mono h, a, b⟩, c, d⟩
def kMeth (K : PySem.W.Frag) (tab : List (Nat × KSp)) (to : KE) (t : KA) : KE := fun σ G M R E => to σ G M (fun x G M => match x with
  | .ref a => ∃ (k : Nat) (dx : Addr) (vs : List V) (S : KSp), At G M a (Ob K k dx vs) ∧ tab.lookup k = some S ∧ t σ G M (fun ws G M => S (.ref a :: ws) G M R E) E
  | _ => False) E
theorem je_meth {pl : Sem Bool} {o e : Expr} {es : List Expr} {m : Str} {apos : Pos} {tab : List (Nat × KSp)} {k : Nat} {to : KE} {t : KA} (D : ∀ p ∈ tab, MDef X.prog X.w X.K X.mg X.base k p.1 m p.2) (hr : Room k X.A) (tk : Takes X W) (ho : JE X W o to) (ha : JA X W (e :: es) t)
    (hst : starEach (e :: es) X.env = (false, eval e X.env) :: starEach es X.env := by rfl) (hpl : (backTo pos (starEach es X.env)).any (·.1) = false := by rfl)
    (ht : eval (.Call (.Attribute o m apos) (e :: es) [] pos) X.env = (do
      let ov ← eval o X.env
      standAt apos.atName
      let (f, first) ← holding [ov] (getMethod ov m pl)
      callWith pos f first (backTo pos (starEach (e :: es) X.env)) (backToKw pos (keywordEach [] X.env))) := by rfl) :
    JE X W (.Call (.Attribute o m apos) (e :: es) [] pos) (kMeth X.K tab to t) := by
  refine ⟨fun pins s σ H Q I ⟨G, M, R, E, hv, h, hR, hE⟩ => ?_⟩
  refine PySem.W.methodCall_KW (pl := pl) (thn (ho.run pins s σ H (fun x H1 => ∃ (a k : Nat) (dx : Addr) (vs : List V) (S : KSp), x = .ref a ∧ H1 a = some (Ob X.K k dx vs) ∧ tab.lookup k = some S ∧ upG W t σ H1 fun ws H2 => lift S (.ref a :: ws) H2 Q (WE W σ)) I ?_) fun u s1 ⟨x, H1, I1, rx, a, k, dx, vs, S, ex, ea, l, q⟩ => ?_) ht
  · refine ⟨G, M, _, E, hv, h, fun x G1 M1 H1 hv1 q => ?_, hE⟩
    match x, q with
    | .ref a, ⟨k, dx, vs, S, q1, q2, q3⟩ => exact ⟨a, k, dx, vs, S, rfl, hv1.at q1, q2, G1, M1, _, E, hv1, q3, fun ws G2 M2 H2 hv2 q4 => ⟨G2, M2, R, E, hv2, q4, hR, hE⟩, hE⟩
  subst ex
  obtain rfl : u = Value.ref a := rx
  obtain ⟨⟨f, fd, ps, F, mt, hb⟩, ck, no⟩ := D (k, S) (lookup_mem l)
  refine getmeth_ok I1 ea ck.cls mt (zip_none _ _ _ no) ?_
  refine PySem.W.callWith_K (first := [.ref a]) (h₀ := X.base) I.ok.mod.kin mt.kp (thn (ha.run pos pins s1 σ H1 _ I1 q) fun us s2 ⟨vs, H2, I2, r, q2⟩ => ⟨I2.kIn, ?_⟩) hst hpl
  exact run_fnS (us := .ref a :: us) (vs := .ref a :: vs) F hr hb (passAt tk σ) I2 (.cons rfl r) q2
theorem je_meth0 {pl : Sem Bool} {o : Expr} {m : Str} {apos : Pos} {tab : List (Nat × KSp)} {k : Nat} {to : KE} (D : ∀ p ∈ tab, MDef X.prog X.w X.K X.mg X.base k p.1 m p.2) (hr : Room k X.A) (tk : Takes X W) (ho : JE X W o to)
    (ht : eval (.Call (.Attribute o m apos) [] [] pos) X.env = (do
      let ov ← eval o X.env
      standAt apos.atName
      let (f, first) ← holding [ov] (getMethod ov m pl)
      callWith pos f first (backTo pos (starEach [] X.env)) (backToKw pos (keywordEach [] X.env))) := by rfl) :
    JE X W (.Call (.Attribute o m apos) [] [] pos) (kMeth X.K tab to kNil) := by
  refine ⟨fun pins s σ H Q I ⟨G, M, R, E, hv, h, hR, hE⟩ => ?_⟩
  refine PySem.W.methodCall_KW (pl := pl) (thn (ho.run pins s σ H (fun x H1 => ∃ (a k : Nat) (dx : Addr) (vs : List V) (S : KSp), x = .ref a ∧ H1 a = some (Ob X.K k dx vs) ∧ tab.lookup k = some S ∧ lift S [.ref a] H1 Q (WE W σ)) I ?_) fun u s1 ⟨x, H1, I1, rx, a, k, dx, vs, S, ex, ea, l, q⟩ => ?_) ht
  · refine ⟨G, M, _, E, hv, h, fun x G1 M1 H1 hv1 q => ?_, hE⟩
    match x, q with
    | .ref a, ⟨k, dx, vs, S, q1, q2, q3⟩ => exact ⟨a, k, dx, vs, S, rfl, hv1.at q1, q2, G1, M1, R, E, hv1, q3, hR, hE⟩
  subst ex
  obtain rfl : u = Value.ref a := rx
  obtain ⟨⟨f, fd, ps, F, mt, hb⟩, ck, no⟩ := D (k, S) (lookup_mem l)
  refine getmeth_ok I1 ea ck.cls mt (zip_none _ _ _ no) ?_
  exact PySem.W.callWith_K0 (first := [.ref a]) I1.kIn mt.kp (run_fnS (us := [.ref a]) (vs := [.ref a]) F hr hb (passAt tk σ) I1 (.cons rfl .nil) q)
/-! C(..) -/
theorem run_makeS {CX : CXT} {k : Nat} {C f : Addr} {fd : FuncData} {ps : List Str} {sp : Sp} {E : XK} {pins : List (Addr × Obj)} {σ : St} {H : Hp} {s : Shared} {Q : VK} {us : List Value} {vs : List V} (M : Mk X.K C f) (F : FnOk X.prog X.w X.K X.mg X.base CX k f fd ps sp) (hr : Room (k + 1) X.A) (hb : Binds X.K fd ps [])
    (hx : PassesAt CX X σ E) (I : Inv X pins σ H s) (r : Vals vs us)
    (h : ∀ x dx, H x = none → H dx = none → dx ≠ x → sp (.ref x :: vs) (upd (upd H dx (.own x)) x (.ins C dx [])) (fun v H2 => v = .non ∧ Q (.ref x) H2) E) :
    wpAny (model X.prog X.w) X.A (call (.ref C) us) (EP X pins σ Q) X.xe s := by
  have hq := h (s.heap.objs.size + 1) s.heap.objs.size (I.hok.fresh (Nat.le_succ _)) (I.hok.fresh (Nat.le_refl _)) (Nat.ne_of_lt (Nat.lt_succ_self _))
  have I2 := Inv.made (C := C) I
  have r2 : Vals (V.ref (s.heap.objs.size + 1) :: vs) (Value.ref (s.heap.objs.size + 1) :: us) := .cons rfl r
  have hl : (Value.ref (s.heap.objs.size + 1) :: us ++ []).length = ps.length := by
    have e := r2.length
    rw [F.len _ _ _ _ hq] at e
    rw [List.append_nil]
    exact e.symm
  have hb2 := hb _ (Value.ref (s.heap.objs.size + 1) :: us) I2.kIn hl
  rw [List.append_nil] at hb2
  refine wpAny_call (make_map (f := f) I.kIn M.makes M.init (beq_iff_eq.mp M.fn) (codeAny_mono (F.run _ X.stack _ _ ⟨Value.ref (s.heap.objs.size + 1) :: us, []⟩ (Value.ref (s.heap.objs.size + 1) :: us) _ _ E (hr.make C us [])
    (I2.env0.make C us []) hb2 r2 hq) fun r s' hq' => ?_))
  cases r with
  | error e => exact hx pins _ _ e s' I2 hq'
  | ok fl =>
    cases fl with
    | ret u =>
      obtain ⟨v, H', I3, rv, ev, q3⟩ := I2.after hq'
      subst ev
      exact ⟨rv, ⟨V.ref (s.heap.objs.size + 1), H', I3, rfl, q3⟩⟩
    | next => exact False.elim hq'
    | brk => exact False.elim hq'
    | cont => exact False.elim hq'
structure CDef (P : Program) (w : World) (K : PySem.W.Frag) (mg : Str → Option Value) (base : Heap) (lev : Nat) (k : Nat) (x : Str) (S : KSp) : Prop where
  ex : ∃ f fd ps, FnOk P w K mg base (L2.CX P w) lev f fd ps (lift S) ∧ Mk K (cl K (clsN k).1) f ∧ Binds K fd ps []
  g : mg x = some (.ref (cl K (clsN k).1))
def kMake (K : PySem.W.Frag) (k : Nat) (S : KSp) (t : KA) : KE := fun σ G M R E => t σ G M (fun vs G M => ∀ x dx, Fr G M x → S (.ref x :: vs) G ((x, Ob K k dx []) :: M) (fun v G M => v = .non ∧ R (.ref x) G M) E) E
theorem ob_nil {K : PySem.W.Frag} {k : Nat} {dx : Addr} : Ob K k dx [] = .ins (cl K (clsN k).1) dx [] := by unfold Ob; rw [List.zip_nil_right]
theorem make_sim {k : Nat} {S : KSp} {σ : St} {vs : List V} {G : Hp} {M : Mem} {R : KR} {E : KX} {H : Hp} {Q : VK} (hv : Hv G M H) (q : ∀ x dx, Fr G M x → S (.ref x :: vs) G ((x, Ob X.K k dx []) :: M) (fun v G M => v = .non ∧ R (.ref x) G M) E)
    (hR : ∀ v G' M' H', Hv G' M' H' → R v G' M' → Q v H') (hE : ∀ c d G' M' H', Hv G' M' H' → E c d G' M' → W c d σ H') (x dx : Addr) (hx : H x = none) (hd : H dx = none) (hne : dx ≠ x) :
    lift S (.ref x :: vs) (upd (upd H dx (.own x)) x (.ins (cl X.K (clsN k).1) dx [])) (fun v H2 => v = .non ∧ Q (.ref x) H2) (WE W σ) := by
  have h1 : Hv G M (upd H dx (.own x)) := hv.junk hd
  have h2 : (upd H dx (.own x)) x = none := by rw [upd_ne (Ne.symm hne)]; exact hx
  refine ⟨G, _, fun v G M => v = .non ∧ R (.ref x) G M, E, h1.newM (o := .ins (cl X.K (clsN k).1) dx []) h2, by rw [← ob_nil]; exact q x dx (hv.fr hx), fun v G' M' H' hv' q => ⟨q.1, hR _ G' M' H' hv' q.2⟩, fun c d G' M' H' hv' q => hE c d G' M' H' hv' q⟩
theorem je_make {k lev cid : Nat} {x : Str} {p : Pos} {e : Expr} {es : List Expr} {S : KSp} {t : KA} (D : CDef X.prog X.w X.K X.mg X.base lev cid x S) (hk : PySem.W.keepIn X.K (.ref (cl X.K (clsN cid).1)) = true) (hr : Room k X.A) (tk : Takes X W) (ha : JA X W (e :: es) t) (hl : lev + 1 ≤ k := by decide) (hg : Gl X x := by rfl)
    (hdb : (x == ("__debug__" : Str)) = false := by decide) (he : starEach (e :: es) X.env = (false, eval e X.env) :: starEach es X.env := by rfl) (hpl : (backTo pos (starEach es X.env)).any (·.1) = false := by rfl) :
    JE X W (.Call (.Name x p) (e :: es) [] pos) (kMake X.K cid S t) := by
  obtain ⟨⟨f, fd, ps, F, mk, hb⟩, hm⟩ := D
  obtain ⟨k', rfl⟩ : ∃ k', k = k' + 1 := ⟨k - 1, by omega⟩
  refine ⟨fun pins s σ H Q I ⟨G, M, R, E, hv, h, hR, hE⟩ => ?_⟩
  refine wpAny_Call_Name_kw (ld_glob I hg hm ?_ hdb)
  refine PySem.W.callWith_K (h₀ := X.base) I.ok.mod.kin hk (thn (ha.run pos pins s σ H (fun vs H1 => ∀ x dx, H1 x = none → H1 dx = none → dx ≠ x → lift S (.ref x :: vs) (upd (upd H1 dx (.own x)) x (.ins (cl X.K (clsN cid).1) dx [])) (fun v H2 => v = .non ∧ Q (.ref x) H2) (WE W σ)) I ?_) fun us s1 ⟨vs, H1, I1, r, q⟩ => ⟨I1.kIn, ?_⟩) he hpl
  · exact ⟨G, M, _, E, hv, h, fun vs G1 M1 H1 hv1 q x dx hx hd hne => make_sim hv1 q hR hE x dx hx hd hne, hE⟩
  · exact run_makeS mk (F.mono (by omega)) hr hb (passAt tk σ) I1 r q
theorem je_make0 {k lev cid : Nat} {x : Str} {p : Pos} {S : KSp} (D : CDef X.prog X.w X.K X.mg X.base lev cid x S) (hk : PySem.W.keepIn X.K (.ref (cl X.K (clsN cid).1)) = true) (hr : Room k X.A) (tk : Takes X W) (hl : lev + 1 ≤ k := by decide) (hg : Gl X x := by rfl)
    (hdb : (x == ("__debug__" : Str)) = false := by decide) : JE X W (.Call (.Name x p) [] [] pos) (kMake X.K cid S kNil) := by
  obtain ⟨⟨f, fd, ps, F, mk, hb⟩, hm⟩ := D
  obtain ⟨k', rfl⟩ : ∃ k', k = k' + 1 := ⟨k - 1, by omega⟩
  refine ⟨fun pins s σ H Q I ⟨G, M, R, E, hv, h, hR, hE⟩ => ?_⟩
  refine wpAny_Call_Name_kw (ld_glob I hg hm ?_ hdb)
  refine PySem.W.callWith_K0 I.kIn hk (run_makeS (us := []) (vs := []) mk (F.mono (by omega)) hr hb (passAt tk σ) I .nil fun x dx hx hd hne => make_sim hv h hR hE x dx hx hd hne)
/-! C.m(self, ..), m a def of the class C -/
structure FDef (P : Program) (w : World) (K : PySem.W.Frag) (mg : Str → Option Value) (base : Heap) (lev : Nat) (x m : Str) (S : KSp) : Prop where
  ex : ∃ f fd ps, FnOk P w K mg base (L2.CX P w) lev f fd ps (lift S) ∧ PySem.W.findCls K (.ref (cl K x)) (.type "type") m = some (.val (.ref f)) ∧ Binds K fd ps [] ∧ PySem.W.keepIn K (.ref f) = true
  g : mg x = some (.ref (cl K x))
  rd : PySem.W.readsIn K (cl K x) (.type "type") = true
  ga : PySem.W.specialIn K (.ref (cl K x)) "__getattribute__" = some (some (.builtin "type.__getattribute__"))
theorem je_clsCall {pl : Sem Bool} {k lev : Nat} {x m : Str} {p apos : Pos} {e : Expr} {es : List Expr} {S : KSp} {t : KA} (D : FDef X.prog X.w X.K X.mg X.base lev x m S) (hr : Room k X.A) (tk : Takes X W) (ha : JA X W (e :: es) t) (hl : lev ≤ k := by decide) (hg : Gl X x := by rfl)
    (hdb : (x == ("__debug__" : Str)) = false := by decide) (hst : starEach (e :: es) X.env = (false, eval e X.env) :: starEach es X.env := by rfl) (hpl : (backTo pos (starEach es X.env)).any (·.1) = false := by rfl)
    (ht : eval (.Call (.Attribute (.Name x p) m apos) (e :: es) [] pos) X.env = (do
      let ov ← eval (.Name x p) X.env
      standAt apos.atName
      let (f, first) ← holding [ov] (getMethod ov m pl)
      callWith pos f first (backTo pos (starEach (e :: es) X.env)) (backToKw pos (keywordEach [] X.env))) := by rfl) :
    JE X W (.Call (.Attribute (.Name x p) m apos) (e :: es) [] pos) (kCall S t) := by
  obtain ⟨⟨f, fd, ps, F, hf, hb, hkp⟩, hm, rd, ga⟩ := D
  refine ⟨fun pins s σ H Q I ⟨G, M, R, E, hv, h, hR, hE⟩ => ?_⟩
  refine PySem.W.methodCall_KW (pl := pl) (ld_glob I hg hm ?_ hdb) ht
  refine PySem.W.method_cls I.kIn ga (PySem.W.cls_value I.kIn rd hf rfl ?_)
  refine PySem.W.callWith_K (first := []) (h₀ := X.base) I.ok.mod.kin hkp (thn (ha.run pos pins _ σ H (fun vs H1 => lift S vs H1 Q (WE W σ)) (I.tok _) ?_) fun us s2 ⟨vs, H2, I2, r, q2⟩ => ⟨I2.kIn, ?_⟩) hst hpl
  · exact ⟨G, M, _, E, hv, h, fun vs G1 M1 H1 hv1 q => ⟨G1, M1, R, E, hv1, q, hR, hE⟩, hE⟩
  · exact run_fnS (us := us) (vs := vs) (F.mono hl) hr hb (passAt tk σ) I2 r q2
end
end BT
namespace BT
open PySem PySem.Spec L2
open PyProof.Rows hiding St
section
variable {P : Program} {w : World} {K : PySem.W.Frag} {mg : Str → Option Value} {base : Heap} {k lev : Nat} {C f : Addr} {fd : FuncData} {ps : List Str} {S : KSp} {x m : Str}
theorem ck_mk (a : PySem.W.nsIn K mainGlobals (clsN k).1 = some (some (.ref C))) (h1 : PySem.W.plainGet K C Str.empty = true) (h2 : PySem.W.hasDictIn K C = true) (h3 : PySem.W.plainOver K C = true)
    (h4 : PySem.W.findIn K (.ref C) "__setattr__" = some (some (.builtin "object.__setattr__"))) (h5 : ∀ f ∈ (clsN k).2, PySem.W.findIn K (.ref C) f = some none) : CK K k := by
  have e := cl_of a
  exact ⟨by rw [e]; exact ⟨h1, h2, h3, h4⟩, by rw [e]; exact h5⟩
theorem keep_mk (a : PySem.W.nsIn K mainGlobals (clsN k).1 = some (some (.ref C))) (h : PySem.W.keepIn K (.ref C) = true) : PySem.W.keepIn K (.ref (cl K (clsN k).1)) = true := by
  rw [cl_of a]; exact h
theorem cd_mk (hx : (clsN k).1 = x) (a : PySem.W.nsIn K mainGlobals (clsN k).1 = some (some (.ref C))) (g : mg x = some (.ref C)) (F : FnOk P w K mg base (L2.CX P w) lev f fd ps (lift S)) (h1 : PySem.W.makesIn K C = true) (h2 : PySem.W.findIn K (.ref C) "__init__" = some (some (.ref f)))
    (h3 : PySem.W.isFn K (.ref f) = true) (h4 : PySem.W.keepIn K (.ref C) = true) (b : Binds K fd ps []) : CDef P w K mg base lev k x S := by
  have e := cl_of a
  exact ⟨⟨f, fd, ps, F, by rw [e]; exact ⟨h1, h2, h3, h4⟩, b⟩, by rw [e]; exact g⟩
theorem md_mk (a : PySem.W.nsIn K mainGlobals (clsN k).1 = some (some (.ref C))) (F : FnOk P w K mg base (L2.CX P w) lev f fd ps (lift S)) (h1 : PySem.W.findIn K (.ref C) m = some (some (.ref f))) (h2 : PySem.W.isFn K (.ref f) = true) (h3 : PySem.W.keepIn K (.ref f) = true) (b : Binds K fd ps [])
    (ck : CK K k) (no : m ∉ (clsN k).2) : MDef P w K mg base lev k m S := by
  have e := cl_of a
  exact ⟨⟨f, fd, ps, F, by rw [e]; exact ⟨h1, h2, h3⟩, b⟩, ck, no⟩
theorem fd_mk (a : PySem.W.nsIn K mainGlobals x = some (some (.ref C))) (g : mg x = some (.ref C)) (F : FnOk P w K mg base (L2.CX P w) lev f fd ps (lift S)) (h1 : PySem.W.findCls K (.ref C) (.type "type") m = some (.val (.ref f))) (b : Binds K fd ps []) (h2 : PySem.W.keepIn K (.ref f) = true)
    (h3 : PySem.W.readsIn K C (.type "type") = true) (h4 : PySem.W.specialIn K (.ref C) "__getattribute__" = some (some (.builtin "type.__getattribute__"))) : FDef P w K mg base lev x m S := by
  have e := cl_of a
  exact ⟨⟨f, fd, ps, F, by rw [e]; exact h1, b, h2⟩, by rw [e]; exact g, by rw [e]; exact h3, by rw [e]; exact h4⟩
end
end BT
set_option Elab.async false
set_option linter.all false
set_option maxRecDepth 100000
set_option maxHeartbeats 4000000
namespace BT
open PySem PySem.Spec L2
open PyProof.Rows hiding St
/-! ### dicts whose keys are ints and texts -/
section
variable {X : Cx} {W : WX} {pos : Pos} {o i e f : Expr}
def kDIn (neg : Bool) (ty td : KE) : KE := fun σ G M R E => ty σ G M (fun y G M => td σ G M (fun x G M => match x with
  | .ref a => ∃ (kvs : List (Key × V)) (k : Key), At G M a (.dK kvs) ∧ y = kV k ∧ R (.bl (if neg then !(valV kvs k).isSome else (valV kvs k).isSome)) G M
  | _ => False) E) E
theorem din_sim {ty td : KE} {σ : St} {H : Hp} {Q : VK} (h : upG W (kDIn false ty td) σ H Q) : tDIn (upG W ty) (upG W td) σ H Q := by
  obtain ⟨G, M, R, E, hv, h, hR, hE⟩ := h
  exact ⟨G, M, _, E, hv, h, fun y G1 M1 H1 hv1 q1 => ⟨G1, M1, _, E, hv1, q1, fun x G2 M2 H2 hv2 q2 => by
    match x, q2 with
    | .ref a, ⟨kvs, k, q3, q4, q5⟩ => subst q4; exact ⟨a, _, rfl, DGet.k (hv2.at q3), hR _ G2 M2 H2 hv2 q5⟩, hE⟩, hE⟩
theorem jt_din {ty td : KE} (hu : X.A.units + 64 < cLine) (hi : JE X W i ty) (ho : JE X W o td) (hm : behindInMarks .In o = false := by first | rfl | with_unfolding_all rfl) : JT X W (.Compare i [.In] [o] pos) (kT (kDIn false ty td)) := pt_mono (pt_cmp (pc_din (by omega) hi ho) hm) fun _ _ _ h => din_sim (t_sim h)
/-- d[k] -/
def kDGet : KR2 := fun x y G M R => match x with
  | .ref a => ∃ (kvs : List (Key × V)) (k : Key) (v : V), At G M a (.dK kvs) ∧ y = kV k ∧ valV kvs k = some v ∧ R v G M
  | _ => False
theorem je_dget {ta tb : KE} (hu : X.A.units + 64 < cLine) (ha : JE X W o ta) (hb : JE X W i tb) (hs : NoSl i := by exact fun _ _ => rfl) : JE X W (.Subscript o i pos) (kBin kDGet ta tb) :=
  pe_mono (pe_dget (by omega) ha hb hs) fun σ H Q ⟨G, M, R, E, hv, h, hR, hE⟩ => ⟨G, M, _, E, hv, h, fun x G1 M1 H1 hv1 q1 => ⟨G1, M1, _, E, hv1, q1, fun y G2 M2 H2 hv2 q2 => by
    match x, q2 with
    | .ref a, ⟨kvs, k, v, q3, q4, q5, q6⟩ =>
      subst q4
      refine ⟨a, v, rfl, ?_, hR _ G2 M2 H2 hv2 q6⟩
      rw [← q5]; exact DGet.k (hv2.at q3), hE⟩, hE⟩
/-- d[k] = v -/
def kDSet (td ty tv : KE) : KS := fun D σ G M => tv σ G M (fun v G M => td σ G M (fun x G M => ty σ G M (fun y G M => match x with
  | .ref a => ∃ (n : Nat) (kvs : List (Key × V)) (k : Key), M[n]? = some (a, .dK kvs) ∧ y = kV k ∧ kvs.length < sizeLine ∧ D.nx σ G (M.set n (a, .dK (putK kvs k v)))
  | _ => False) (D.x σ)) (D.x σ)) (D.x σ)
theorem js_dset {td ty tv : KE} {value : Expr} {pos' : Pos} (hu : X.A.units + 64 < cLine) (ho : JE X W o td) (hi : JE X W i ty) (hv : JE X W value tv) (hs : swapsWith value (some (.Subscript o i pos')) pos.line X.env = pure false := by rfl) :
    JS X W (.Assign [.Subscript o i pos'] value pos) (kDSet td ty tv) := ps_mono (ps_dput (by omega) ho hi hv hs) fun D σ H ⟨G, M, d, hv, h, en⟩ =>
  ⟨G, M, _, _, hv, h, fun v G1 M1 H1 hv1 q => ⟨G1, M1, _, _, hv1, q, fun x G2 M2 H2 hv2 q2 => ⟨G2, M2, _, _, hv2, q2, fun y G3 M3 H3 hv3 q3 => by
    match x, q3 with
    | .ref a, ⟨n, kvs, k, q4, q5, q6, q7⟩ => subst q5; exact ⟨a, _, rfl, DPut.k (hv3.get q4) q6, en.nx _ G3 _ _ (hv3.set q4) q7⟩, fun c a G' M' H' hv' q => en.xc c a σ G' M' H' hv' q⟩, fun c a G' M' H' hv' q => en.xc c a σ G' M' H' hv' q⟩, fun c a G' M' H' hv' q => en.xc c a σ G' M' H' hv' q⟩
/-- d.pop(k, x), d.pop(k) -/
def kDPop2 (td ty tx : KE) : KE := fun σ G M R E => td σ G M (fun x G M => match x with
  | .ref a => (∃ kvs, At G M a (.dK kvs)) ∧ ty σ G M (fun y G M => tx σ G M (fun z G M => ∃ (n : Nat) (kvs : List (Key × V)) (k : Key), M[n]? = some (a, .dK kvs) ∧ y = kV k ∧ (∀ v, valV kvs k = some v → R v G (M.set n (a, .dK (dropK kvs k)))) ∧ (valV kvs k = none → R z G M)) E) E
  | _ => False) E
theorem je_dpop2 {td ty tx : KE} {apos cpos : Pos} (ho : JE X W o td) (he : JE X W e ty) (hf : JE X W f tx) (m : M2 X o "pop" apos e f cpos := by exact ⟨rfl, rfl, rfl, rfl⟩) : JE X W (.Call (.Attribute o "pop" apos) [e, f] [] cpos) (kDPop2 td ty tx) :=
  pe_mono (pe_dpop2 ho he hf m) fun σ H Q ⟨G, M, R, E, hv, h, hR, hE⟩ => ⟨G, M, _, E, hv, h, fun x G1 M1 H1 hv1 q1 => by
    match x, q1 with
    | .ref a, ⟨⟨kvs, q2⟩, q3⟩ => exact ⟨a, rfl, .inl ⟨kvs, .inl (hv1.at q2)⟩, G1, M1, _, E, hv1, q3, fun y G2 M2 H2 hv2 q4 => ⟨G2, M2, _, E, hv2, q4, fun z G3 M3 H3 hv3 q5 => by
        obtain ⟨n, kvs, k, q6, q7, q8, q9⟩ := q5
        exact ⟨kvs, k, hv3.get q6, q7, fun v hv => hR _ G3 _ _ (hv3.set q6) (q8 v hv), fun hv => hR _ G3 M3 H3 hv3 (q9 hv)⟩, hE⟩, hE⟩, hE⟩
/-- sorted(d), list(d), len(d) -/
def kSortedD : KC := fun vs G M R => match vs with
  | [.ref a] => ∃ (kvs : List (Key × V)) (ks : List Int), At G M a (.dK kvs) ∧ kvs.map (·.1) = ks.map Sum.inl ∧ ks.length < 64 ∧ ∀ (ys : List Int) (p : Addr), ys.Perm ks → ys.Pairwise (· ≤ ·) → Fr G M p → R (.ref p) G ((p, .lst (ys.map V.int)) :: M)
  | _ => False
theorem kc_sortedD (hc : X.calm = true := by rfl) : KCall X (.builtin "sorted") kSortedD := kcall_of (call_sortedDI hc) fun vs G M R H Q hv h hR => by
  match vs, h with
  | [.ref a], ⟨kvs, ks, h1, h2, h3, h4⟩ => exact ⟨a, kvs, ks, rfl, .inl (hv.at h1), h2, h3, fun ys p q1 q2 q3 => hR _ G _ _ (hv.newM q3) (h4 ys p q1 q2 (hv.fr q3))⟩
end
end BT
set_option Elab.async false
set_option linter.all false
set_option maxRecDepth 100000
set_option maxHeartbeats 4000000
namespace BT
open PySem PySem.Spec L2
open PyProof.Rows hiding St
/-! ### slices and sums of tuples, unpacked lists -/
section
variable {X : Cx} {W : WX} {pos : Pos} {o i e f : Expr}
end
end BT
set_option Elab.async false
set_option linter.all false
set_option maxRecDepth 100000
set_option maxHeartbeats 4000000
namespace BT
open PySem PySem.Spec L2
open PyProof.Rows hiding St
/-! ### isinstance(err, (C, D, ..)); except C without a name -/
def orTab (a b : List (Str × Bool)) : List (Str × Bool) := a.zipWith (fun p q => (p.1, p.2 || q.2)) b
theorem orTab_mem : ∀ {a b : List (Str × Bool)}, a.map (·.1) = b.map (·.1) → ∀ p, p ∈ orTab a b → ∃ x y, (p.1, x) ∈ a ∧ (p.1, y) ∈ b ∧ p.2 = (x || y)
  | [], _, _, p, h => by simp [orTab] at h
  | _ :: _, [], _, p, h => by simp [orTab] at h
  | u :: a, v :: b, e, p, h => by
    have e1 : u.1 = v.1 := by simpa using (List.cons.inj e).1
    rcases List.mem_cons.mp (show p ∈ (u.1, u.2 || v.2) :: orTab a b from h) with rfl | h
    · exact ⟨u.2, v.2, List.mem_cons_self, by rw [e1]; exact List.mem_cons_self, rfl⟩
    · obtain ⟨x, y, h1, h2, h3⟩ := orTab_mem (List.cons.inj e).2 p h
      exact ⟨x, y, List.mem_cons_of_mem _ h1, List.mem_cons_of_mem _ h2, h3⟩
structure IsT (K : PySem.W.Frag) (cs : List V) (us : List Value) (tab : List (Str × Bool)) : Prop where
  p : Paired ClsV cs us
  n : PySem.W.kitAny K (.type "NoneType") us = some false
  t : ∀ p ∈ tab, ExcC K (cl K p.1) ∧ PySem.W.kitAny K (.ref (cl K p.1)) us = some p.2
theorem IsT.cons {K : PySem.W.Frag} {c : V} {u : Value} {cs : List V} {us : List Value} {tab tab1 : List (Str × Bool)} (hc : ClsV c u) (hn : PySem.W.kitOne K (.type "NoneType") u = some false)
    (ht : ∀ p ∈ tab1, ExcC K (cl K p.1) ∧ PySem.W.kitOne K (.ref (cl K p.1)) u = some p.2) (h : IsT K cs us tab) (e : tab1.map (·.1) = tab.map (·.1) := by rfl) : IsT K (c :: cs) (u :: us) (orTab tab1 tab) :=
  ⟨.cons hc h.p, kitAny_cons hn (fun _ => h.n) (fun z => nomatch z), fun p hp => by
    obtain ⟨x, y, h1, h2, h3⟩ := orTab_mem e p hp
    obtain ⟨q1, q2⟩ := ht _ h1
    refine ⟨q1, kitAny_cons q2 (fun z => ?_) (fun z => ?_)⟩
    · rw [h3, show x = false from z]
      exact (h.t _ h2).2
    · rw [h3, show x = true from z]; rfl⟩
theorem IsT.one {K : PySem.W.Frag} {c : V} {u : Value} {tab1 : List (Str × Bool)} (hc : ClsV c u) (hn : PySem.W.kitOne K (.type "NoneType") u = some false)
    (ht : ∀ p ∈ tab1, ExcC K (cl K p.1) ∧ PySem.W.kitOne K (.ref (cl K p.1)) u = some p.2) : IsT K [c] [u] tab1 :=
  ⟨.cons hc .nil, kitAny_cons hn (fun _ => rfl) (fun z => nomatch z), fun p hp => by
    obtain ⟨q1, q2⟩ := ht p hp
    exact ⟨q1, kitAny_cons q2 (fun z => by rw [z]; rfl) (fun z => z)⟩⟩
section
variable {X : Cx} {W : WX} {pos : Pos}
end
end BT
namespace PySem.SeqAt
open AutoSeq1 (wpAny_loadPart')
open MeetsSeq
theorem bt_str_eq_declines (b : Str) (u : Tok) (l : Addr) (c : Value) (es : _) (ep : _) (dd : Option Addr) (sl : Array (Option Value)) :
    Meets (Builtin.«str.__eq__» ⟨[.str b u, .ref l], []⟩) (fun _ R s => s.heap.get? l = some ⟨c, dd, .dict es ep, sl⟩ ∧ R (.ok (.ret .notImplemented)) s) :=
  .of_wp fun prog w A R s h => by obtain ⟨hp, g, d, tk, os⟩ := s; obtain ⟨hl, h⟩ := h; wp_walk using wpAny_loadPart' hl, wpAny_load hl; exact ⟨_, rfl, h⟩
theorem bt_dict_eq_declines (l : Addr) (es : _) (ep : _) (dd : Option Addr) (sl : Array (Option Value)) (b : Str) (u : Tok) :
    Meets (Builtin.«dict.__eq__» ⟨[.ref l, .str b u], []⟩) (fun _ R s => s.heap.get? l = some ⟨.type "dict", dd, .dict es ep, sl⟩ ∧ R (.ok (.ret .notImplemented)) s) :=
  .of_wp fun prog w A R s h => by obtain ⟨hp, g, d, tk, os⟩ := s; obtain ⟨hl, h⟩ := h; have f1 := F.sub_str_dict; wp_walk using wpAny_loadPart' hl, wpAny_load hl; exact ⟨_, rfl, h⟩
theorem bt_dict_str {A : Around} {s : Shared} {l : Addr} {o : Obj} {es : _} {ep : _} (b : Str) (u : Tok) (ho : s.heap.get? l = some o) (hx : o.ExactDict) (hd : o.data = .dict es ep) (hu : A.units < cLine) : RcAt A s (.ref l) (.str b u) false := fun prog w E Q h => by
  obtain ⟨cls, dd, data, sl⟩ := o
  obtain ⟨hc, h2, h3⟩ := hx
  simp only at hc hd
  subst hc hd
  exact rc_eq_decline_or (k := false) ⟨_, ho, rfl⟩ (typeIs_str s b u) (by decide) F.sub_str_dict F.slot_dict_eq F.slot_str_eq_refl
    (fun _ hq => call_meets F.slot_dict_eq ⟨_, ho, rfl⟩ F.entry_dict_eq (F.args_dict_eq_2 _ _) (bt_dict_eq_declines l es ep dd sl b u) ⟨ho, hq⟩)
    (fun _ hq => call_meets F.slot_str_eq_refl (typeIs_str s b u) F.entry_str_eq (F.args_str_eq_2 _ _) (bt_str_eq_declines b u l (.type "dict") es ep dd sl) ⟨ho, hq⟩)
    (fun _ hq => wpAny_of_eq (rfl : isSame (.ref l) (.str b u) = pure false) hq) (.inr hu) h
end PySem.SeqAt
namespace BT
open PySem PySem.Spec L2
open PyProof.Rows hiding St
/-- == of what may be a dict, and a text -/
def kEqD (K : PySem.W.Frag) : KR2 := fun x y G M R => kEqv false K x y G M R ∨ ∃ (a : Addr) (s : Str) (kvs : List (Key × V)), x = .ref a ∧ y = .str s ∧ At G M a (.dK kvs) ∧ R (.bl false) G M
theorem kop_eqD {X : Cx} (hu : X.A.units + 64 < cLine) : KOp X (compareOp .Eq) (kEqD X.K) := fun pins s σ H x y v u Q G M R I rx ry hv h hR => by
  rcases h with h | ⟨a, t, kvs, rfl, rfl, ha, h⟩
  · exact kop_eq hu pins s σ H x y v u Q G M R I rx ry hv h hR
  · cases (show v = Value.ref a from rx)
    obtain ⟨tk, e⟩ := (show ∃ t', u = Value.str t t' from ry)
    subst e
    obtain ⟨_, _, vs, _, o, es, ep, h1, h2, h3, _⟩ := (show ObjOk X.prog X.w H s.heap a (.dK kvs) from I.hok a _ (hv.at ha))
    exact SeqAt.bt_dict_str t tk h1 h2 h3 (by omega) _ _ _ _ ⟨.bl false, H, I, rfl, hR _ G M H hv h⟩
end BT
set_option Elab.async false
set_option linter.all false
set_option maxRecDepth 100000
set_option maxHeartbeats 4000000
namespace BT
open PySem PySem.Spec L2
open PyProof.Rows hiding St
/-! ### written data: what a display of constants lays -/
inductive XD where
  | non
  | bl (b : Bool)
  | int (i : Int)
  | str (s : Str)
  | list (l : List XD)
  | tup (l : List XD)
  | dict
mutual
inductive Rp (K : PySem.W.Frag) (G : Hp) (Mx : Mem) : V → XD → Prop where
  | non : Rp K G Mx .non .non
  | bl (b : Bool) : Rp K G Mx (.bl b) (.bl b)
  | int (i : Int) : Rp K G Mx (.int i) (.int i)
  | str (s : Str) : Rp K G Mx (.str s) (.str s)
  | list {a : Addr} {vs : List V} {ds : List XD} : ((a, HO.lst vs) ∈ Mx ∨ G a = some (.lst vs)) → RpA K G Mx vs ds → Rp K G Mx (.ref a) (.list ds)
  | tup {a : Addr} {vs : List V} {ds : List XD} : SqT K G a vs → RpA K G Mx vs ds → Rp K G Mx (.ref a) (.tup ds)
  | dict {a : Addr} : ((a, HO.dK []) ∈ Mx ∨ G a = some (.dK [])) → Rp K G Mx (.ref a) .dict
inductive RpA (K : PySem.W.Frag) (G : Hp) (Mx : Mem) : List V → List XD → Prop where
  | nil : RpA K G Mx [] []
  | cons {v : V} {d : XD} {vs : List V} {ds : List XD} : Rp K G Mx v d → RpA K G Mx vs ds → RpA K G Mx (v :: vs) (d :: ds)
end
section
variable {K : PySem.W.Frag} {G G' : Hp} {Mx My M : Mem}
mutual
theorem Rp.mono (f : ∀ a o, ((a, o) ∈ Mx ∨ G a = some o) → ((a, o) ∈ My ∨ G' a = some o)) (e : Ex G G') : ∀ {v : V} {d : XD}, Rp K G Mx v d → Rp K G' My v d
  | _, _, .non => .non
  | _, _, .bl b => .bl b
  | _, _, .int b => .int b
  | _, _, .str b => .str b
  | _, _, .list h hs => .list (f _ _ h) (RpA.mono f e hs)
  | _, _, .tup h hs => .tup (ex_t e h) (RpA.mono f e hs)
  | _, _, .dict h => .dict (f _ _ h)
theorem RpA.mono (f : ∀ a o, ((a, o) ∈ Mx ∨ G a = some o) → ((a, o) ∈ My ∨ G' a = some o)) (e : Ex G G') : ∀ {vs : List V} {ds : List XD}, RpA K G Mx vs ds → RpA K G' My vs ds
  | _, _, .nil => .nil
  | _, _, .cons h hs => .cons (Rp.mono f e h) (RpA.mono f e hs)
end
theorem Rp.up {v : V} {d : XD} (e : Ex G G') (s : ∀ x, x ∈ Mx → x ∈ My) (h : Rp K G Mx v d) : Rp K G' My v d := h.mono (fun a o q => q.elim (fun z => .inl (s _ z)) (fun z => .inr (e _ _ z))) e
theorem RpA.up {v : List V} {d : List XD} (e : Ex G G') (s : ∀ x, x ∈ Mx → x ∈ My) (h : RpA K G Mx v d) : RpA K G' My v d := h.mono (fun a o q => q.elim (fun z => .inl (s _ z)) (fun z => .inr (e _ _ z))) e
theorem Rp.ex {v : V} {d : XD} (e : Ex G G') (h : Rp K G Mx v d) : Rp K G' Mx v d := h.up e fun _ z => z
theorem RpA.ex {v : List V} {d : List XD} (e : Ex G G') (h : RpA K G Mx v d) : RpA K G' Mx v d := h.up e fun _ z => z
theorem RpA.len : ∀ {vs : List V} {ds : List XD}, RpA K G Mx vs ds → vs.length = ds.length
  | _, _, .nil => rfl
  | _, _, .cons _ hs => by rw [List.length_cons, List.length_cons, hs.len]
theorem RpA.app : ∀ {vs ws : List V} {ds es : List XD}, RpA K G Mx vs ds → RpA K G Mx ws es → RpA K G Mx (vs ++ ws) (ds ++ es)
  | _, _, _, _, .nil, h => h
  | _, _, _, _, .cons a b, h => .cons a (b.app h)
theorem RpA.get : ∀ {vs : List V} {ds : List XD} {i : Nat}, RpA K G Mx vs ds → i < vs.length → ∃ v d, vs[i]? = some v ∧ ds[i]? = some d ∧ Rp K G Mx v d
  | _, _, _, .nil, h => by simp at h
  | _, _, 0, .cons a _, _ => ⟨_, _, rfl, rfl, a⟩
  | _, _, i + 1, .cons _ b, h => by
    obtain ⟨v, d, h1, h2, h3⟩ := RpA.get (i := i) b (by simpa using h)
    exact ⟨v, d, by simpa using h1, by simpa using h2, h3⟩
/-- cells of its own -/
def NewC (G : Hp) (Mx : Mem) : Prop := (∀ x, x ∈ Mx → G x.1 = none) ∧ (Mx.map (·.1)).Nodup
theorem NewC.nil : NewC G [] := ⟨fun _ z => (nomatch z), List.nodup_nil⟩
def frzA (G : Hp) (Mx : Mem) : Hp := Mx.foldr (fun x g => upd g x.1 x.2) G
theorem frzA_wk : ∀ (Mx : Mem) (G : Hp) (M : Mem), Wk G (Mx ++ M) (frzA G Mx) M
  | [], G, M => Wk.refl
  | x :: Mx, G, M => by
    refine Wk.trans (Wk.perm (M' := Mx ++ x :: M) ?_) ((frzA_wk Mx G (x :: M)).trans Wk.frz0)
    exact List.perm_middle
theorem frzA_ne : ∀ {Mx : Mem} {G : Hp} {a : Addr}, (∀ x, x ∈ Mx → x.1 ≠ a) → frzA G Mx a = G a
  | [], _, _, _ => rfl
  | x :: Mx, G, a, h => by
    show upd (frzA G Mx) x.1 x.2 a = _
    rw [upd_ne (Ne.symm (h x List.mem_cons_self))]
    exact frzA_ne fun y hy => h y (List.mem_cons_of_mem _ hy)
theorem frzA_ex (h : NewC G Mx) : Ex G (frzA G Mx) := fun a o e => by
  rw [frzA_ne]
  · exact e
  · intro x hx z
    rw [← z, h.1 x hx] at e
    cases e
theorem frzA_at : ∀ {Mx : Mem} {G : Hp}, (Mx.map (·.1)).Nodup → ∀ x, x ∈ Mx → frzA G Mx x.1 = some x.2
  | [], _, _, _, h => nomatch h
  | y :: Mx, G, hn, x, h => by
    rw [List.map_cons, List.nodup_cons] at hn
    show upd (frzA G Mx) y.1 y.2 x.1 = _
    rcases List.mem_cons.mp h with rfl | h
    · exact upd_same
    · rw [upd_ne (fun z => hn.1 (by rw [← z]; exact List.mem_map.mpr ⟨x, h, rfl⟩))]
      exact frzA_at hn.2 x h
theorem Rp.frz {v : V} {d : XD} (n : NewC G Mx) (h : Rp K G Mx v d) : Rp K (frzA G Mx) [] v d := h.mono (fun a o q => q.elim (fun z => .inr (frzA_at n.2 (a, o) z)) (fun z => .inr (frzA_ex n _ _ z))) (frzA_ex n)
theorem RpA.frz {v : List V} {d : List XD} (n : NewC G Mx) (h : RpA K G Mx v d) : RpA K (frzA G Mx) [] v d := h.mono (fun a o q => q.elim (fun z => .inr (frzA_at n.2 (a, o) z)) (fun z => .inr (frzA_ex n _ _ z))) (frzA_ex n)
/-- a cell more, a tuple more -/
theorem NewC.cell {p : Addr} {o : HO} (h : NewC G Mx) (f : Fr G (Mx ++ M) p) : NewC G ((p, o) :: Mx) := by
  refine ⟨fun x hx => ?_, ?_⟩
  · rcases List.mem_cons.mp hx with rfl | hx
    · exact f.1
    · exact h.1 x hx
  · rw [List.map_cons, List.nodup_cons]
    refine ⟨fun z => ?_, h.2⟩
    obtain ⟨y, hy, e⟩ := List.mem_map.mp z
    exact f.2 y (List.mem_append.mpr (.inl hy)) e
theorem NewC.tup {p : Addr} {o : HO} (h : NewC G Mx) (f : Fr G (Mx ++ M) p) : NewC (upd G p o) Mx :=
  ⟨fun x hx => by rw [upd_ne (f.2 x (List.mem_append.mpr (.inl hx)))]; exact h.1 x hx, h.2⟩
/-- an expression that lays written data -/
def LitOk (K : PySem.W.Frag) (te : KE) (σ : St) (G : Hp) (d : XD) : Prop := ∀ (G0 : Hp) (My M : Mem) (R : KR) (E : KX), Ex G G0 → NewC G0 My → (∀ v G' Mx, Ex G0 G' → NewC G' (Mx ++ My) → Rp K G' Mx v d → R v G' (Mx ++ (My ++ M))) → te σ G0 (My ++ M) R E
def LitsOk (K : PySem.W.Frag) (ta : KA) (σ : St) (G : Hp) (ds : List XD) : Prop := ∀ (G0 : Hp) (My M : Mem) (R : List V → Hp → Mem → Prop) (E : KX), Ex G G0 → NewC G0 My → (∀ vs G' Mx, Ex G0 G' → NewC G' (Mx ++ My) → RpA K G' Mx vs ds → R vs G' (Mx ++ (My ++ M))) → ta σ G0 (My ++ M) R E
end
section
variable {K : PySem.W.Frag} {σ : St} {G : Hp} {te ta tb : KE} {tas : KA} {ds es : List XD} {d : XD}
theorem lit_pure {v : V} (h : ∀ G0 M R E, Ex G G0 → R v G0 M → te σ G0 M R E) (r : Rp K G [] v d) : LitOk K te σ G d := fun G0 My M R E e n q => h G0 _ R E e (q v G0 [] Ex.refl n (r.ex e))
theorem lit_int {i : Int} : LitOk K (kC (.int i)) σ G (.int i) := lit_pure (fun _ _ _ _ _ q => q) (.int i)
theorem lit_bl {i : Bool} : LitOk K (kC (.bl i)) σ G (.bl i) := lit_pure (fun _ _ _ _ _ q => q) (.bl i)
theorem lit_str {i : Str} : LitOk K (kC (.str i)) σ G (.str i) := lit_pure (fun _ _ _ _ _ q => q) (.str i)
theorem lit_non : LitOk K (kC .non) σ G .non := lit_pure (fun _ _ _ _ _ q => q) .non
theorem lit_neg {i : Int} : LitOk K (kUn kNeg (kC (.int i))) σ G (.int (-i)) := lit_pure (fun _ _ _ _ _ q => q) (.int _)
theorem lit_var {i : Nat} {v : V} (h : σ[i]? = some (some v)) (r : Rp K G [] v d) : LitOk K (kVar i) σ G d := lit_pure (v := v) (fun _ _ _ _ _ q => by unfold kVar; rw [h]; exact q) r
theorem lit_dict : LitOk K kDNew σ G .dict := fun G0 My M R E e n q p fp => q _ G0 [(p, .dK [])] Ex.refl (n.cell fp) (.dict (.inl List.mem_cons_self))
theorem lits_nil : LitsOk K kNil σ G [] := fun G0 My M R E e n q => q [] G0 [] Ex.refl n .nil
theorem lits_cons (h : LitOk K te σ G d) (hs : LitsOk K tas σ G ds) : LitsOk K (kCons te tas) σ G (d :: ds) := fun G0 My M R E e n q =>
  h G0 My M _ E e n fun v G1 Mx e1 n1 r1 => by
    rw [← List.append_assoc]
    refine hs G1 (Mx ++ My) M _ E (e.trans e1) n1 fun vs G2 Mz e2 n2 r2 => ?_
    have := q (v :: vs) G2 (Mz ++ Mx) (e1.trans e2) (by rw [List.append_assoc]; exact n2) (.cons (r1.up e2 fun x hx => List.mem_append.mpr (.inr hx)) (r2.up Ex.refl fun x hx => List.mem_append.mpr (.inl hx)))
    simpa [List.append_assoc] using this
theorem lit_tup (h : LitsOk K tas σ G ds) (hl : ds.length ≤ 1000) : LitOk K (kTup tas) σ G (.tup ds) := fun G0 My M R E e n q =>
  h G0 My M _ E e n fun vs G1 Mx e1 n1 r1 => ⟨Nat.le_trans (by rw [r1.len]; exact hl) (by decide), fun p fp => by
    rw [← List.append_assoc] at fp
    exact q _ _ Mx (e1.trans (Ex.new fp)) (n1.tup fp) (.tup sqt_new (r1.ex (Ex.new fp)))⟩
theorem lit_lst (h : LitsOk K tas σ G ds) (hl : ds.length ≤ 1000) : LitOk K (kLst tas) σ G (.list ds) := fun G0 My M R E e n q =>
  h G0 My M _ E e n fun vs G1 Mx e1 n1 r1 => ⟨Nat.le_trans (by rw [r1.len]; exact hl) (by decide), fun p fp => by
    rw [← List.append_assoc] at fp
    exact q _ _ ((p, .lst vs) :: Mx) e1 (n1.cell fp) (.list (.inl List.mem_cons_self) (r1.up Ex.refl fun x hx => List.mem_cons_of_mem _ hx))⟩
theorem lit_add (h1 : LitOk K ta σ G (.list ds)) (h2 : LitOk K tb σ G (.list es)) (hl : (ds ++ es).length ≤ 1000) : LitOk K (kBin kAdd ta tb) σ G (.list (ds ++ es)) := fun G0 My M R E e n q =>
  h1 G0 My M _ E e n fun v G1 Mx e1 n1 r1 => by
    rw [← List.append_assoc]
    refine h2 G1 (Mx ++ My) M _ E (e.trans e1) n1 fun u G2 Mz e2 n2 r2 => ?_
    cases r1 with
    | @list a xs _ a1 s1 =>
      cases r2 with
      | @list b ys _ a2 s2 =>
        have l1 := s1.len
        have l2 := s2.len
        refine ⟨xs, ys, ?_, ?_, Nat.le_trans (m := 1000) (by rw [List.length_append] at hl; omega) (by decide), fun p fp => ?_⟩
        · rcases a1 with z | z
          · exact .inl (by simp [z])
          · exact .inr (e2 _ _ z)
        · rcases a2 with z | z
          · exact .inl (by simp [z])
          · exact .inr z
        · have fp' : Fr G2 ((Mz ++ (Mx ++ My)) ++ M) p := by simpa [List.append_assoc] using fp
          have := q (.ref p) G2 ((p, .lst (xs ++ ys)) :: (Mz ++ Mx)) (e1.trans e2) (by
            have := n2.cell (o := .lst (xs ++ ys)) fp'
            simpa [List.append_assoc] using this) (.list (.inl List.mem_cons_self) ((s1.up e2 fun x hx => by simp [hx]).app (s2.up Ex.refl fun x hx => by simp [hx])))
          simpa [List.append_assoc] using this
theorem lit_pow {i j : Int} (h : CPow i j) : LitOk K (kBin (kI CPow fun i j => .int (i ^ j.toNat)) (kC (.int i)) (kC (.int j))) σ G (.int (i ^ j.toNat)) := lit_pure (v := .int (i ^ j.toNat)) (fun _ _ _ _ _ q => ⟨h, q⟩) (.int _)
/-- one of written things is picked by a draw -/
theorem lit_pick {M : Mem} {R : KR} {E : KX} {i n : Nat} {p : Addr} {c s L : Int} (h : LitOk K te σ G (.list ds)) (hv : σ[i]? = some (some (.ref p))) (hn : M[n]? = some (p, pool c s)) (hs : PoolOk s) (hL : L = ds.length) (h0 : 0 < ds.length) (h1 : ds.length ≤ 1000)
    (q : ∀ v d G' Mx c' s', Ex G G' → NewC G' Mx → d ∈ ds → Rp K G' Mx v d → PoolOk s' → R v G' (Mx ++ M.set n (p, pool c' s'))) : kBin (kIx K) te (kCall (S_law_take K) (kCons (kVar i) (kCons (kC (.int L)) kNil))) σ G M R E := by
  refine h G [] M _ E Ex.refl NewC.nil fun v G1 Mx e1 n1 r1 => ?_
  rw [List.append_nil] at n1
  cases r1 with
  | @list a vs _ ha hs1 =>
    have hl := hs1.len
    rw [List.nil_append]
    simp only [kCall, kCons, kVar, hv]
    have hn2 : (Mx ++ M)[Mx.length + n]? = some (p, pool c s) := by rw [List.getElem?_append_right (by omega), Nat.add_sub_cancel_left]; exact hn
    refine ⟨p, L, Mx.length + n, c, s, rfl, rfl, hn2, hs, by omega, by omega, fun r c' s' r0 r1 hs' => ?_⟩
    obtain ⟨j, rfl⟩ := Int.eq_ofNat_of_zero_le r0
    obtain ⟨y, d, hy, hd, ry⟩ := hs1.get (i := j) (by omega)
    have hne : (a, HO.lst vs) ∈ Mx → (a, HO.lst vs) ∈ (Mx ++ M).set (Mx.length + n) (p, pool c' s') := fun z => by
      rw [List.set_append_right _ _ (by omega)]; exact List.mem_append.mpr (.inl z)
    refine ⟨vs, y, ?_, atI_nat hy, ?_⟩
    · rcases ha with z | z
      · exact .inl (.inl (hne z))
      · exact .inl (.inr (sql_of z))
    · have := q y d G1 Mx c' s' e1 n1 (List.mem_of_getElem? hd) ry hs'
      rw [List.set_append_right _ _ (by omega), Nat.add_sub_cancel_left]; exact this
end
/-! what is known of written things -/
def XD.ty : XD → PT
  | .non => .non | .bl _ => .bool | .int _ => .int | .str _ => .str | .list _ => .list | .tup _ => .tuple | .dict => .dict
theorem rp_ty {K : PySem.W.Frag} {G : Hp} {v : V} {d : XD} (h : Rp K G [] v d) (M : Mem) : TyK K G M v d.ty := by
  cases h with
  | non => exact ty_non
  | bl b => exact ty_bl
  | int i => exact ty_int
  | str s => exact ty_str
  | list h _ =>
    rcases h with z | z
    · cases z
    · exact ty_lst (.inr (sql_of z))
  | tup h _ => exact ty_tup h
  | dict h =>
    rcases h with z | z
    · cases z
    · exact ty_dict (.inr z)
mutual
def XD.toD : XD → Option PyData
  | .non => some .none
  | .bl b => some (.bool b)
  | .int i => some (.int i)
  | .str s => some (.str s)
  | .list l => (XD.toDs l).map .list
  | .tup l => (XD.toDs l).map .tuple
  | .dict => none
def XD.toDs : List XD → Option (List PyData)
  | [] => some []
  | x :: l => match x.toD, XD.toDs l with
    | some d, some ds => some (d :: ds)
    | _, _ => none
end
mutual
theorem rp_dp {K : PySem.W.Frag} {G : Hp} : ∀ {v : V} {d : XD} {e : PyData}, Rp K G [] v d → d.toD = some e → Dp K G v e
  | _, _, _, .non, h => by cases h; exact .non
  | _, _, _, .bl b, h => by cases h; exact .bl b
  | _, _, _, .int b, h => by cases h; exact .int b
  | _, _, _, .str b, h => by cases h; exact .str b
  | _, _, e, .list (ds := ds) ha hs, h => by
    have h : (XD.toDs ds).map PyData.list = some e := h
    obtain ⟨es, h1, rfl⟩ := Option.map_eq_some_iff.mp h
    rcases ha with z | z
    · cases z
    · exact .lst (sql_of z) (rpa_dp hs h1)
  | _, _, e, .tup (ds := ds) ha hs, h => by
    have h : (XD.toDs ds).map PyData.tuple = some e := h
    obtain ⟨es, h1, rfl⟩ := Option.map_eq_some_iff.mp h
    exact .tup ha (rpa_dp hs h1)
  | _, _, _, .dict _, h => by cases h
theorem rpa_dp {K : PySem.W.Frag} {G : Hp} : ∀ {vs : List V} {ds : List XD} {es : List PyData}, RpA K G [] vs ds → XD.toDs ds = some es → DpAll K G vs es
  | _, _, _, .nil, h => by cases h; exact .nil
  | _, _, es, .cons (d := d) (ds := ds) a b, h => by
    have h : (match d.toD, XD.toDs ds with | some d, some ds => some (d :: ds) | _, _ => none) = some es := h
    split at h
    · rename_i d' ds' e1 e2
      cases h
      exact .cons (rp_dp a e1) (rpa_dp b e2)
    · cases h
end
end BT
namespace BT
open PySem PySem.Spec L2
theorem Wk.dropP {G : Hp} (Mx : Mem) {M : Mem} : Wk G (Mx ++ M) G M := fun H hv => ⟨hv.ex, fun x hx => hv.mu x (List.mem_append.mpr (.inr hx)), hv.nd.sublist ((List.sublist_append_right Mx M).map _), fun x hx => hv.dj x (List.mem_append.mpr (.inr hx))⟩
end BT
set_option Elab.async false
set_option linter.all false
set_option maxRecDepth 100000
set_option maxHeartbeats 4000000
namespace BT
open PySem PySem.Spec L2
open PyProof.Rows hiding St
/-! ### dicts that are walked: locked while it goes on -/
section
variable {X : Cx} {W : WX} {pos : Pos} {o i e f tg : Expr}
/-! what is walked -/
end
end BT
set_option Elab.async false
set_option linter.all false
set_option maxRecDepth 100000
set_option maxHeartbeats 4000000
namespace BT
open PySem PySem.Spec L2
open PyProof.Rows hiding St
/-! ### a statement at which some heap is known to be as told -/
/-- a cell may be frozen -/
theorem Hv.fz {G : Hp} {M : Mem} {p : Addr} {o : HO} (h : ∃ H, Hv G ((p, o) :: M) H) : Ex G (upd G p o) := by
  obtain ⟨H, hv⟩ := h
  exact Ex.new' (hv.dj (p, o) List.mem_cons_self)
theorem Hv.no {G : Hp} {M : Mem} {x : Addr × HO} (h : ∃ H, Hv G M H) (hx : x ∈ M) : G x.1 = none := by
  obtain ⟨H, hv⟩ := h
  exact hv.dj x hx
theorem Hv.ne {G : Hp} {M : Mem} {x y : Addr × HO} {i j : Nat} (h : ∃ H, Hv G M H) (hx : M[i]? = some x) (hy : M[j]? = some y) (n : i ≠ j) : x.1 ≠ y.1 := fun e => by
  obtain ⟨H, hv⟩ := h
  exact n (nodup_at M j y.1 y.2 x i hv.nd hy hx e)
end BT
namespace BT
open PySem PySem.Spec L2
end BT
set_option Elab.async false
set_option linter.all false
set_option maxRecDepth 100000
set_option maxHeartbeats 4000000
namespace BT
open PySem PySem.Spec L2
open PyProof.Rows hiding St
/-! ### defs that are called where no guard stands; repr -/
structure GFn (P : Program) (w : World) (K : PySem.W.Frag) (mg : Str → Option Value) (base : Heap) (k : Nat) (f : Addr) (fd : FuncData) (ps : List Str) (sp : Sp) : Prop where
  len : ∀ vs H Q E, sp vs H Q E → vs.length = ps.length
  go : ∀ {A : Around} {outer : List Env} {s : Shared} {H : Hp} {args : Args} {us : List Value} {vs : List V} {Q : VK} {E : XK}, A.guards = some [] → Room k A → Env0 P w K mg base A outer s H → BindsTo s fd args (ps.zip us) → Vals vs us → sp vs H Q E →
    codeAny (model P w) A (.call (.ref f) args) (CR (L2.CX P w) outer P w H s Q E) s
section
variable {P : Program} {w : World} {K : PySem.W.Frag} {mg : Str → Option Value} {base : Heap} {k : Nat} {f : Addr} {fd : FuncData} {ps : List Str} {sp : Sp}
theorem GFn.mono {j : Nat} (F : GFn P w K mg base j f fd ps sp) (h : j ≤ k) : GFn P w K mg base k f fd ps sp := ⟨F.len, fun g r => F.go g (r.mono h)⟩
structure DefG (P : Program) (w : World) (K : PySem.W.Frag) (mg : Str → Option Value) (base : Heap) (lev : Nat) (x : Str) (ps : List Str) (S : KSp) : Prop where
  ex : ∃ f fd, GFn P w K mg base lev f fd ps (lift S) ∧ mg x = some (.ref f) ∧ PySem.W.keepIn K (.ref f) = true ∧ Binds K fd ps []
end
section
variable {X : Cx} {W : WX} {pos p : Pos} {e : Expr} {es : List Expr} {x : Str} {k lev : Nat} {ps : List Str} {S : KSp} {t : KA}
end
end BT
namespace BT
open PySem PySem.Spec L2
open PyProof.Rows hiding St
end BT
namespace BT
open PySem PySem.Spec L2
/-! ### data that may be shown -/
structure Sho (p w : Nat) (d : PyData) : Prop where
  s : d.showable = true
  n : d.hasDict = false
  l : d.leavesShort 25 = true
  p : d.depth ≤ p
  w : d.weight ≤ w
theorem Sho.up {p p' w w' : Nat} {d : PyData} (h : Sho p w d) (hp : p ≤ p') (hw : w ≤ w') : Sho p' w' d := ⟨h.s, h.n, h.l, Nat.le_trans h.p hp, Nat.le_trans h.w hw⟩
end BT
set_option Elab.async false
set_option linter.all false
set_option maxRecDepth 100000
set_option maxHeartbeats 4000000
/-! sorted(set(xs)), xs a list of ints -/
namespace BT
open PySem PySem.Spec L2
open PyProof.Rows hiding St
section
variable {P : Program} {w : World} {A : Around} {E : Value → Shared → Prop} {s : Shared}
set_option maxHeartbeats 3200000 in
end
section
variable {X : Cx} {W : WX}
end
end BT
namespace BT
open PySem PySem.Spec L2
open PyProof.Rows hiding St
def storeKs : List Nat := [7]
/-! ### whole numbers -/
def isIntV : V → Bool
  | .int _ => true
  | _ => false
def withinV (x : V) (lo hi : Int) : Bool := match x with
  | .int i => decide (lo ≤ i) && decide (i ≤ hi)
  | _ => false
def S_is_whole (K : PySem.W.Frag) : KSp := sp1 fun x G M R Z => ∃ T : PT, TyK K G M x T ∧ R (.bl (T == .int)) G M
def S_is_within (K : PySem.W.Frag) : KSp := sp3 fun x y z G M R Z => ∃ (T : PT) (lo hi : Int), y = .int lo ∧ z = .int hi ∧ TyK K G M x T ∧ (T == .int) = isIntV x ∧ R (.bl (withinV x lo hi)) G M
def isStrV : V → Bool
  | .str _ => true
  | _ => false

/-! ### things whose type is known -/
def WOk (K : PySem.W.Frag) (G : Hp) (w : V) : Prop := ∃ S : PT, (∀ M, TyK K G M w S) ∧ (S == .str) = isStrV w
def IOk (K : PySem.W.Frag) (G : Hp) (x : V) : Prop := ∃ T : PT, (∀ M, TyK K G M x T) ∧ (T == .int) = isIntV x

/-! ### kinds and draws -/
structure Kn where
  leaf : Bool
  n : Nat
def Kn.txt (k : Kn) : Str := if k.leaf then "leaf" else "shuffle"
def KnOk (k : Kn) : Prop := k.n ≤ 64 ∧ (k.leaf = true → k.n ≤ 6) ∧ (k.leaf = false → 1 ≤ k.n)
def knD (k : Kn) : PyData := .tuple [.str k.txt, .int k.n]
/-- a draw: a leaf's number, or a row -/
inductive Dr | leaf (n : Nat) | row (l : List Nat)
def natsV (l : List Nat) : List V := l.map fun (n : Nat) => V.int (n : Int)
inductive A2 {α β : Type} (r : α → β → Prop) : List α → List β → Prop
  | nil : A2 r [] []
  | cons {a : α} {b : β} {as : List α} {bs : List β} : r a b → A2 r as bs → A2 r (a :: as) (b :: bs)
/-- a draw as it lies: a row's list is one of the cells -/
def DrM (M : Mem) (v : V) (d : Dr) : Prop := match d with
  | .leaf n => v = .int n
  | .row l => ∃ b, v = .ref b ∧ (b, HO.lst (natsV l)) ∈ M
def DrV (K : PySem.W.Frag) (G : Hp) (M : Mem) (v : V) (d : Dr) : Prop := match d with
  | .leaf n => v = .int n
  | .row l => ∃ b, v = .ref b ∧ LstAt K G M b (natsV l)
def KnAt (K : PySem.W.Frag) (G : Hp) (M : Mem) (a : Addr) (ks : List Kn) : Prop := ∃ us, LstAt K G M a us ∧ DpAll K G us (ks.map knD) ∧ (∀ k, k ∈ ks → KnOk k) ∧ ks.length ≤ 1000
def DrAt (K : PySem.W.Frag) (G : Hp) (M : Mem) (a : Addr) (ds : List Dr) : Prop := ∃ us, LstAt K G M a us ∧ A2 (DrV K G M) us ds
def DrOk (k : Kn) (d : Dr) : Prop := match d with
  | .leaf n => k.leaf = true ∧ n < 2 ^ k.n
  | .row l => k.leaf = false ∧ l.length = k.n ∧ ∀ (i v : Nat), l[i]? = some v → v ≤ i
def S_leaves (K : PySem.W.Frag) : KSp := sp1 fun x G M R Z => ∃ n : Nat, x = .int n ∧ n ≤ 1000 ∧ R (.int ((2 ^ n : Nat) : Int)) G M
/-! ### sizes and needs -/
def highN (m : Nat) : Nat := ((List.range 6).filter fun k => decide (2 ^ k < m)).length
def lastN (m : Nat) : Nat := highN m - 1
def sideN (m : Nat) : Nat := ((List.range 7).filter fun k => decide (1 ≤ k) && decide (m ≤ k * k)).headD 0
def stairN (m p : Nat) : Nat := ((List.range 6).filter fun k => decide (k = lastN m) || decide (p % (2 * 2 ^ k) ≠ 0)).headD 0
def slotA (m st : Nat) : Nat := if st = lastN m then m else 2 * 2 ^ st
def trN : Nat → Nat → List Nat
  | 0, m => [m]
  | f + 1, m => if 4 < m then m :: trN f ((m + 3) / 4) else [m]
def treesN (m : Nat) : List Nat := trN 3 m
def spareK (m most : Nat) : List Kn := List.replicate ((most + sideN m - 1) / sideN m) ⟨false, m + sideN m⟩
def stairL (m most : Nat) : List Nat := lastN m :: (List.range ((most + 1) / 2 - 1)).map fun i => stairN m (i + 1)
def stairsK (m most : Nat) : List Kn := if most = 0 then [] else (stairL m most).map fun st => ⟨false, slotA m st + 2 * 2 ^ st⟩
def groveK (ts : List Nat) (most : Nat) : List Kn := (ts.flatMap fun m => List.replicate m ⟨true, highN m⟩) ++ (List.replicate most (ts.map fun m => (⟨true, highN m⟩ : Kn))).flatten
def kindsK (w : Str) (m most : Nat) : List Kn := if w = "spare" then spareK m most else if w = "stairs" then stairsK m most else if w = "tree" then groveK [m] most else if w = "grove" then groveK (treesN m) most else []
/-- a list of kinds that was told: a cell of its own -/
def KndsR (K : PySem.W.Frag) (G : Hp) (M : Mem) (ks : List Kn) (R : KR) : Prop := ∀ (t : Addr) (us : List V) (G' : Hp), Ex G G' → Fr G' M t → DpAll K G' us (ks.map knD) → R (.ref t) G' ((t, .lst us) :: M)
def natOk (x : V) (m : Nat) (lo hi : Nat) : Prop := x = .int m ∧ lo ≤ m ∧ m ≤ hi
def S_side_of (K : PySem.W.Frag) : KSp := sp1 fun x G M R Z => ∃ m, natOk x m 1 32 ∧ R (.int (sideN m)) G M
def S_high_of (K : PySem.W.Frag) : KSp := sp1 fun x G M R Z => ∃ m, natOk x m 1 32 ∧ R (.int (highN m)) G M
def S_last_of (K : PySem.W.Frag) : KSp := sp1 fun x G M R Z => ∃ m, natOk x m 1 32 ∧ R (.int (lastN m)) G M
def S_stair_of (K : PySem.W.Frag) : KSp := sp2 fun x y G M R Z => ∃ m p, natOk x m 1 32 ∧ natOk y p 1 30 ∧ R (.int (stairN m p)) G M
def S_slots_of (K : PySem.W.Frag) : KSp := sp2 fun x y G M R Z => ∃ m st, natOk x m 1 32 ∧ natOk y st 0 6 ∧ ∀ t G', Ex G G' → SqT K G' t [.int (slotA m st), .int ((2 * 2 ^ st : Nat) : Int)] → R (.ref t) G' M
def S_trees_of (K : PySem.W.Frag) : KSp := sp1 fun x G M R Z => ∃ m, natOk x m 1 32 ∧ ∀ t, Fr G M t → R (.ref t) G ((t, .lst (natsV (treesN m))) :: M)
def S_look_at_many (K : PySem.W.Frag) : KSp := sp1 fun x G M R Z => ∃ T : PT, TyK K G M x T ∧ (T == .int) = isIntV x ∧ (withinV x 1 32 = true → R .non G M) ∧ (withinV x 1 32 = false → Z (.ref (cl K "NoSize")) none G M)
def S_look_at_sizes (K : PySem.W.Frag) : KSp := sp2 fun x y G M R Z => ∃ T U : PT, TyK K G M x T ∧ (T == .int) = isIntV x ∧ TyK K G M y U ∧ (U == .int) = isIntV y ∧
  ((withinV x 1 32 && withinV y 0 60) = true → R .non G M) ∧ ((withinV x 1 32 && withinV y 0 60) = false → Z (.ref (cl K "NoSize")) none G M)
def S_spare_needs (K : PySem.W.Frag) : KSp := sp2 fun x y G M R Z => ∃ m q, natOk x m 1 32 ∧ natOk y q 0 60 ∧ KndsR K G M (spareK m q) R
def S_stairs_needs (K : PySem.W.Frag) : KSp := sp2 fun x y G M R Z => ∃ m q, natOk x m 1 32 ∧ natOk y q 0 60 ∧ KndsR K G M (stairsK m q) R
def S_grove_needs (K : PySem.W.Frag) : KSp := sp2 fun x y G M R Z => ∃ (a : Addr) (ts : List Nat) (q : Nat), x = .ref a ∧ LstAt K G M a (natsV ts) ∧ (∀ t, t ∈ ts → 1 ≤ t ∧ t ≤ 32) ∧ ts.length ≤ 3 ∧ natOk y q 0 60 ∧ KndsR K G M (groveK ts q) R
def S_kinds_of (K : PySem.W.Frag) : KSp := sp3 fun w x y G M R Z => ∃ (s : Str) (m q : Nat), w = .str s ∧ natOk x m 1 32 ∧ natOk y q 0 60 ∧ KndsR K G M (kindsK s m q) R
/-! ### orders and rows: what they are -/
def swapL (l : List Nat) (i j : Nat) : List Nat := (l.set i (l.getD j 0)).set j (l.getD i 0)
def walkO (r : Nat → Nat) : Nat → List Nat → List Nat
  | 0, o => o
  | m + 1, o => walkO r m (swapL o (m + 1) (r (m + 1)))
def orderOf (l : List Nat) : List Nat := walkO (fun i => l.getD i 0) (l.length - 1) (List.range l.length)
/-- a shuffle's row -/
def RowOk (l : List Nat) : Prop := ∀ (i v : Nat), l[i]? = some v → v ≤ i
/-- an order of n -/
structure OrdOk (n : Nat) (o : List Nat) : Prop where
  len : o.length = n
  nd : o.Nodup
  lt : ∀ x, x ∈ o → x < n
def ItemsTy (K : PySem.W.Frag) (G : Hp) (M : Mem) (xs : List V) : Prop := ∀ x, x ∈ xs → ∃ T : PT, TyK K G M x T ∧ (T == .int) = isIntV x
/-! ### asks -/
inductive Deed | read (c : Nat) | write (c w : Nat)
def Deed.cell : Deed → Nat
  | .read c => c
  | .write c _ => c
def Deed.vs : Deed → List V
  | .read c => [.str "read", .int c]
  | .write c w => [.str "write", .int c, .int w]
def Deed.upd (ws : List Nat) : Deed → List Nat
  | .read _ => ws
  | .write c w => ws.set c w
def Deed.put (told : Nat) : Deed → Nat
  | .read _ => told
  | .write _ w => w
def DeedOk (m : Nat) (d : Deed) : Prop := d.cell < m ∧ match d with
  | .read _ => True
  | .write _ w => w ≤ 999999999999999999
def DeedAt (K : PySem.W.Frag) (G : Hp) (v : V) (d : Deed) : Prop := ∃ t, v = .ref t ∧ SqT K G t d.vs
/-- a thing whose first item may be compared with a text -/
def HeadOk (K : PySem.W.Frag) (G : Hp) (M : Mem) (x : V) : Prop := match x with
  | .ref a => (∃ d, DatAt K G M x d ∧ SeqAt.shaped d = true ∧ ∀ s, PyData.eqv d (.str s) = false) ∨ ∃ kvs, G a = some (.dK kvs)
  | .non => True
  | .int _ => True
  | .bl _ => True
  | .str _ => True
  | _ => False
def askB (m : Int) (xs : List V) : Bool := match xs with
  | x0 :: x1 :: r => withinV x1 0 (m - 1) && (match r with
    | [] => decide (x0 = .str "read")
    | [x2] => decide (x0 = .str "write") && withinV x2 0 999999999999999999
    | _ => false)
  | _ => false
def AskV (K : PySem.W.Frag) (G : Hp) (M : Mem) (m : Int) (y : V) (b : Bool) : Prop := (∃ T : PT, TyK K G M y T ∧ T ≠ .tuple ∧ b = false) ∨
  ∃ (t : Addr) (xs : List V), y = .ref t ∧ SqT K G t xs ∧ xs.length ≤ 1000 ∧ (∀ x, x ∈ xs → ∃ T : PT, TyK K G M x T ∧ (T == .int) = isIntV x) ∧ (∀ x, xs[0]? = some x → HeadOk K G M x) ∧ b = askB m xs
def S_is_ask (K : PySem.W.Frag) : KSp := sp2 fun x y G M R Z => ∃ (m : Int) (b : Bool), x = .int m ∧ AskV K G M m y b ∧ R (.bl b) G M
def S_need_ask (K : PySem.W.Frag) : KSp := sp2 fun x y G M R Z => ∃ (m : Int) (b : Bool), x = .int m ∧ AskV K G M m y b ∧ (b = true → R .non G M) ∧ (b = false → Z (.ref (cl K "NoAsk")) none G M)
/-- a thing that is no ask, wherever it is looked at -/
def NoAskG (K : PySem.W.Frag) (G : Hp) (m : Int) (v : V) : Prop := ∀ G2 M2, Ex G G2 → AskV K G2 M2 m v false

/-! ### looks at draws -/
def rowB (size : Nat) (xs : List V) : Bool := decide (xs.length = size) && (List.range xs.length).all fun i => withinV (xs.getD i .non) 0 (i : Int)
def RowV (K : PySem.W.Frag) (G : Hp) (M : Mem) (size : Nat) (y : V) (b : Bool) : Prop := (∃ T : PT, TyK K G M y T ∧ T ≠ .list ∧ b = false) ∨ ∃ (a : Addr) (xs : List V), y = .ref a ∧ LstAt K G M a xs ∧ xs.length ≤ 1000 ∧ ItemsTy K G M xs ∧ b = rowB size xs
def DrawV (K : PySem.W.Frag) (G : Hp) (M : Mem) (k : Kn) (y : V) (b : Bool) : Prop := if k.leaf then ∃ T : PT, TyK K G M y T ∧ (T == .int) = isIntV y ∧ b = withinV y 0 (((2 ^ k.n : Nat) : Int) - 1) else RowV K G M k.n y b
def S_is_row (K : PySem.W.Frag) : KSp := sp2 fun x y G M R Z => ∃ (n : Nat) (b : Bool), x = .int n ∧ RowV K G M n y b ∧ R (.bl b) G M
def S_is_draw (K : PySem.W.Frag) : KSp := sp2 fun x y G M R Z => ∃ (k : Kn) (b : Bool), Dp K G x (knD k) ∧ KnOk k ∧ DrawV K G M k y b ∧ R (.bl b) G M
def S_look_at_draws (K : PySem.W.Frag) : KSp := sp2 fun x y G M R Z => ∃ (a b : Addr) (ks : List Kn) (ds : List Dr), x = .ref a ∧ y = .ref b ∧ KnAt K G M a ks ∧ DrAt K G M b ds ∧ A2 DrOk ks ds ∧ R .non G M
/-- draws that are frozen -/
def DrsG (K : PySem.W.Frag) (G : Hp) (p : Addr) (ds : List Dr) : Prop := ∃ us, SqL K G p us ∧ A2 (DrV K G []) us ds
def S_copied (K : PySem.W.Frag) : KSp := sp1 fun x G M R Z => ∃ (b : Addr) (ds : List Dr), x = .ref b ∧ DrAt K G M b ds ∧ ds.length ≤ 1000 ∧ ∀ (p : Addr) (G' : Hp), Ex G G' → DrsG K G' p ds → R (.ref p) G' M

/-! ### keepers and shelves -/
structure Tch where
  lay : Bool
  shelf : Nat
  room : Nat
  deriving DecidableEq
def Tch.txt (t : Tch) : Str := if t.lay then "lay" else "look"
def tchD (t : Tch) : PyData := .tuple [.str t.txt, .int t.shelf, .int t.room]
/-- a list of touches, as it lies -/
def LogC (K : PySem.W.Frag) (G : Hp) (ts : List Tch) (o : HO) : Prop := ∃ vs, o = .lst vs ∧ DpAll K G vs (ts.map tchD)
structure KeepAt (K : PySem.W.Frag) (G : Hp) (M : Mem) (kp dk lg : Addr) (j l : Nat) (o : HO) (ts : List Tch) : Prop where
  k : M[j]? = some (kp, Ob K 1 dk [.ref lg])
  l : M[l]? = some (lg, o)
  c : LogC K G ts o
structure ShelfAt (K : PySem.W.Frag) (M : Mem) (a dx kp th : Addr) (num n i : Nat) (xs : List V) : Prop where
  s : M[n]? = some (a, Ob K 2 dx [.ref kp, .int num, .ref th])
  t : M[i]? = some (th, .lst xs)
/-- a list that is another cell than the one at n, or frozen -/
def LstN (K : PySem.W.Frag) (G : Hp) (M : Mem) (n : Nat) (b : Addr) (xs : List V) : Prop := (∃ i, n ≠ i ∧ M[i]? = some (b, .lst xs)) ∨ SqL K G b xs
def S_Keeper_init (K : PySem.W.Frag) : KSp := sp1 fun x G M R Z => ∃ (a dx : Addr) (n : Nat), x = .ref a ∧ M[n]? = some (a, Ob K 1 dx []) ∧ ∀ lg, Fr G M lg → R .non G ((lg, .lst []) :: M.set n (a, Ob K 1 dx [.ref lg]))
def S_Keeper_sees (K : PySem.W.Frag) : KSp := sp4 fun x y z u G M R Z => ∃ (kp dk lg : Addr) (j l : Nat) (o : HO) (ts : List Tch) (t : Tch), x = .ref kp ∧ y = .str t.txt ∧ z = .int t.shelf ∧ u = .int t.room ∧ KeepAt K G M kp dk lg j l o ts ∧ ts.length ≤ 1000000 ∧
  ∀ G' o', Ex G G' → LogC K G' (ts ++ [t]) o' → R .non G' (M.set l (lg, o'))
def S_Keeper_seen (K : PySem.W.Frag) : KSp := sp1 fun x G M R Z => ∃ (kp dk lg : Addr) (j l : Nat) (o : HO) (ts : List Tch), x = .ref kp ∧ KeepAt K G M kp dk lg j l o ts ∧ ∀ p, Fr G M p → R (.ref p) G ((p, o) :: M)
def S_Shelf_init (K : PySem.W.Frag) : KSp := sp4 fun x y z u G M R Z => ∃ (a dx b : Addr) (n : Nat) (xs : List V), x = .ref a ∧ u = .ref b ∧ M[n]? = some (a, Ob K 2 dx []) ∧ LstN K G M n b xs ∧ ∀ th, Fr G M th → R .non G ((th, .lst xs) :: M.set n (a, Ob K 2 dx [y, z, .ref th]))
def S_Shelf_need_room (K : PySem.W.Frag) : KSp := sp2 fun x y G M R Z => ∃ (a dx kp th : Addr) (num n i : Nat) (xs : List V) (T : PT), x = .ref a ∧ ShelfAt K M a dx kp th num n i xs ∧ TyK K G M y T ∧ (T == .int) = isIntV y ∧ (withinV y 0 ((xs.length : Int) - 1) = true → R .non G M) ∧ (withinV y 0 ((xs.length : Int) - 1) = false → Z (.ref (cl K "NoRoom")) none G M)
def S_Shelf_look (K : PySem.W.Frag) : KSp := sp2 fun x y G M R Z => ∃ (a dx kp th : Addr) (num n i : Nat) (xs : List V), x = .ref a ∧ ShelfAt K M a dx kp th num n i xs ∧
  ((∃ T : PT, TyK K G M y T ∧ (T == .int) = isIntV y ∧ withinV y 0 ((xs.length : Int) - 1) = false ∧ Z (.ref (cl K "NoRoom")) none G M) ∨
   ∃ (dk lg : Addr) (j l : Nat) (o : HO) (ts : List Tch) (r : Nat) (v : V), y = .int r ∧ KeepAt K G M kp dk lg j l o ts ∧ ts.length ≤ 1000000 ∧ xs[r]? = some v ∧ l ≠ i ∧ ∀ G' o', Ex G G' → LogC K G' (ts ++ [⟨false, num, r⟩]) o' → R v G' (M.set l (lg, o')))
def S_Shelf_lay (K : PySem.W.Frag) : KSp := sp3 fun x y z G M R Z => ∃ (a dx kp th : Addr) (num n i : Nat) (xs : List V), x = .ref a ∧ ShelfAt K M a dx kp th num n i xs ∧
  ((∃ T : PT, TyK K G M y T ∧ (T == .int) = isIntV y ∧ withinV y 0 ((xs.length : Int) - 1) = false ∧ Z (.ref (cl K "NoRoom")) none G M) ∨
   ∃ (dk lg : Addr) (j l : Nat) (o : HO) (ts : List Tch) (r : Nat), y = .int r ∧ KeepAt K G M kp dk lg j l o ts ∧ ts.length ≤ 1000000 ∧ r < xs.length ∧ l ≠ i ∧ l ≠ n ∧ ∀ G' o', Ex G G' → LogC K G' (ts ++ [⟨true, num, r⟩]) o' → R .non G' ((M.set l (lg, o')).set i (th, .lst (xs.set r z))))

/-! ### what stores of all ways have -/
structure StoreF where
  cells : Nat
  limit : Nat
  draws : Addr
  keeper : Addr
  made : Nat
def StoreF.vs (f : StoreF) : List V := [.int f.cells, .int f.limit, .ref f.draws, .ref f.keeper, .int f.made]
def S_Store_left (K : PySem.W.Frag) : KSp := sp1 fun x G M R Z => ∃ (a : Addr) (k : Nat) (dx : Addr) (f : StoreF) (r : List V), x = .ref a ∧ k ∈ storeKs ∧ At G M a (Ob K k dx (f.vs ++ r)) ∧ R (.int ((f.limit : Int) - f.made)) G M
def S_Store_touches (K : PySem.W.Frag) : KSp := sp1 fun x G M R Z => ∃ (a : Addr) (k : Nat) (dx : Addr) (f : StoreF) (r : List V) (dk lg : Addr) (j l : Nat) (o : HO) (ts : List Tch), x = .ref a ∧ k ∈ storeKs ∧ At G M a (Ob K k dx (f.vs ++ r)) ∧ KeepAt K G M f.keeper dk lg j l o ts ∧ ∀ p, Fr G M p → R (.ref p) G ((p, o) :: M)
def S_Store_init (K : PySem.W.Frag) : KSp := sp5 fun x w y z u G M R Z => ∃ (a dx b : Addr) (n k : Nat) (s : Str) (m q : Nat) (ds : List Dr), x = .ref a ∧ k ∈ storeKs ∧ M[n]? = some (a, Ob K k dx []) ∧ w = .str s ∧ natOk y m 1 32 ∧ natOk z q 0 60 ∧ u = .ref b ∧ DrAt K G M b ds ∧ A2 DrOk (kindsK s m q) ds ∧ (∀ kn, kn ∈ kindsK s m q → KnOk kn) ∧ (kindsK s m q).length ≤ 1000 ∧
  ∀ (dr kp dk lg : Addr) (G' : Hp), Ex G G' → DrsG K G' dr ds → R .non G' ((lg, .lst []) :: (kp, Ob K 1 dk [.ref lg]) :: M.set n (a, Ob K k dx (StoreF.vs ⟨m, q, dr, kp, 0⟩)))
def Deed.word : Deed → V
  | .read _ => .non
  | .write _ w => .int w
def S_word_asked (K : PySem.W.Frag) : KSp := sp1 fun x G M R Z => ∃ d : Deed, DeedAt K G x d ∧ R d.word G M

/-! ### scans -/
structure ScanA where
  s : Addr
  ds : Addr
  dr : Addr
  kp : Addr
  dk : Addr
  lg : Addr
  sh : Addr
  dh : Addr
  th : Addr
def scanB (K : PySem.W.Frag) (A : ScanA) (m lim made : Nat) (o : HO) (ws : List Nat) : Mem := [(A.s, Ob K 3 A.ds (StoreF.vs ⟨m, lim, A.dr, A.kp, made⟩ ++ [.ref A.sh])), (A.kp, Ob K 1 A.dk [.ref A.lg]), (A.lg, o), (A.sh, Ob K 2 A.dh [.ref A.kp, .int 0, .ref A.th]), (A.th, .lst (natsV ws))]
def scanT (m : Nat) : List Tch := (List.range m).flatMap fun r => [⟨false, 0, r⟩, ⟨true, 0, r⟩]
/-! ### nets: what they are -/
def joinL : Nat → Int → Int → List (Int × Int)
  | 0, f, s => [(f, f + s)]
  | j + 1, f, s => joinL j f (2 * s) ++ joinL j (f + s) (2 * s) ++ (List.range (2 ^ (j + 1) - 1)).map fun (i : Nat) => (f + s + (i : Int) * (2 * s), f + s + (i : Int) * (2 * s) + s)
def sortL : Nat → Int → List (Int × Int)
  | 0, _ => []
  | j + 1, f => sortL j f ++ sortL j (f + 2 ^ j) ++ joinL j f 1
def lg (n : Int) : Nat := if n ≤ 1 then 0 else if n ≤ 2 then 1 else if n ≤ 4 then 2 else if n ≤ 8 then 3 else if n ≤ 16 then 4 else if n ≤ 32 then 5 else 6
def netL (n : Int) : List (Int × Int) := (sortL (lg n) 0).filter fun p => decide (p.2 < n)
/-! ### the run of a net -/
/-! ### a shuffled shelf with spare rooms: what it is -/
structure Tri where
  mark : Nat
  item : Nat
  word : Nat
def triD (t : Tri) : PyData := .tuple [.int t.mark, .int t.item, .int t.word]
/-- each item lies, marked, in its room -/
structure Laid (ord W : List Nat) (tr : List Tri) : Prop where
  len : tr.length = ord.length
  at_ : ∀ i, i < ord.length → tr[ord.getD i 0]? = some ⟨ord.getD i 0, i, W.getD i 0⟩
/-- what is in hand -/
def hGet (h : List (Nat × Nat)) (c : Nat) : Option Nat := (h.find? fun p => decide (p.1 = c)).map (·.2)
def hPut (h : List (Nat × Nat)) (c w : Nat) : List (Nat × Nat) := if (hGet h c).isSome then h.map (fun p => if p.1 = c then (p.1, w) else p) else h ++ [(c, w)]
def handK (h : List (Nat × Nat)) : List (Key × V) := h.map fun p => (Sum.inl (p.1 : Int), V.int (p.2 : Int))
def pairT (p : Int × Int) : List Tch := [⟨false, 0, p.1.toNat⟩, ⟨false, 0, p.2.toNat⟩, ⟨true, 0, p.1.toNat⟩, ⟨true, 0, p.2.toNat⟩]
def mendT (n : Nat) : List Tch := scanT n ++ (netL (n : Int)).flatMap pairT
/-- the words of all items behind a mending -/
def wordsM (n : Nat) (W : List Nat) (h : List (Nat × Nat)) : List Nat := (List.range n).map fun i => (hGet h i).getD (W.getD i 0)
def HandOk (m : Nat) (h : List (Nat × Nat)) : Prop := (h.map (·.1)).Nodup ∧ ∀ p, p ∈ h → p.1 < m
def spareB (K : PySem.W.Frag) (A : ScanA) (m lim made : Nat) (od hd : Addr) (o : HO) (xs : List V) (h : List (Nat × Nat)) : Mem :=
  [(A.s, Ob K 4 A.ds (StoreF.vs ⟨m, lim, A.dr, A.kp, made⟩ ++ [.int (sideN m), .ref od, .ref A.sh, .ref hd])), (A.kp, Ob K 1 A.dk [.ref A.lg]), (A.lg, o), (A.sh, Ob K 2 A.dh [.ref A.kp, .int 0, .ref A.th]), (A.th, .lst xs), (hd, .dK (handK h))]
/-- a spare store's orders, words and hand -/
structure SpM where
  ord : List Nat
  W : List Nat
  hnd : List (Nat × Nat)
def spPre (m made : Nat) (rows : List (List Nat)) (s : SpM) : SpM := if made % sideN m = 0 ∧ 0 < made then ⟨orderOf (rows.getD (made / sideN m) []), wordsM (m + sideN m) s.W s.hnd, []⟩ else s
def spPreT (m made : Nat) : List Tch := if made % sideN m = 0 ∧ 0 < made then mendT (m + sideN m) else []
def spItem (m made c : Nat) (s : SpM) : Nat := if (hGet s.hnd c).isSome then m + made % sideN m else c
def spTold (m made c : Nat) (s : SpM) : Nat := (hGet s.hnd c).getD (s.W.getD (spItem m made c s) 0)
def spAsk (m made : Nat) (rows : List (List Nat)) (d : Deed) (s : SpM) : SpM := { spPre m made rows s with hnd := hPut (spPre m made rows s).hnd d.cell (d.put (spTold m made d.cell (spPre m made rows s))) }
def spAskT (m made : Nat) (rows : List (List Nat)) (d : Deed) (s : SpM) : List Tch := spPreT m made ++ [⟨false, 0, (spPre m made rows s).ord.getD (spItem m made d.cell (spPre m made rows s)) 0⟩, ⟨true, 0, (spPre m made rows s).ord.getD (spItem m made d.cell (spPre m made rows s)) 0⟩]
structure SpareInv (K : PySem.W.Frag) (G : Hp) (A : ScanA) (m lim : Nat) (rows : List (List Nat)) (s : SpM) (od : Addr) (o : HO) (xs : List V) (ts : List Tch) : Prop where
  log : LogC K G ts o
  ord : SqL K G od (natsV s.ord)
  ok : OrdOk (m + sideN m) s.ord
  lay : ∃ tr, DpAll K G xs (tr.map triD) ∧ Laid s.ord s.W tr
  hk : HandOk m s.hnd
  drs : DrsG K G A.dr (rows.map Dr.row)
  rl : rows.length = (lim + sideN m - 1) / sideN m
  rk : ∀ row, row ∈ rows → row.length = m + sideN m ∧ RowOk row
  m0 : 1 ≤ m
  m1 : m ≤ 32
def S_law_word (K : PySem.W.Frag) : KSp := sp1 fun x G M R Z => ∃ (p : Addr) (n : Nat) (c s : Int), x = .ref p ∧ M[n]? = some (p, pool c s) ∧ PoolOk s ∧ ∀ (w : Nat) (c' s' : Int), w ≤ 999999999999999999 → PoolOk s' → R (.int w) G (M.set n (p, pool c' s'))
def S_law_ask (K : PySem.W.Frag) : KSp := sp2 fun x y G M R Z => ∃ (p : Addr) (n : Nat) (c s : Int) (m : Nat), x = .ref p ∧ y = .int m ∧ M[n]? = some (p, pool c s) ∧ PoolOk s ∧ 1 ≤ m ∧ m ≤ 32 ∧
  ∀ (t : Addr) (d : Deed) (c' s' : Int) (G' : Hp), Ex G G' → SqT K G' t d.vs → DeedOk m d → PoolOk s' → R (.ref t) G' (M.set n (p, pool c' s'))
def S_law_many (K : PySem.W.Frag) : KSp := sp1 fun x G M R Z => ∃ (p : Addr) (n : Nat) (c s : Int), x = .ref p ∧ M[n]? = some (p, pool c s) ∧ PoolOk s ∧ ∀ (k : Nat) (c' s' : Int), 1 ≤ k → k ≤ 32 → PoolOk s' → R (.int k) G (M.set n (p, pool c' s'))
def rcell (x : Addr × List Nat) : Addr × HO := (x.1, .lst (natsV x.2))
inductive Frs' (G : Hp) (M : Mem) : Mem → Prop
  | nil : Frs' G M []
  | cons {p : Addr} {o : HO} {Mx : Mem} : Fr G (Mx ++ M) p → Frs' G M Mx → Frs' G M ((p, o) :: Mx)
/-! ### stores, seen from without -/
def plainW (m : Nat) (ds : List Deed) : List Nat := ds.foldl (fun ws d => d.upd ws) (List.replicate m 0)
theorem plainW_snoc {m : Nat} {ds : List Deed} {d : Deed} : plainW m (ds ++ [d]) = d.upd (plainW m ds) := by unfold plainW; rw [List.foldl_append]; rfl
def toldW (m : Nat) (ds : List Deed) (d : Deed) : Nat := (plainW m ds).getD d.cell 0
/-- what every law needs to see of a store's cells -/
structure Seen (K : PySem.W.Frag) (w m lim made : Nat) (ts : List Tch) (G : Hp) (a : Addr) (B : Mem) : Prop where
  ex : ∃ (dx dr kp dk lg : Addr) (o : HO) (r : List V), (a, Ob K w dx (StoreF.vs ⟨m, lim, dr, kp, made⟩ ++ r)) ∈ B ∧ (kp, Ob K 1 dk [.ref lg]) ∈ B ∧ (lg, o) ∈ B ∧ LogC K G ts o
/-- a method's call, the object told -/
def mcall (K : PySem.W.Frag) (tab : List (Nat × KSp)) (a : Addr) (ws : List V) (G : Hp) (M : Mem) (R : KR) (E : KX) : Prop := ∃ (k : Nat) (dx : Addr) (vs : List V) (S : KSp), At G M a (Ob K k dx vs) ∧ tab.lookup k = some S ∧ S (.ref a :: ws) G M R E
/-- an ask, of a store of which P is known -/
def faceAsk (K : PySem.W.Frag) (P : Hp → List Deed → Mem → Prop) (m lim : Nat) (y : V) (G : Hp) (M : Mem) (R : KR) (Z : KX) : Prop := ∃ (ds : List Deed) (B F : Mem), M.Perm (F ++ B) ∧ P G ds B ∧
  ((AskV K G M m y false ∧ Z (.ref (cl K "NoAsk")) none G M) ∨ ∃ d : Deed, DeedAt K G y d ∧ DeedOk m d ∧
    ((lim ≤ ds.length ∧ Z (.ref (cl K "Over")) none G M) ∨ (ds.length < lim ∧ ∀ G' B', Ex G G' → P G' (ds ++ [d]) B' → R (.int (toldW m ds d : Nat)) G' (F ++ B'))))

/-! ### a shuffled shelf, seen from without -/
def spGo (m : Nat) (rows : List (List Nat)) : Nat → List Deed → SpM → SpM
  | _, [], s => s
  | i, d :: ds, s => spGo m rows (i + 1) ds (spAsk m i rows d s)
def spGoT (m : Nat) (rows : List (List Nat)) : Nat → List Deed → SpM → List Tch
  | _, [], _ => []
  | i, d :: ds, s => spAskT m i rows d s ++ spGoT m rows (i + 1) ds (spAsk m i rows d s)
def spFirst (m : Nat) (rows : List (List Nat)) : SpM := ⟨if rows = [] then List.range (m + sideN m) else orderOf (rows.headD []), List.replicate (m + sideN m) 0, []⟩
def spS (m : Nat) (rows : List (List Nat)) (ds : List Deed) : SpM := spGo m rows 0 ds (spFirst m rows)
def spTs (m : Nat) (rows : List (List Nat)) (ds : List Deed) : List Tch := spGoT m rows 0 ds (spFirst m rows)
def pk4 (m : Nat) (rows : List (List Nat)) (ds : List Deed) : List Nat := (List.range m).filter fun c => (hGet (spS m rows ds).hnd c).isSome
/-- the cells of a spare store, asked these -/
def St4 (K : PySem.W.Frag) (m lim : Nat) (rows : List (List Nat)) (G : Hp) (ds : List Deed) (a : Addr) (B : Mem) : Prop := ∃ (A : ScanA) (od hd : Addr) (o : HO) (xs : List V), a = A.s ∧ B = spareB K A m lim ds.length od hd o xs (spS m rows ds).hnd ∧ SpareInv K G A m lim rows (spS m rows ds) od o xs (spTs m rows ds) ∧ ds.length ≤ lim ∧ lim ≤ 60 ∧ ∀ d, d ∈ ds → DeedOk m d

/-! ### trees of rooms -/
/-- what is in hand: words and leaves by cells -/
abbrev HF := Nat → Option (Nat × Nat)
def HF.put (f : HF) (c : Nat) (p : Nat × Nat) : HF := fun x => if x = c then some p else f x
/-- what lies in the rooms -/
abbrev Th := List (Option (Nat × Nat × Nat))
def entD : Option (Nat × Nat × Nat) → PyData
  | none => .none
  | some e => .tuple [.int e.1, .int e.2.1, .int e.2.2]
def nodeN (high d leaf : Nat) : Nat := 2 ^ d - 1 + leaf / 2 ^ (high - d)
def fitB (high d node : Nat) (f : HF) (c : Nat) : Bool := match f c with
  | some p => decide (nodeN high d p.2 = node)
  | none => false
def fitsN (m high d node : Nat) (f : HF) : List Nat := ((List.range m).filter (fitB high d node f)).take 2
def lookR (th : Th) (f : HF) (r : Nat) : HF := match th.getD r none with
  | some e => f.put e.1 e.2
  | none => f
def lookW (th : Th) (high leaf : Nat) (f : HF) (k : Nat) : HF := (List.range k).foldl (fun f d => lookR th (lookR th f (2 * nodeN high d leaf)) (2 * nodeN high d leaf + 1)) f
def lookT (num high leaf k : Nat) : List Tch := (List.range k).flatMap fun d => [⟨false, num, 2 * nodeN high d leaf⟩, ⟨false, num, 2 * nodeN high d leaf + 1⟩]
def takeC (f : HF) (cs : List Nat) (s : Nat) : Option (Nat × Nat × Nat) := match cs[s]? with
  | some c => (f c).map fun p => (c, p)
  | none => none
def layD (m high leaf : Nat) (s : Th × HF) (d : Nat) : Th × HF :=
  ((s.1.set (2 * nodeN high d leaf) (takeC s.2 (fitsN m high d (nodeN high d leaf) s.2) 0)).set (2 * nodeN high d leaf + 1) (takeC s.2 (fitsN m high d (nodeN high d leaf) s.2) 1), fun x => if x ∈ fitsN m high d (nodeN high d leaf) s.2 then none else s.2 x)
def layW (m high leaf : Nat) (s : Th × HF) (k : Nat) : Th × HF := (List.range k).foldl (fun s i => layD m high leaf s (high - i)) s
def layT (num high leaf k : Nat) : List Tch := (List.range k).flatMap fun i => [⟨true, num, 2 * nodeN high (high - i) leaf⟩, ⟨true, num, 2 * nodeN high (high - i) leaf + 1⟩]
def wayT (num high leaf : Nat) : List Tch := lookT num high leaf (high + 1) ++ layT num high leaf (high + 1)
structure HandF (K : PySem.W.Frag) (G : Hp) (m : Nat) (hv : List (Key × V)) (f : HF) : Prop where
  nd : (hv.map (·.1)).Nodup
  key : ∀ p, p ∈ hv → ∃ c : Nat, c < m ∧ p.1 = Sum.inl (c : Int)
  non : ∀ c : Nat, f c = none → valV hv (Sum.inl (c : Int)) = none
  val : ∀ (c : Nat) (p : Nat × Nat), f c = some p → ∃ v, valV hv (Sum.inl (c : Int)) = some v ∧ Dp K G v (.tuple [.int p.1, .int p.2])
structure BodyA where
  b : Addr
  db : Addr
  sh : Addr
  dh : Addr
  th : Addr
  fs : Addr
  hd : Addr
def bodyB (K : PySem.W.Frag) (A : BodyA) (kp : Addr) (num high : Nat) (xs : List V) (hv : List (Key × V)) : Mem :=
  [(A.b, Ob K 8 A.db [.ref A.sh, .int high, .ref A.fs, .ref A.hd]), (A.sh, Ob K 2 A.dh [.ref kp, .int num, .ref A.th]), (A.th, .lst xs), (A.hd, .dK hv)]
def keepB (K : PySem.W.Frag) (kp dk lg : Addr) (o : HO) : Mem := [(kp, Ob K 1 dk [.ref lg]), (lg, o)]
structure BodyI (K : PySem.W.Frag) (G : Hp) (A : BodyA) (m high : Nat) (fs : List Nat) (th : Th) (f : HF) (xs : List V) (hv : List (Key × V)) : Prop where
  sf : SqL K G A.fs (natsV fs)
  fl : fs.length = m
  sx : DpAll K G xs (th.map entD)
  sv : HandF K G m hv f
  tl : th.length = 2 * (2 * 2 ^ high - 1)
  tm : ∀ (r : Nat) (e : Nat × Nat × Nat), th[r]? = some (some e) → e.1 < m
  hi : high ≤ 6
  m1 : m ≤ 32
def S_node_at (K : PySem.W.Frag) : KSp := sp3 fun x y z G M R Z => ∃ h d l : Nat, x = .int h ∧ y = .int d ∧ z = .int l ∧ d ≤ h ∧ h ≤ 6 ∧ R (.int (nodeN h d l : Nat)) G M
def S_room_of (K : PySem.W.Frag) : KSp := sp2 fun x y G M R Z => ∃ n s : Nat, x = .int n ∧ y = .int s ∧ R (.int (2 * n + s : Nat)) G M
def S_Body_init (K : PySem.W.Frag) : KSp := sp5 fun x y z u w G M R Z => ∃ (a dx kp b : Addr) (num high m : Nat) (fs : List Nat) (F : Mem), x = .ref a ∧ y = .ref kp ∧ z = .int num ∧ u = .int high ∧ w = .ref b ∧ M = (a, Ob K 8 dx []) :: F ∧ LstN K G M 0 b (natsV fs) ∧ fs.length = m ∧ m ≤ 32 ∧ high ≤ 6 ∧
  ∀ (A : BodyA) (G' : Hp) (xs : List V), A.b = a → Ex G G' → BodyI K G' A m high fs (List.replicate (2 * (2 * 2 ^ high - 1)) none) (fun _ => none) xs [] → R .non G' (bodyB K A kp num high xs [] ++ F)
def S_Body_look_way (K : PySem.W.Frag) : KSp := sp2 fun x y G M R Z => ∃ (A : BodyA) (kp dk lg : Addr) (o : HO) (ts : List Tch) (num m high leaf : Nat) (fs : List Nat) (th : Th) (f : HF) (xs : List V) (hv : List (Key × V)) (F : Mem), x = .ref A.b ∧ y = .int leaf ∧ M.Perm (bodyB K A kp num high xs hv ++ (keepB K kp dk lg o ++ F)) ∧ BodyI K G A m high fs th f xs hv ∧ LogC K G ts o ∧ leaf < 2 ^ high ∧ ts.length ≤ 900000 ∧
  ∀ G' o' hv', Ex G G' → LogC K G' (ts ++ lookT num high leaf (high + 1)) o' → BodyI K G' A m high fs th (lookW th high leaf f (high + 1)) xs hv' → R .non G' (bodyB K A kp num high xs hv' ++ (keepB K kp dk lg o' ++ F))
def S_Body_word_of (K : PySem.W.Frag) : KSp := sp2 fun x y G M R Z => ∃ (A : BodyA) (kp : Addr) (num m high c : Nat) (fs : List Nat) (th : Th) (f : HF) (xs : List V) (hv : List (Key × V)) (F : Mem), x = .ref A.b ∧ y = .int c ∧ M.Perm (bodyB K A kp num high xs hv ++ F) ∧ BodyI K G A m high fs th f xs hv ∧ c < m ∧ R (.int (match f c with | some p => p.1 | none => fs.getD c 0 : Nat)) G M
def S_Body_keep (K : PySem.W.Frag) : KSp := sp4 fun x y z u G M R Z => ∃ (A : BodyA) (kp : Addr) (num m high c w l : Nat) (fs : List Nat) (th : Th) (f : HF) (xs : List V) (hv : List (Key × V)) (F : Mem), x = .ref A.b ∧ y = .int c ∧ z = .int w ∧ u = .int l ∧ M.Perm (bodyB K A kp num high xs hv ++ F) ∧ BodyI K G A m high fs th f xs hv ∧ c < m ∧
  ∀ G' hv', Ex G G' → BodyI K G' A m high fs th (f.put c (w, l)) xs hv' → R .non G' (bodyB K A kp num high xs hv' ++ F)
def S_Body_fitting (K : PySem.W.Frag) : KSp := sp3 fun x y z G M R Z => ∃ (A : BodyA) (kp : Addr) (num m high d node : Nat) (fs : List Nat) (th : Th) (f : HF) (xs : List V) (hv : List (Key × V)) (F : Mem), x = .ref A.b ∧ y = .int d ∧ z = .int node ∧ M = bodyB K A kp num high xs hv ++ F ∧ BodyI K G A m high fs th f xs hv ∧ d ≤ high ∧
  ∀ p, Fr G M p → R (.ref p) G ((p, .lst (natsV (fitsN m high d node f))) :: M)
def S_Body_lay_way (K : PySem.W.Frag) : KSp := sp2 fun x y G M R Z => ∃ (A : BodyA) (kp dk lg : Addr) (o : HO) (ts : List Tch) (num m high leaf : Nat) (fs : List Nat) (th : Th) (f : HF) (xs : List V) (hv : List (Key × V)) (F : Mem), x = .ref A.b ∧ y = .int leaf ∧ M.Perm (bodyB K A kp num high xs hv ++ (keepB K kp dk lg o ++ F)) ∧ BodyI K G A m high fs th f xs hv ∧ LogC K G ts o ∧ leaf < 2 ^ high ∧ ts.length ≤ 900000 ∧
  ∀ G' o' xs' hv', Ex G G' → LogC K G' (ts ++ layT num high leaf (high + 1)) o' → BodyI K G' A m high fs (layW m high leaf (th, f) (high + 1)).1 (layW m high leaf (th, f) (high + 1)).2 xs' hv' → R .non G' (bodyB K A kp num high xs' hv' ++ (keepB K kp dk lg o' ++ F))
def S_Body_cells_in_hand (K : PySem.W.Frag) : KSp := sp1 fun x G M R Z => ∃ (A : BodyA) (kp : Addr) (num m high : Nat) (fs : List Nat) (th : Th) (f : HF) (xs : List V) (hv : List (Key × V)) (F : Mem), x = .ref A.b ∧ M.Perm (bodyB K A kp num high xs hv ++ F) ∧ BodyI K G A m high fs th f xs hv ∧
  ∀ p, Fr G M p → R (.ref p) G ((p, .lst (natsV ((List.range m).filter fun c => (f c).isSome))) :: M)
/-! ### a tree as a store -/
structure TreeA where
  s : Addr
  ds : Addr
  dr : Addr
  kp : Addr
  dk : Addr
  lg : Addr
  tb : Addr
  b : BodyA
def treeB (K : PySem.W.Frag) (A : TreeA) (m lim made high : Nat) (o : HO) (xs : List V) (hv : List (Key × V)) (tb : List Nat) : Mem :=
  bodyB K A.b A.kp 0 high xs hv ++ (keepB K A.kp A.dk A.lg o ++ [(A.s, Ob K 6 A.ds (StoreF.vs ⟨m, lim, A.dr, A.kp, made⟩ ++ [.ref A.b.b, .ref A.tb])), (A.tb, .lst (natsV tb))])
/-- what a tree is: rooms, hand, leaves -/
structure TrM where
  th : Th
  f : HF
  tb : List Nat
def trKeep (m : Nat) (d : Deed) (fresh : Nat) (s : TrM) : HF := (lookW s.th (highN m) (s.tb.getD d.cell 0) s.f (highN m + 1)).put d.cell ((match lookW s.th (highN m) (s.tb.getD d.cell 0) s.f (highN m + 1) d.cell with | some p => d.put p.1 | none => d.put 0), fresh)
def trAsk (m : Nat) (d : Deed) (fresh : Nat) (s : TrM) : TrM :=
  ⟨(layW m (highN m) (s.tb.getD d.cell 0) (s.th, trKeep m d fresh s) (highN m + 1)).1, (layW m (highN m) (s.tb.getD d.cell 0) (s.th, trKeep m d fresh s) (highN m + 1)).2, s.tb.set d.cell fresh⟩
def trAskT (m : Nat) (d : Deed) (s : TrM) : List Tch := wayT 0 (highN m) (s.tb.getD d.cell 0)
structure TreeI (K : PySem.W.Frag) (G : Hp) (A : TreeA) (m lim : Nat) (drs : List Nat) (s : TrM) (o : HO) (xs : List V) (hv : List (Key × V)) (ts : List Tch) : Prop where
  bd : BodyI K G A.b m (highN m) (List.replicate m 0) s.th s.f xs hv
  log : LogC K G ts o
  dr : SqL K G A.dr (natsV drs)
  dl : drs.length = m + lim
  dk : ∀ x, x ∈ drs → x < 2 ^ highN m
  tl : s.tb.length = m
  tk : ∀ x, x ∈ s.tb → x < 2 ^ highN m
  m0 : 1 ≤ m
  m1 : m ≤ 32
/-- a tree, asked these -/
def trGo (m : Nat) (drs : List Nat) : Nat → List Deed → TrM → TrM
  | _, [], s => s
  | i, d :: ds, s => trGo m drs (i + 1) ds (trAsk m d (drs.getD (m + i) 0) s)
def trGoT (m : Nat) (drs : List Nat) : Nat → List Deed → TrM → List Tch
  | _, [], _ => []
  | i, d :: ds, s => trAskT m d s ++ trGoT m drs (i + 1) ds (trAsk m d (drs.getD (m + i) 0) s)
def trFirst (m : Nat) (drs : List Nat) : TrM := ⟨List.replicate (2 * (2 * 2 ^ highN m - 1)) none, fun _ => none, drs.take m⟩
def trS (m : Nat) (drs : List Nat) (ds : List Deed) : TrM := trGo m drs 0 ds (trFirst m drs)
def trTs (m : Nat) (drs : List Nat) (ds : List Deed) : List Tch := trGoT m drs 0 ds (trFirst m drs)
def pk6 (m : Nat) (drs : List Nat) (ds : List Deed) : List Nat := (List.range m).filter fun c => ((trS m drs ds).f c).isSome
def St6 (K : PySem.W.Frag) (m lim : Nat) (drs : List Nat) (G : Hp) (ds : List Deed) (a : Addr) (B : Mem) : Prop := ∃ (A : TreeA) (o : HO) (xs : List V) (hv : List (Key × V)), a = A.s ∧ B = treeB K A m lim ds.length (highN m) o xs hv (trS m drs ds).tb ∧ TreeI K G A m lim drs (trS m drs ds) o xs hv (trTs m drs ds) ∧ ds.length ≤ lim ∧ lim ≤ 60 ∧ ∀ d, d ∈ ds → DeedOk m d

/-! ### the words that a body holds, its first words and the new ones any -/
def bTold (high : Nat) (fs : List Nat) (c : Nat) (s : TrM) : Nat := match lookW s.th high (s.tb.getD c 0) s.f (high + 1) c with
  | some p => p.1
  | none => fs.getD c 0
def bKeep (high : Nat) (fs : List Nat) (c : Nat) (w : Nat → Nat) (fresh : Nat) (s : TrM) : HF := (lookW s.th high (s.tb.getD c 0) s.f (high + 1)).put c (w (bTold high fs c s), fresh)
def bAsk (m high : Nat) (fs : List Nat) (c : Nat) (w : Nat → Nat) (fresh : Nat) (s : TrM) : TrM :=
  ⟨(layW m high (s.tb.getD c 0) (s.th, bKeep high fs c w fresh s) (high + 1)).1, (layW m high (s.tb.getD c 0) (s.th, bKeep high fs c w fresh s) (high + 1)).2, s.tb.set c fresh⟩
structure BI (m : Nat) (fs W : List Nat) (s : TrM) : Prop where
  len : s.th.length = 2 * (2 * 2 ^ highN m - 1)
  wl : W.length = m
  tl : s.tb.length = m
  tk : ∀ x, x ∈ s.tb → x < 2 ^ highN m
  i1 : ∀ (r : Nat) (e : Nat × Nat × Nat), s.th[r]? = some (some e) → e.1 < m ∧ e.2.1 = W.getD e.1 0 ∧ e.2.2 = s.tb.getD e.1 0 ∧ (∃ d, d ≤ highN m ∧ r / 2 = nodeN (highN m) d e.2.2) ∧ s.f e.1 = none ∧ ∀ (r' : Nat) (e' : Nat × Nat × Nat), s.th[r']? = some (some e') → e'.1 = e.1 → r' = r
  i2 : ∀ (c : Nat) (p : Nat × Nat), s.f c = some p → p.1 = W.getD c 0 ∧ p.2 = s.tb.getD c 0 ∧ c < m
  i3 : ∀ c, c < m → s.f c = none → (∀ (r : Nat) (e : Nat × Nat × Nat), s.th[r]? = some (some e) → e.1 ≠ c) → W.getD c 0 = fs.getD c 0

/-! ### leaves packed into words -/
def packN (h : Nat) : List Nat → Nat
  | [] => 0
  | x :: l => x + 2 ^ h * packN h l
def leafIn (w h p : Nat) : Nat := w / 2 ^ (h * p) % 2 ^ h
/-- a word with another leaf at a place -/
def withN (w h p x : Nat) : Nat := ((w : Int) + ((x : Int) - (leafIn w h p : Int)) * 2 ^ (h * p)).toNat
def chunk (l : List Nat) (i : Nat) : List Nat := (l.drop (4 * i)).take 4
def wordsN (h : Nat) (l : List Nat) : List Nat := (List.range ((l.length + 3) / 4)).map fun i => packN h (chunk l i)
def S_packed (K : PySem.W.Frag) : KSp := sp2 fun x y G M R Z => ∃ (a : Addr) (l : List Nat) (h : Nat), x = .ref a ∧ y = .int h ∧ LstAt K G M a (natsV l) ∧ l.length ≤ 4 ∧ h ≤ 6 ∧ (∀ x, x ∈ l → x < 2 ^ h) ∧ R (.int (packN h l)) G M
def S_words_of (K : PySem.W.Frag) : KSp := sp2 fun x y G M R Z => ∃ (a : Addr) (l : List Nat) (h : Nat), x = .ref a ∧ y = .int h ∧ LstAt K G M a (natsV l) ∧ l.length ≤ 32 ∧ h ≤ 6 ∧ (∀ x, x ∈ l → x < 2 ^ h) ∧ ∀ p, Fr G M p → R (.ref p) G ((p, .lst (natsV (wordsN h l))) :: M)
def S_leaf_in (K : PySem.W.Frag) : KSp := sp3 fun x y z G M R Z => ∃ w h p : Nat, x = .int w ∧ y = .int h ∧ z = .int p ∧ h ≤ 6 ∧ p ≤ 3 ∧ R (.int (leafIn w h p)) G M
/-- where the word stays one -/
def S_with_leaf (K : PySem.W.Frag) : KSp := sp4 fun x y z u G M R Z => ∃ w h p l : Nat, x = .int w ∧ y = .int h ∧ z = .int p ∧ u = .int l ∧ h ≤ 6 ∧ p ≤ 3 ∧ l < 64 ∧ (0 : Int) ≤ (w : Int) + ((l : Int) - (leafIn w h p : Int)) * 2 ^ (h * p) ∧ R (.int (withN w h p l)) G M
/-! ### groves: what they are -/
structure GroveA where
  s : Addr
  ds : Addr
  dr : Addr
  kp : Addr
  dk : Addr
  lg : Addr
  hs : Addr
  bs : Addr
  tb : Addr
  b : Nat → BodyA
structure GrV where
  o : HO
  xs : Nat → List V
  hv : Nat → List (Key × V)
abbrev GrM := Nat → TrM
def msN (ms : List Nat) (i : Nat) : Nat := ms.getD i 0
def bodG (K : PySem.W.Frag) (A : GroveA) (ms : List Nat) (v : GrV) (i : Nat) : Mem := bodyB K (A.b i) A.kp i (highN (msN ms i)) (v.xs i) (v.hv i)
def bodsB (K : PySem.W.Frag) (A : GroveA) (ms : List Nat) (v : GrV) : Mem := (List.range ms.length).flatMap (bodG K A ms v)
def groveB (K : PySem.W.Frag) (A : GroveA) (m lim made : Nat) (ms : List Nat) (v : GrV) (tb : List Nat) : Mem :=
  keepB K A.kp A.dk A.lg v.o ++ ((A.s, Ob K 7 A.ds (StoreF.vs ⟨m, lim, A.dr, A.kp, made⟩ ++ [.ref A.hs, .ref A.bs, .int ms.sum, .ref A.tb])) :: (A.tb, .lst (natsV tb)) :: bodsB K A ms v)
def cellI (c i : Nat) : Nat := c / 2 ^ (2 * i)
/-- the draws of an ask -/
def freshN (ms drs : List Nat) (made i : Nat) : Nat := drs.getD (ms.sum + made * ms.length + i) 0
/-- what is written in a tree -/
def newW (ms : List Nat) (d : Deed) (fr : Nat → Nat) (i : Nat) (old : Nat) : Nat := match i with
  | 0 => d.put old
  | j + 1 => withN old (highN (msN ms j)) (cellI d.cell j % 4) (fr j)
def grStep (ms : List Nat) (fs : Nat → List Nat) (d : Deed) (fr : Nat → Nat) (i : Nat) (s : TrM) : TrM := bAsk (msN ms i) (highN (msN ms i)) (fs i) (cellI d.cell i) (newW ms d fr i) (fr i) s
def grAsk (ms : List Nat) (fs : Nat → List Nat) (d : Deed) (fr : Nat → Nat) (s : GrM) : GrM := fun i => grStep ms fs d fr i (s i)
def grWayT (ms : List Nat) (d : Deed) (s : GrM) (i : Nat) : List Tch := wayT i (highN (msN ms i)) ((s i).tb.getD (cellI d.cell i) 0)
def grAskT (ms : List Nat) (d : Deed) (s : GrM) : List Tch := (List.range ms.length).reverse.flatMap (grWayT ms d s)
/-- the words of a tree -/
def wordG (ms : List Nat) (W : List Nat) (s : GrM) (i : Nat) : List Nat := match i with
  | 0 => W
  | j + 1 => wordsN (highN (msN ms j)) (s j).tb
def startG (ms : List Nat) (t : Nat) : Nat := (ms.take t).sum
/-- the draws of a grove -/
structure GrD (ms drs : List Nat) (lim : Nat) : Prop where
  len : drs.length = ms.sum + lim * ms.length
  fst : ∀ i, i < ms.length → ∀ x, x ∈ (drs.drop (startG ms i)).take (msN ms i) → x < 2 ^ highN (msN ms i)
  ask : ∀ i n, i < ms.length → n < lim → freshN ms drs n i < 2 ^ highN (msN ms i)
/-- the trees of a grove: each lesser one a fourth of the one ahead -/
structure MsOk (ms : List Nat) (m : Nat) : Prop where
  l0 : 1 ≤ ms.length
  l3 : ms.length ≤ 3
  hd : msN ms 0 = m
  ok : ∀ i, i < ms.length → 1 ≤ msN ms i ∧ msN ms i ≤ 32
  nx : ∀ i, i + 1 < ms.length → msN ms (i + 1) = (msN ms i + 3) / 4
structure GroveI (K : PySem.W.Frag) (G : Hp) (A : GroveA) (m lim : Nat) (ms drs : List Nat) (fs : Nat → List Nat) (W : List Nat) (s : GrM) (v : GrV) (ts : List Tch) : Prop where
  bd : ∀ i, i < ms.length → BodyI K G (A.b i) (msN ms i) (highN (msN ms i)) (fs i) (s i).th (s i).f (v.xs i) (v.hv i)
  bi : ∀ i, i < ms.length → BI (msN ms i) (fs i) (wordG ms W s i) (s i)
  log : LogC K G ts v.o
  dr : SqL K G A.dr (natsV drs)
  dd : GrD ms drs lim
  hs : SqL K G A.hs (natsV (ms.map highN))
  bs : SqL K G A.bs ((List.range ms.length).map fun i => .ref (A.b i).b)
  mo : MsOk ms m
def S_Grove_fresh (K : PySem.W.Frag) : KSp := sp2 fun x y G M R Z => ∃ (A : GroveA) (m lim made i : Nat) (ms drs : List Nat) (vs : List V), x = .ref A.s ∧ y = .int i ∧ At G M A.s (Ob K 7 A.ds (StoreF.vs ⟨m, lim, A.dr, A.kp, made⟩ ++ [.ref A.hs, .ref A.bs, .int ms.sum, .ref A.tb])) ∧ SqL K G A.dr (natsV drs) ∧ SqL K G A.bs vs ∧ vs.length = ms.length ∧ GrD ms drs lim ∧ i < ms.length ∧ ms.length ≤ 3 ∧ made < lim ∧ lim ≤ 60 ∧ R (.int (freshN ms drs made i)) G M
/-- the part of an ask that one lesser tree takes -/
def S_Grove_passed (K : PySem.W.Frag) : KSp := sp4 fun x y z u G M R Z => ∃ (A : GroveA) (m lim made j : Nat) (ms drs : List Nat) (fs : Nat → List Nat) (W tb : List Nat) (s : GrM) (v : GrV) (ts : List Tch) (d : Deed) (F : Mem), x = .ref A.s ∧ y = .int (j + 1 : Nat) ∧ z = .int d.cell ∧ u = .int ((s (j + 1)).tb.getD (cellI d.cell (j + 1)) 0 : Nat) ∧ M = groveB K A m lim made ms v tb ++ F ∧
  (∀ i, i < ms.length → BodyI K G (A.b i) (msN ms i) (highN (msN ms i)) (fs i) (s i).th (s i).f (v.xs i) (v.hv i)) ∧ BI (msN ms (j + 1)) (fs (j + 1)) (wordsN (highN (msN ms j)) (s j).tb) (s (j + 1)) ∧ (s j).tb.length = msN ms j ∧ (∀ x, x ∈ (s j).tb → x < 2 ^ highN (msN ms j)) ∧
  LogC K G ts v.o ∧ SqL K G A.dr (natsV drs) ∧ GrD ms drs lim ∧ SqL K G A.hs (natsV (ms.map highN)) ∧ SqL K G A.bs ((List.range ms.length).map fun i => .ref (A.b i).b) ∧ MsOk ms m ∧ j + 1 < ms.length ∧ DeedOk m d ∧ made < lim ∧ lim ≤ 60 ∧ ts.length ≤ 500000 ∧
  ∀ G' v', Ex G G' → (∀ i, i < ms.length → BodyI K G' (A.b i) (msN ms i) (highN (msN ms i)) (fs i) (if i = j + 1 then (grStep ms fs d (freshN ms drs made) i (s i)).th else (s i).th) (if i = j + 1 then (grStep ms fs d (freshN ms drs made) i (s i)).f else (s i).f) (v'.xs i) (v'.hv i)) → LogC K G' (ts ++ grWayT ms d s (j + 1)) v'.o → R (.int ((s j).tb.getD (cellI d.cell j) 0 : Nat)) G' (groveB K A m lim made ms v' tb ++ F)
def S_Grove_answered (K : PySem.W.Frag) : KSp := sp3 fun x y z G M R Z => ∃ (A : GroveA) (m lim made : Nat) (ms drs : List Nat) (fs : Nat → List Nat) (W : List Nat) (s : GrM) (v : GrV) (ts : List Tch) (d : Deed) (F : Mem), x = .ref A.s ∧ y = .int d.cell ∧ z = d.word ∧ M = groveB K A m lim made ms v (s (ms.length - 1)).tb ++ F ∧ GroveI K G A m lim ms drs fs W s v ts ∧ DeedOk m d ∧ made < lim ∧ lim ≤ 60 ∧ ts.length ≤ 400000 ∧
  ∀ G' v', Ex G G' → GroveI K G' A m lim ms drs fs (d.upd W) (grAsk ms fs d (freshN ms drs made) s) v' (ts ++ grAskT ms d s) → R (.int (W.getD d.cell 0 : Nat)) G' (groveB K A m lim made ms v' ((grAsk ms fs d (freshN ms drs made) s) (ms.length - 1)).tb ++ F)
/-- the leaves at first, and the first words -/
def tab0 (ms drs : List Nat) (i : Nat) : List Nat := (drs.drop (startG ms i)).take (msN ms i)
def fs0 (ms drs : List Nat) (m : Nat) (i : Nat) : List Nat := match i with
  | 0 => List.replicate m 0
  | j + 1 => wordsN (highN (msN ms j)) (tab0 ms drs j)
def grFirst (ms drs : List Nat) : GrM := fun i => ⟨List.replicate (2 * (2 * 2 ^ highN (msN ms i) - 1)) none, fun _ => none, tab0 ms drs i⟩
def S_Grove_init (K : PySem.W.Frag) : KSp := sp4 fun x y z u G M R Z => ∃ (a dx b : Addr) (m q : Nat) (drs : List Nat) (F : Mem), x = .ref a ∧ M = (a, Ob K 7 dx []) :: F ∧ natOk y m 1 32 ∧ natOk z q 0 60 ∧ u = .ref b ∧ DrAt K G M b (drs.map Dr.leaf) ∧ GrD (treesN m) drs q ∧
  ∀ (A : GroveA) (G' : Hp) (v : GrV), A.s = a → Ex G G' → GroveI K G' A m q (treesN m) drs (fs0 (treesN m) drs m) (List.replicate m 0) (grFirst (treesN m) drs) v [] → R .non G' (groveB K A m q 0 (treesN m) v (tab0 (treesN m) drs ((treesN m).length - 1)) ++ F)
/-- pockets, tree by tree -/
def pocketG (ms : List Nat) (s : GrM) (i : Nat) : List Nat := (List.range (msN ms i)).filter fun c => ((s i).f c).isSome
def S_Grove_pocket (K : PySem.W.Frag) : KSp := sp1 fun x G M R Z => ∃ (A : GroveA) (m lim made : Nat) (ms drs : List Nat) (fs : Nat → List Nat) (W : List Nat) (s : GrM) (v : GrV) (ts : List Tch) (F : Mem), x = .ref A.s ∧ M.Perm (F ++ groveB K A m lim made ms v (s (ms.length - 1)).tb) ∧ GroveI K G A m lim ms drs fs W s v ts ∧
  ∀ (p : Addr) (rs : List (Addr × List Nat)), rs.map (·.2) = (List.range ms.length).map (pocketG ms s) → Frs' G M (rs.reverse.map rcell) → Fr G (rs.reverse.map rcell ++ M) p → R (.ref p) G ((p, .lst (rs.map fun x => .ref x.1)) :: (rs.reverse.map rcell ++ M))

/-! ### dicts whose keys are numbers: what they hold, as a function -/
structure DicF {α : Type} (P : V → α → Prop) (n : Nat) (hv : List (Key × V)) (f : Nat → Option α) : Prop where
  nd : (hv.map (·.1)).Nodup
  key : ∀ p, p ∈ hv → ∃ c : Nat, c < n ∧ p.1 = Sum.inl (c : Int)
  non : ∀ c : Nat, f c = none → valV hv (Sum.inl (c : Int)) = none
  val : ∀ (c : Nat) (a : α), f c = some a → ∃ v, valV hv (Sum.inl (c : Int)) = some v ∧ P v a
def putF {α : Type} (f : Nat → Option α) (c : Nat) (a : α) : Nat → Option α := fun x => if x = c then some a else f x
def dropF {α : Type} (f : Nat → Option α) (c : Nat) : Nat → Option α := fun x => if x = c then none else f x
def intP (v : V) (a : Nat) : Prop := v = .int a
def trueP (v : V) (_ : Unit) : Prop := v = .bl true
def pairP (K : PySem.W.Frag) (G : Hp) (v : V) (p : Nat × Nat) : Prop := Dp K G v (.tuple [.int p.1, .int p.2])
def ordP (K : PySem.W.Frag) (G : Hp) (v : V) (o : List Nat) : Prop := ∃ a, v = .ref a ∧ SqL K G a (natsV o)

/-! ### climbs: what they are -/
structure ClM where
  fu : Nat → Option Nat
  dr : Nat → Option Nat
  ho : Nat → Option (Nat × Nat)
  he : Nat → Option Unit
def clFirst (m : Nat) : ClM := ⟨putF (fun _ => none) (lastN m) 0, putF (fun _ => none) (lastN m) 0, fun c => if c < m then some (lastN m, c) else none, fun _ => none⟩
def takenN (m p : Nat) (s : ClM) : List Nat := ((List.range (stairN m p)).filter fun st => (s.fu st).isSome) ++ if stairN m p = lastN m then [stairN m p] else []
def inT (m p : Nat) (s : ClM) (c : Nat) : Bool := match s.ho c with
  | some q => decide (q.1 ∈ takenN m p s)
  | none => false
def pouredN (m p : Nat) (s : ClM) : List Nat := (List.range m).filter fun c => (s.he c).isSome || inT m p s c
def clFill (m p n : Nat) (s : ClM) : ClM := ⟨fun st => if st = stairN m p then some n else if st ∈ takenN m p s then none else s.fu st, putF s.dr (stairN m p) p,
  fun c => if c ∈ pouredN m p s then some (stairN m p, (pouredN m p s).idxOf c) else s.ho c, fun _ => none⟩
def slotC (m c n st k : Nat) (s : ClM) : Nat := match s.ho c with
  | some q => if q.1 = st then q.2 else slotA m st + n - k
  | none => slotA m st + n - k
def slotsN (m c n : Nat) (s : ClM) : List (Nat × Nat) := (List.range (lastN m + 1)).filterMap fun st => (s.fu st).map fun k => (st, slotC m c n st k s)
def clTake (c : Nat) (s : ClM) : ClM := ⟨s.fu, s.dr, dropF s.ho c, putF s.he c ()⟩
structure ClimbA where
  c : Addr
  dc : Addr
  fu : Addr
  dr : Addr
  ho : Addr
  he : Addr
def climbB (K : PySem.W.Frag) (A : ClimbA) (m : Nat) (fv dv hov hev : List (Key × V)) : Mem :=
  [(A.c, Ob K 9 A.dc [.int m, .int (lastN m), .ref A.fu, .ref A.dr, .ref A.ho, .ref A.he]), (A.fu, .dK fv), (A.dr, .dK dv), (A.ho, .dK hov), (A.he, .dK hev)]
structure ClimbI (K : PySem.W.Frag) (G : Hp) (m : Nat) (s : ClM) (fv dv hov hev : List (Key × V)) : Prop where
  fu : DicF intP 5 fv s.fu
  dr : DicF intP 5 dv s.dr
  ho : DicF (pairP K G) m hov s.ho
  he : DicF trueP m hev s.he
  m0 : 1 ≤ m
  m1 : m ≤ 32
/-! ### stairs: what they are -/
def roomsN (m st : Nat) : Nat := slotA m st + 2 * 2 ^ st
def optV : Option Nat → V
  | some w => .int w
  | none => .non
structure StairsA where
  s : Addr
  ds : Addr
  dr : Addr
  kp : Addr
  dk : Addr
  lg : Addr
  hd : Addr
  shs : Addr
  ods : Addr
  cl : ClimbA
  sh : Nat → Addr
  dsh : Nat → Addr
  th : Nat → Addr
abbrev Ths := Nat → List (Option Nat)
def shsB (K : PySem.W.Frag) (A : StairsA) (th : Ths) : Nat → Nat → Mem
  | _, 0 => []
  | i, k + 1 => (A.sh i, Ob K 2 (A.dsh i) [.ref A.kp, .int i, .ref (A.th i)]) :: (A.th i, .lst ((th i).map optV)) :: shsB K A th (i + 1) k
structure StV where
  fv : List (Key × V)
  dv : List (Key × V)
  hov : List (Key × V)
  hev : List (Key × V)
  hnv : List (Key × V)
  odv : List (Key × V)
  o : HO
  th : Ths
def headB (K : PySem.W.Frag) (A : StairsA) (m lim made : Nat) (v : StV) : Mem :=
  climbB K A.cl m v.fv v.dv v.hov v.hev ++ (keepB K A.kp A.dk A.lg v.o ++ [(A.s, Ob K 5 A.ds (StoreF.vs ⟨m, lim, A.dr, A.kp, made⟩ ++ [.ref A.cl.c, .ref A.hd, .ref A.shs, .ref A.ods])), (A.hd, .dK v.hnv), (A.shs, .lst ((List.range (lastN m + 1)).map fun i => .ref (A.sh i))), (A.ods, .dK v.odv)])
def stairsB (K : PySem.W.Frag) (A : StairsA) (m lim made : Nat) (v : StV) : Mem := headB K A m lim made v ++ shsB K A v.th 0 (lastN m + 1)
def ordN (rows : List (List Nat)) (s : ClM) (st : Nat) : List Nat := orderOf (rows.getD ((s.dr st).getD 0) [])
/-- the draws' sizes -/
structure RowsK (m lim : Nat) (rows : List (List Nat)) : Prop where
  len : rows.length = (lim + 1) / 2
  ok : ∀ (i : Nat) (row : List Nat), rows[i]? = some row → RowOk row ∧ row.length = roomsN m (if i = 0 then lastN m else stairN m i)
structure StairsI (K : PySem.W.Frag) (G : Hp) (A : StairsA) (m lim : Nat) (rows : List (List Nat)) (s : ClM) (hf : Nat → Option Nat) (W : Nat → Nat) (v : StV) (ts : List Tch) : Prop where
  ci : ClimbI K G m s v.fv v.dv v.hov v.hev
  hd : DicF intP m v.hnv hf
  od : DicF (ordP K G) 5 v.odv (fun st => if lim = 0 then none else (s.dr st).map fun p => orderOf (rows.getD p []))
  wd : 0 < lim → ∀ c st sl, s.ho c = some (st, sl) → (v.th st)[(ordN rows s st).getD sl 0]? = some (some (W c))
  tl : ∀ st, st ≤ lastN m → (v.th st).length = roomsN m st
  log : LogC K G ts v.o
  dr : DrsG K G A.dr (rows.map Dr.row)
  rk : RowsK m lim rows
def fullN (L q st : Nat) : Option Nat := if st < L then (if (q / 2 ^ st) % 2 = 1 then some (2 * (q / 2 ^ st * 2 ^ st)) else none) else if st = L then some (2 * (q / 2 ^ L * 2 ^ L)) else none
/-- a climb behind q pours, with at most h cells in hand -/
structure ClMI (m q h : Nat) (s : ClM) : Prop where
  fu : ∀ st, s.fu st = fullN (lastN m) q st
  dr : ∀ st k, s.fu st = some k → s.dr st = some (k / 2)
  dk : ∀ st p, s.dr st = some p → p ≤ q ∧ st = (if p = 0 then lastN m else stairN m p)
  ho : ∀ c st sl, s.ho c = some (st, sl) → c < m ∧ (s.fu st).isSome ∧ sl < slotA m st ∧ s.he c = none
  he : ∀ c, c < m → s.ho c = none → (s.he c).isSome
  hl : ∀ c, (s.he c).isSome → c < m
  inj : ∀ c c' x, s.ho c = some x → s.ho c' = some x → c = c'
  hn : ((List.range m).filter fun c => (s.he c).isSome).length ≤ h
def handF (s : ClM) (W : Nat → Nat) : Nat → Option Nat := fun c => if (s.he c).isSome then some (W c) else none
def allT (b : Bool) (m st : Nat) : List Tch := (List.range (roomsN m st)).map fun r => ⟨b, st, r⟩
def pourT (m p : Nat) (s : ClM) : List Tch := ((takenN m p s).flatMap fun st => allT false m st) ++ allT true m (stairN m p)
def clPre (m n : Nat) (s : ClM) : ClM := if 0 < n ∧ n % 2 = 0 then clFill m (n / 2) n s else s
def clAsk (m n c : Nat) (s : ClM) : ClM := clTake c (clPre m n s)
def askT (m n c : Nat) (rows : List (List Nat)) (s : ClM) : List Tch := (slotsN m c n s).flatMap fun q => [⟨false, q.1, (ordN rows s q.1).getD q.2 0⟩, ⟨true, q.1, (ordN rows s q.1).getD q.2 0⟩]
def srAskT (m n c : Nat) (rows : List (List Nat)) (s : ClM) : List Tch := (if 0 < n ∧ n % 2 = 0 then pourT m (n / 2) s else []) ++ askT m n c rows (clPre m n s)
/-! ### stairs, seen from without -/
def clGo (m : Nat) : Nat → List Deed → ClM → ClM
  | _, [], s => s
  | i, d :: ds, s => clGo m (i + 1) ds (clAsk m i d.cell s)
def srGoT (m : Nat) (rows : List (List Nat)) : Nat → List Deed → ClM → List Tch
  | _, [], _ => []
  | i, d :: ds, s => srAskT m i d.cell rows s ++ srGoT m rows (i + 1) ds (clAsk m i d.cell s)
def clS (m : Nat) (ds : List Deed) : ClM := clGo m 0 ds (clFirst m)
def srTs (m : Nat) (rows : List (List Nat)) (ds : List Deed) : List Tch := srGoT m rows 0 ds (clFirst m)
def wordF (m : Nat) (ds : List Deed) : Nat → Nat := fun c => (plainW m ds).getD c 0
def pk5 (m : Nat) (_rows : List (List Nat)) (ds : List Deed) : List Nat := (List.range m).filter fun c => ((clS m ds).he c).isSome
def St5 (K : PySem.W.Frag) (m lim : Nat) (rows : List (List Nat)) (G : Hp) (ds : List Deed) (a : Addr) (B : Mem) : Prop := ∃ (A : StairsA) (v : StV), a = A.s ∧ B = stairsB K A m lim ds.length v ∧ StairsI K G A m lim rows (clS m ds) (handF (clS m ds) (wordF m ds)) (wordF m ds) v (srTs m rows ds) ∧ 1 ≤ m ∧ m ≤ 32 ∧ ds.length ≤ lim ∧ lim ≤ 60 ∧ ∀ d, d ∈ ds → DeedOk m d

/-! ### all five ways, seen from without -/
inductive Wy | scan | spare | stairs | tree | grove
  deriving DecidableEq
def Wy.str : Wy → Str
  | .scan => "scan" | .spare => "spare" | .stairs => "stairs" | .tree => "tree" | .grove => "grove"
def Wy.num : Wy → Nat
  | .scan => 3 | .spare => 4 | .stairs => 5 | .tree => 6 | .grove => 7
def rowsOf (ds : List Dr) : List (List Nat) := ds.map fun d => match d with
  | .row l => l
  | .leaf _ => []
def leafsOf (ds : List Dr) : List Nat := ds.map fun d => match d with
  | .row _ => 0
  | .leaf n => n
def scTs (m n : Nat) : List Tch := (List.replicate n (scanT m)).flatten
def St3 (K : PySem.W.Frag) (m lim : Nat) (G : Hp) (ds : List Deed) (a : Addr) (B : Mem) : Prop := ∃ (A : ScanA) (o : HO), a = A.s ∧ B = scanB K A m lim ds.length o (plainW m ds) ∧ LogC K G (scTs m ds.length) o ∧ 1 ≤ m ∧ m ≤ 32 ∧ ds.length ≤ lim ∧ lim ≤ 60 ∧ ∀ d, d ∈ ds → DeedOk m d
/-- a grove, asked these -/
def grGo (m : Nat) (drs : List Nat) : Nat → List Deed → GrM → GrM
  | _, [], s => s
  | i, d :: ds, s => grGo m drs (i + 1) ds (grAsk (treesN m) (fs0 (treesN m) drs m) d (freshN (treesN m) drs i) s)
def grGoT (m : Nat) (drs : List Nat) : Nat → List Deed → GrM → List Tch
  | _, [], _ => []
  | i, d :: ds, s => grAskT (treesN m) d s ++ grGoT m drs (i + 1) ds (grAsk (treesN m) (fs0 (treesN m) drs m) d (freshN (treesN m) drs i) s)
def grS (m : Nat) (drs : List Nat) (ds : List Deed) : GrM := grGo m drs 0 ds (grFirst (treesN m) drs)
def grTs (m : Nat) (drs : List Nat) (ds : List Deed) : List Tch := grGoT m drs 0 ds (grFirst (treesN m) drs)
def St7 (K : PySem.W.Frag) (m lim : Nat) (drs : List Nat) (G : Hp) (ds : List Deed) (a : Addr) (B : Mem) : Prop := ∃ (A : GroveA) (v : GrV), a = A.s ∧ B = groveB K A m lim ds.length (treesN m) v (grS m drs ds ((treesN m).length - 1)).tb ∧ GroveI K G A m lim (treesN m) drs (fs0 (treesN m) drs m) (plainW m ds) (grS m drs ds) v (grTs m drs ds) ∧ ds.length ≤ lim ∧ lim ≤ 60 ∧ ∀ d, d ∈ ds → DeedOk m d
def StA (K : PySem.W.Frag) (w : Wy) (m lim : Nat) (drs : List Dr) (G : Hp) (ds : List Deed) (a : Addr) (B : Mem) : Prop := match w with
  | .scan => St3 K m lim G ds a B
  | .spare => St4 K m lim (rowsOf drs) G ds a B
  | .stairs => St5 K m lim (rowsOf drs) G ds a B
  | .tree => St6 K m lim (leafsOf drs) G ds a B
  | .grove => St7 K m lim (leafsOf drs) G ds a B
def tchA (w : Wy) (m : Nat) (drs : List Dr) (ds : List Deed) : List Tch := match w with
  | .scan => scTs m ds.length
  | .spare => spTs m (rowsOf drs) ds
  | .stairs => srTs m (rowsOf drs) ds
  | .tree => trTs m (leafsOf drs) ds
  | .grove => grTs m (leafsOf drs) ds
/-! ### many stores at once -/
structure SD where
  w : Wy
  m : Nat
  drs : List Dr
  ds : List Deed
/-- the pocket, whatever the way -/
def pkA (w : Wy) (m : Nat) (drs : List Dr) (ds : List Deed) : List Dr := match w with
  | .scan => []
  | .spare => (pk4 m (rowsOf drs) ds).map Dr.leaf
  | .stairs => (pk5 m (rowsOf drs) ds).map Dr.leaf
  | .tree => (pk6 m (leafsOf drs) ds).map Dr.leaf
  | .grove => ((List.range (treesN m).length).map (pocketG (treesN m) (grS m (leafsOf drs) ds))).map Dr.row
def StsA (K : PySem.W.Frag) (lim : Nat) (G : Hp) (dt : List SD) (la : List (Addr × Mem)) : Prop := A2 (fun (d : SD) (x : Addr × Mem) => StA K d.w d.m lim d.drs G d.ds x.1 x.2) dt la
def nodesN (high leaf : Nat) : List Nat := (List.range (high + 1)).map fun d => nodeN high d leaf
def S_law_nodes (K : PySem.W.Frag) : KSp := sp2 fun x y G M R Z => ∃ high leaf : Nat, x = .int high ∧ y = .int leaf ∧ high ≤ 6 ∧ leaf < 2 ^ high ∧ ∀ p, Fr G M p → R (.ref p) G ((p, .lst (natsV (nodesN high leaf))) :: M)

/-! ### the law's own model of a tree: where cells lie -/
abbrev LF := Nat → Option (Option Nat)
def lieV : Option Nat → V
  | none => .non
  | some n => .int n
structure LieK (m : Nat) (hv : List (Key × V)) (L : LF) : Prop where
  nd : (hv.map (·.1)).Nodup
  key : ∀ p, p ∈ hv → ∃ c : Nat, c < m ∧ p.1 = Sum.inl (c : Int)
  val : ∀ c : Nat, valV hv (Sum.inl (c : Int)) = (L c).map lieV
def mdK (high : Nat) (lv ls : Addr) : List (Key × V) := [(Sum.inr "high", .int high), (Sum.inr "leaves", .ref lv), (Sum.inr "lies", .ref ls)]
def inHand (L : LF) (c : Nat) : Bool := decide (L c = some none)
def putL (L : LF) (c : Nat) (v : Option Nat) : LF := fun x => if x = c then some v else L x
def clearL (way : List Nat) (L : LF) : LF := fun c => match L c with
  | some (some n) => if n ∈ way then some none else some (some n)
  | o => o
def handL (m : Nat) (L : LF) : List Nat := (List.range m).filter (inHand L)
def fitL (high : Nat) (tb : List Nat) (node c : Nat) : Bool := decide (node ∈ nodesN high (tb.getD c 0))
def pickL (m high : Nat) (tb : List Nat) (node : Nat) (L : LF) : List Nat := ((handL m L).filter (fitL high tb node)).take 2
def stepL (m high : Nat) (tb : List Nat) (L : LF) (node : Nat) : LF := fun c => if c ∈ pickL m high tb node L then some (some node) else L c
def goL (m high : Nat) (tb : List Nat) (cell fresh : Nat) (L : LF) : LF := (nodesN high (tb.getD cell 0)).reverse.foldl (stepL m high (tb.set cell fresh)) (putL (clearL (nodesN high (tb.getD cell 0)) L) cell none)
def S_law_go (K : PySem.W.Frag) : KSp := sp3 fun x y z G M R Z => ∃ (md lv ls : Addr) (m high cell fresh : Nat) (tb : List Nat) (hv : List (Key × V)) (L : LF) (F : Mem), x = .ref md ∧ y = .int cell ∧ z = .int fresh ∧ M = (lv, .lst (natsV tb)) :: (ls, .dK hv) :: F ∧ G md = some (.dK (mdK high lv ls)) ∧ LieK m hv L ∧ tb.length = m ∧ m ≤ 32 ∧ high ≤ 6 ∧ (∀ x, x ∈ tb → x < 2 ^ high) ∧ fresh < 2 ^ high ∧ cell < m ∧
  ∀ hv', LieK m hv' (goL m high tb cell fresh L) → R .non G ((lv, .lst (natsV (tb.set cell fresh))) :: (ls, .dK hv') :: F)
def S_law_hand (K : PySem.W.Frag) : KSp := sp1 fun x G M R Z => ∃ (md lv ls : Addr) (m high n : Nat) (hv : List (Key × V)) (L : LF), x = .ref md ∧ M[n]? = some (ls, .dK hv) ∧ G md = some (.dK (mdK high lv ls)) ∧ LieK m hv L ∧ m ≤ 32 ∧ ∀ p, Fr G M p → R (.ref p) G ((p, .lst (natsV (handL m L))) :: M)
/-- a tree and its model -/
structure LRs (m : Nat) (s : TrM) (L : LF) : Prop where
  out : ∀ c, m ≤ c → L c = none
  hnd : ∀ c, L c = some none ↔ (s.f c).isSome = true
  lie : ∀ c n, L c = some (some n) ↔ ∃ (r : Nat) (e : Nat × Nat × Nat), s.th[r]? = some (some e) ∧ e.1 = c ∧ r / 2 = n

/-- where only groves are linked -/
def S_Store_ask (K : PySem.W.Frag) : KSp := sp2 fun x y G M R Z => ∃ (m lim : Nat) (drs : List Dr) (a : Addr), x = .ref a ∧ faceAsk K (fun G ds B => StA K .grove m lim drs G ds a B) m lim y G M R Z
def S_law_whole (K : PySem.W.Frag) : KSp := sp1 fun x G M R Z => ∃ T : PT, TyK K G M x T ∧ R (.bl (T == .int)) G M
def S_law_touches (K : PySem.W.Frag) : KSp := sp3 fun z x y G M R Z => ∃ sh high leaf : Nat, z = .int sh ∧ x = .int high ∧ y = .int leaf ∧ high ≤ 6 ∧ leaf < 2 ^ high ∧ ∀ (p : Addr) (vs : List V) (G' : Hp), Ex G G' → DpAll K G' vs ((wayT sh high leaf).map tchD) → R (.ref p) G' ((p, .lst vs) :: M)
/-! the law's own models of trees -/
structure ModA where
  md : Addr
  lv : Addr
  ls : Addr
def modC (A : Nat → ModA) (tb : Nat → List Nat) (hv : Nat → List (Key × V)) (i : Nat) : Mem := [((A i).lv, .lst (natsV (tb i))), ((A i).ls, .dK (hv i))]
def modsM (A : Nat → ModA) (tb : Nat → List Nat) (hv : Nat → List (Key × V)) (n : Nat) : Mem := (List.range n).flatMap (modC A tb hv)
structure ModsG (K : PySem.W.Frag) (G : Hp) (A : Nat → ModA) (ms : List Nat) (mo : Addr) : Prop where
  l : SqL K G mo ((List.range ms.length).map fun i => .ref (A i).md)
  d : ∀ i, i < ms.length → G (A i).md = some (.dK (mdK (highN (msN ms i)) (A i).lv (A i).ls))
def TbOk (ms : List Nat) (tb : Nat → List Nat) : Prop := ∀ i, i < ms.length → (tb i).length = msN ms i ∧ ∀ x, x ∈ tb i → x < 2 ^ highN (msN ms i)
def S_law_models (K : PySem.W.Frag) : KSp := sp3 fun x y z G M R Z => ∃ (p : Addr) (c s : Int) (m w : Nat) (F : Mem), x = .ref p ∧ y = .int m ∧ z = .int w ∧ M = (p, pool c s) :: F ∧ PoolOk s ∧ 1 ≤ m ∧ m ≤ 32 ∧ 1 ≤ w ∧ w ≤ 64 ∧
  ∀ (mo : Addr) (A : Nat → ModA) (tb : Nat → List Nat) (c' s' : Int) (G' : Hp), Ex G G' → PoolOk s' → ModsG K G' A (treesN m) mo → TbOk (treesN m) tb → R (.ref mo) G' (modsM A tb (fun _ => []) (treesN m).length ++ ((p, pool c' s') :: F))
def S_law_refused (K : PySem.W.Frag) : KSp := sp3 fun x y z G M R Z => ∃ (p : Addr) (c s : Int) (m lim : Nat) (drs : List Dr) (ds : List Deed) (a : Addr) (B F M1 : Mem), x = .ref p ∧ y = .ref a ∧ z = .int m ∧ M = (p, pool c s) :: M1 ∧ M1.Perm (F ++ B) ∧ PoolOk s ∧ StA K .grove m lim drs G ds a B ∧
  ∀ (c' s' : Int) (G' : Hp), Ex G G' → R (.bl true) G' ((p, pool c' s') :: M1)
def S_law_pockets_right (K : PySem.W.Frag) : KSp := sp2 fun x y G M R Z => ∃ (m lim : Nat) (drs : List Dr) (ds : List Deed) (a mo : Addr) (A : Nat → ModA) (hv : Nat → List (Key × V)) (L : Nat → LF) (B F : Mem), x = .ref a ∧ y = .ref mo ∧ M.Perm (F ++ B) ∧ StA K .grove m lim drs G ds a B ∧ ModsG K G A (treesN m) mo ∧
  (∀ i, i < (treesN m).length → ((A i).ls, HO.dK (hv i)) ∈ M ∧ LieK (msN (treesN m) i) (hv i) (L i) ∧ LRs (msN (treesN m) i) (grS m (leafsOf drs) ds i) (L i)) ∧ ∀ G', Ex G G' → R (.bl true) G' M
/-! readings of the defs, printed by gen.py -/
def tab_tr_TouchError : List (Str × Bool) := [("NoRoom", true), ("NoAsk", true), ("NoSize", true), ("Over", true)]
def tab_is_NoAsk : List (Str × Bool) := [("NoRoom", false), ("NoAsk", true), ("NoSize", false), ("Over", false)]
def con_SIDES : List V := [.int 0, .int 1]
def tabF_bodies : List (Nat × Nat) := [(7, 6)]
def tabF_cells : List (Nat × Nat) := [(7, 0)]
def tabF_draws : List (Nat × Nat) := [(7, 2)]
def tabF_firsts : List (Nat × Nat) := [(8, 2)]
def tabF_hand : List (Nat × Nat) := [(8, 3)]
def tabF_high : List (Nat × Nat) := [(8, 1)]
def tabF_highs : List (Nat × Nat) := [(7, 5)]
def tabF_keeper : List (Nat × Nat) := [(2, 0), (7, 3)]
def tabF_limit : List (Nat × Nat) := [(7, 1)]
def tabF_log : List (Nat × Nat) := [(1, 0)]
def tabF_made : List (Nat × Nat) := [(7, 4)]
def tabF_number : List (Nat × Nat) := [(2, 1)]
def tabF_shelf : List (Nat × Nat) := [(8, 0)]
def tabF_start : List (Nat × Nat) := [(7, 7)]
def tabF_table : List (Nat × Nat) := [(7, 8)]
def tabF_things : List (Nat × Nat) := [(2, 2)]
def tabM_answered (K : PySem.W.Frag) : List (Nat × KSp) := [(7, S_Grove_answered K)]
def tabM_ask (K : PySem.W.Frag) : List (Nat × KSp) := [(7, S_Store_ask K)]
def tabM_cells_in_hand (K : PySem.W.Frag) : List (Nat × KSp) := [(8, S_Body_cells_in_hand K)]
def tabM_fitting (K : PySem.W.Frag) : List (Nat × KSp) := [(8, S_Body_fitting K)]
def tabM_fresh (K : PySem.W.Frag) : List (Nat × KSp) := [(7, S_Grove_fresh K)]
def tabM_keep (K : PySem.W.Frag) : List (Nat × KSp) := [(8, S_Body_keep K)]
def tabM_lay (K : PySem.W.Frag) : List (Nat × KSp) := [(2, S_Shelf_lay K)]
def tabM_lay_way (K : PySem.W.Frag) : List (Nat × KSp) := [(8, S_Body_lay_way K)]
def tabM_left (K : PySem.W.Frag) : List (Nat × KSp) := [(7, S_Store_left K)]
def tabM_look (K : PySem.W.Frag) : List (Nat × KSp) := [(2, S_Shelf_look K)]
def tabM_look_way (K : PySem.W.Frag) : List (Nat × KSp) := [(8, S_Body_look_way K)]
def tabM_need_room (K : PySem.W.Frag) : List (Nat × KSp) := [(2, S_Shelf_need_room K)]
def tabM_passed (K : PySem.W.Frag) : List (Nat × KSp) := [(7, S_Grove_passed K)]
def tabM_pocket (K : PySem.W.Frag) : List (Nat × KSp) := [(7, S_Grove_pocket K)]
def tabM_seen (K : PySem.W.Frag) : List (Nat × KSp) := [(1, S_Keeper_seen K)]
def tabM_sees (K : PySem.W.Frag) : List (Nat × KSp) := [(1, S_Keeper_sees K)]
def tabM_touches (K : PySem.W.Frag) : List (Nat × KSp) := [(7, S_Store_touches K)]
def tabM_word_of (K : PySem.W.Frag) : List (Nat × KSp) := [(8, S_Body_word_of K)]
/-- law_pool(_law_script, _law_k); slots 0 _law_script, 1 _law_k, 2 _law_cell, 3 _law_seed -/
def rd_law_pool_4 (K : PySem.W.Frag) : KS :=
  kSeq (kRet (kLst (kCons (kVar 2) (kCons (kVar 3) (kNil))))) (kNext)
def rd_law_pool_3 (K : PySem.W.Frag) : KS :=
  kSeq (kIf (kT (kBin (kI0 fun i j => .bl (decide (i < j))) (kVar 2) (kBin (kI CPow fun i j => .int (i ^ j.toNat)) (kC (.int 10)) (kC (.int 18))))) (kSeq (kSet 2 (kC (.int 0))) (kNext)) (kNext)) (rd_law_pool_4 K)
def rd_law_pool_2 (K : PySem.W.Frag) : KS :=
  kSeq (kSet 3 (kBin (kI (fun _ j => 0 < j) fun i j => .int (i % j)) (kBin (kMul) (kBin (kAdd) (kBin (kAdd) (kBin (kI (fun _ j => 0 < j) fun i j => .int (i % j)) (kVar 2) (kC (.int 1000000007))) (kBin (kMul) (kBin (kMul) (kC (.int 15485863)) (kVar 1)) (kVar 1))) (kC (.int 3))) (kC (.int 39373))) (kC (.int 2147483647)))) (rd_law_pool_3 K)
def rd_law_pool_1 (K : PySem.W.Frag) : KS :=
  kSeq (kIf (kT (kBin (kI0 fun i j => .bl (decide (i < j))) (kVar 1) (kCB (kLen K) (kCons (kVar 0) (kNil))))) (kSeq (kSet 2 (kBin (kIx K) (kVar 0) (kVar 1))) (kNext)) (kNext)) (rd_law_pool_2 K)
def rd_law_pool (K : PySem.W.Frag) : KS :=
  kSeq (kSet 2 (kC (.int 0))) (rd_law_pool_1 K)
/-- law_take(_law_pool_here, _law_many_here); slots 0 _law_pool_here, 1 _law_many_here, 2 _law_found -/
def rd_law_take_2 (K : PySem.W.Frag) : KS :=
  kSeq (kRet (kBin (kI (fun _ j => 0 < j) fun i j => .int (i % j)) (kBin (kI CDivW fun i j => .int (i / j)) (kBin (kI (fun _ j => 0 < j) fun i j => .int (i % j)) (kBin (kMul) (kBin (kIx K) (kVar 0) (kC (.int 1))) (kBin (kIx K) (kVar 0) (kC (.int 1)))) (kC (.int 2147483629))) (kC (.int 64))) (kVar 1))) (kNext)
def rd_law_take_1 (K : PySem.W.Frag) : KS :=
  kSeq (kAsg (kBin (kI (fun _ j => 0 < j) fun i j => .int (i % j)) (kBin (kAdd) (kBin (kMul) (kBin (kIx K) (kVar 0) (kC (.int 1))) (kC (.int 48271))) (kC (.int 11))) (kC (.int 2147483647))) (kgIx (kVar 0) (kC (.int 1)))) (rd_law_take_2 K)
def rd_law_take (K : PySem.W.Frag) : KS :=
  kSeq (kIf (kT (kBin (kI0 fun i j => .bl (decide (j < i))) (kBin (kIx K) (kVar 0) (kC (.int 0))) (kC (.int 0)))) (kSeq (kSet 2 (kBin (kI (fun _ j => 0 < j) fun i j => .int (i % j)) (kBin (kIx K) (kVar 0) (kC (.int 0))) (kVar 1))) (kSeq (kAsg (kBin (kI CDivW fun i j => .int (i / j)) (kBin (kIx K) (kVar 0) (kC (.int 0))) (kVar 1)) (kgIx (kVar 0) (kC (.int 0)))) (kSeq (kRet (kVar 2)) (kNext)))) (kNext)) (rd_law_take_1 K)
/-- law_many(_law_pool_here); slots 0 _law_pool_here -/
def rd_law_many (K : PySem.W.Frag) : KS :=
  kSeq (kRet (kBin (kAdd) (kC (.int 1)) (kCall (S_law_take K) (kCons (kVar 0) (kCons (kBin (kIx K) (kLst (kCons (kC (.int 4)) (kCons (kC (.int 9)) (kCons (kC (.int 32)) (kNil))))) (kCall (S_law_take K) (kCons (kVar 0) (kCons (kC (.int 3)) (kNil))))) (kNil)))))) (kNext)
/-- law_models(_law_pool_here, _law_many_here, _law_crowd); slots 0 _law_pool_here, 1 _law_many_here, 2 _law_crowd, 3 _law_models_here, 4 _law_cells, 5 _law_size, 6 _law_high, 7 _law_own_leaves, 8 _law_k -/
def rd_law_models_b0 (K : PySem.W.Frag) : KS :=
  kSeq (kSet 4 (kBin (kAdd) (kVar 4) (kLst (kCons (kBin (kI CDivW fun i j => .int (i / j)) (kBin (kAdd) (kBin (kIx K) (kVar 4) (kUn kNeg (kC (.int 1)))) (kC (.int 3))) (kC (.int 4))) (kNil))))) (kNext)
def rd_law_models_b1_2 (K : PySem.W.Frag) : KS :=
  kSeq (kExpr (kBM K "list" (kAppend) (kVar 3) (kCons (kDisp [(kC (.str "high"), kVar 6), (kC (.str "leaves"), kVar 7), (kC (.str "lies"), kDNew)]) (kNil)))) (kNext)
def rd_law_models_b1_1 (K : PySem.W.Frag) : KS :=
  kSeq (kSet 7 (kComp (kiR1 (kCons (kVar 5) (kNil))) (kgName 8) (kYes) (kBin (kI (fun _ j => 0 < j) fun i j => .int (i % j)) (kCall (S_law_take K) (kCons (kVar 0) (kCons (kBin (kI CPow fun i j => .int (i * 2 ^ j.toNat)) (kC (.int 1)) (kVar 6)) (kNil)))) (kVar 2)) [8])) (rd_law_models_b1_2 K)
def rd_law_models_b1 (K : PySem.W.Frag) : KS :=
  kSeq (kSet 6 (kCB (kLen K) (kCons (kComp (kiR1 (kCons (kC (.int 6)) (kNil))) (kgName 8) (kT (kBin (kI0 fun i j => .bl (decide (i < j))) (kBin (kI CPow fun i j => .int (i * 2 ^ j.toNat)) (kC (.int 1)) (kVar 8)) (kVar 5))) (kVar 8) [8]) (kNil)))) (rd_law_models_b1_1 K)
def rd_law_models_4 (K : PySem.W.Frag) : KS :=
  kSeq (kRet (kVar 3)) (kNext)
def rd_law_models_3 (K : PySem.W.Frag) : KS :=
  kSeq (kFor (kiSeq K (kVar 4)) (kgName 5) (rd_law_models_b1 K)) (rd_law_models_4 K)
def rd_law_models_2 (K : PySem.W.Frag) : KS :=
  kSeq (kWhile (kT (kBin (kI0 fun i j => .bl (decide (j < i))) (kBin (kIx K) (kVar 4) (kUn kNeg (kC (.int 1)))) (kC (.int 4)))) (rd_law_models_b0 K)) (rd_law_models_3 K)
def rd_law_models_1 (K : PySem.W.Frag) : KS :=
  kSeq (kSet 4 (kLst (kCons (kVar 1) (kNil)))) (rd_law_models_2 K)
def rd_law_models (K : PySem.W.Frag) : KS :=
  kSeq (kSet 3 (kLst (kNil))) (rd_law_models_1 K)
/-- is_whole(thing); slots 0 thing -/
def rd_is_whole (K : PySem.W.Frag) : KS :=
  kSeq (kRet (kAndV (kCB (kIsi K) (kCons (kVar 0) (kCons (kC (.ty "int")) (kNil)))) (kNotV (kCB (kIsi K) (kCons (kVar 0) (kCons (kC (.ty "bool")) (kNil))))))) (kNext)
/-- is_within(thing, least, most); slots 0 thing, 1 least, 2 most -/
def rd_is_within (K : PySem.W.Frag) : KS :=
  kSeq (kRet (kAndV (kCall (S_is_whole K) (kCons (kVar 0) (kNil))) (kChain (kI0 fun i j => .bl (decide (i ≤ j))) (kI0 fun i j => .bl (decide (i ≤ j))) (kVar 1) (kVar 0) (kVar 2)))) (kNext)
/-- look_at_many(many); slots 0 many -/
def rd_look_at_many (K : PySem.W.Frag) : KS :=
  kSeq (kIf (kNot (kT (kCall (S_is_within K) (kCons (kVar 0) (kCons (kC (.int 1)) (kCons (kC (.int 32)) (kNil))))))) (kSeq (kRaise K "NoSize") (kNext)) (kNext)) (kNext)
/-- look_at_sizes(many, most); slots 0 many, 1 most -/
def rd_look_at_sizes_1 (K : PySem.W.Frag) : KS :=
  kSeq (kIf (kNot (kT (kCall (S_is_within K) (kCons (kVar 1) (kCons (kC (.int 0)) (kCons (kC (.int 60)) (kNil))))))) (kSeq (kRaise K "NoSize") (kNext)) (kNext)) (kNext)
def rd_look_at_sizes (K : PySem.W.Frag) : KS :=
  kSeq (kExpr (kCall (S_look_at_many K) (kCons (kVar 0) (kNil)))) (rd_look_at_sizes_1 K)
/-- side_of(many); slots 0 many, 1 side -/
def rd_side_of_b0 (K : PySem.W.Frag) : KS :=
  kSeq (kSet 1 (kBin (kAdd) (kVar 1) (kC (.int 1)))) (kNext)
def rd_side_of_2 (K : PySem.W.Frag) : KS :=
  kSeq (kRet (kVar 1)) (kNext)
def rd_side_of_1 (K : PySem.W.Frag) : KS :=
  kSeq (kWhile (kT (kBin (kI0 fun i j => .bl (decide (i < j))) (kBin (kMul) (kVar 1) (kVar 1)) (kVar 0))) (rd_side_of_b0 K)) (rd_side_of_2 K)
def rd_side_of (K : PySem.W.Frag) : KS :=
  kSeq (kSet 1 (kC (.int 1))) (rd_side_of_1 K)
/-- spare_needs(many, most); slots 0 many, 1 most, 2 side, 3 start -/
def rd_spare_needs_1 (K : PySem.W.Frag) : KS :=
  kSeq (kRet (kComp (kiR3 (kCons (kC (.int 0)) (kCons (kVar 1) (kCons (kVar 2) (kNil))))) (kgName 3) (kYes) (kTup (kCons (kC (.str "shuffle")) (kCons (kBin (kAdd) (kVar 0) (kVar 2)) (kNil)))) [3])) (kNext)
def rd_spare_needs (K : PySem.W.Frag) : KS :=
  kSeq (kSet 2 (kCall (S_side_of K) (kCons (kVar 0) (kNil)))) (rd_spare_needs_1 K)
/-- high_of(many); slots 0 many, 1 high -/
def rd_high_of_b0 (K : PySem.W.Frag) : KS :=
  kSeq (kSet 1 (kBin (kAdd) (kVar 1) (kC (.int 1)))) (kNext)
def rd_high_of_2 (K : PySem.W.Frag) : KS :=
  kSeq (kRet (kVar 1)) (kNext)
def rd_high_of_1 (K : PySem.W.Frag) : KS :=
  kSeq (kWhile (kT (kBin (kI0 fun i j => .bl (decide (i < j))) (kBin (kI CPow fun i j => .int (i * 2 ^ j.toNat)) (kC (.int 1)) (kVar 1)) (kVar 0))) (rd_high_of_b0 K)) (rd_high_of_2 K)
def rd_high_of (K : PySem.W.Frag) : KS :=
  kSeq (kSet 1 (kC (.int 0))) (rd_high_of_1 K)
/-- last_of(many); slots 0 many -/
def rd_last_of (K : PySem.W.Frag) : KS :=
  kSeq (kRet (kCB (kMax2) (kCons (kC (.int 0)) (kCons (kBin (kI0 fun i j => .int (i - j)) (kCall (S_high_of K) (kCons (kVar 0) (kNil))) (kC (.int 1))) (kNil))))) (kNext)
/-- stair_of(many, pour); slots 0 many, 1 pour, 2 stair -/
def rd_stair_of_b0 (K : PySem.W.Frag) : KS :=
  kSeq (kSet 2 (kBin (kAdd) (kVar 2) (kC (.int 1)))) (kNext)
def rd_stair_of_2 (K : PySem.W.Frag) : KS :=
  kSeq (kRet (kVar 2)) (kNext)
def rd_stair_of_1 (K : PySem.W.Frag) : KS :=
  kSeq (kWhile (kAnd (kT (kBin (kI0 fun i j => .bl (decide (i < j))) (kVar 2) (kCall (S_last_of K) (kCons (kVar 0) (kNil))))) (kT (kBin (kEqv false K) (kBin (kI (fun _ j => 0 < j) fun i j => .int (i % j)) (kVar 1) (kBin (kI CPow fun i j => .int (i * 2 ^ j.toNat)) (kC (.int 2)) (kVar 2))) (kC (.int 0))))) (rd_stair_of_b0 K)) (rd_stair_of_2 K)
def rd_stair_of (K : PySem.W.Frag) : KS :=
  kSeq (kSet 2 (kC (.int 0))) (rd_stair_of_1 K)
/-- slots_of(many, stair); slots 0 many, 1 stair, 2 spare -/
def rd_slots_of_2 (K : PySem.W.Frag) : KS :=
  kSeq (kRet (kTup (kCons (kVar 2) (kCons (kVar 2) (kNil))))) (kNext)
def rd_slots_of_1 (K : PySem.W.Frag) : KS :=
  kSeq (kIf (kT (kBin (kEqv false K) (kVar 1) (kCall (S_last_of K) (kCons (kVar 0) (kNil))))) (kSeq (kRet (kTup (kCons (kVar 0) (kCons (kVar 2) (kNil))))) (kNext)) (kNext)) (rd_slots_of_2 K)
def rd_slots_of (K : PySem.W.Frag) : KS :=
  kSeq (kSet 2 (kBin (kI CPow fun i j => .int (i * 2 ^ j.toNat)) (kC (.int 2)) (kVar 1))) (rd_slots_of_1 K)
/-- stairs_needs(many, most); slots 0 many, 1 most, 2 stairs, 3 pour, 4 stair -/
def rd_stairs_needs_2 (K : PySem.W.Frag) : KS :=
  kSeq (kRet (kComp (kiSeq K (kVar 2)) (kgName 4) (kYes) (kTup (kCons (kC (.str "shuffle")) (kCons (kCB (kSumS K) (kCons (kCall (S_slots_of K) (kCons (kVar 0) (kCons (kVar 4) (kNil)))) (kNil))) (kNil)))) [4])) (kNext)
def rd_stairs_needs_1 (K : PySem.W.Frag) : KS :=
  kSeq (kSet 2 (kBin (kAdd) (kLst (kCons (kCall (S_last_of K) (kCons (kVar 0) (kNil))) (kNil))) (kComp (kiR2 (kCons (kC (.int 1)) (kCons (kBin (kI CDivW fun i j => .int (i / j)) (kBin (kAdd) (kVar 1) (kC (.int 1))) (kC (.int 2))) (kNil)))) (kgName 3) (kYes) (kCall (S_stair_of K) (kCons (kVar 0) (kCons (kVar 3) (kNil)))) [3]))) (rd_stairs_needs_2 K)
def rd_stairs_needs (K : PySem.W.Frag) : KS :=
  kSeq (kIf (kT (kBin (kEqv false K) (kVar 1) (kC (.int 0)))) (kSeq (kRet (kLst (kNil))) (kNext)) (kNext)) (rd_stairs_needs_1 K)
/-- grove_needs(trees, most); slots 0 trees, 1 most, 2 kinds, 3 many -/
def rd_grove_needs_b0 (K : PySem.W.Frag) : KS :=
  kSeq (kSet 2 (kBin (kAdd) (kVar 2) (kBin (kMul) (kLst (kCons (kTup (kCons (kC (.str "leaf")) (kCons (kCall (S_high_of K) (kCons (kVar 3) (kNil))) (kNil)))) (kNil))) (kVar 3)))) (kNext)
def rd_grove_needs_2 (K : PySem.W.Frag) : KS :=
  kSeq (kRet (kBin (kAdd) (kVar 2) (kBin (kMul) (kComp (kiSeq K (kVar 0)) (kgName 3) (kYes) (kTup (kCons (kC (.str "leaf")) (kCons (kCall (S_high_of K) (kCons (kVar 3) (kNil))) (kNil)))) [3]) (kVar 1)))) (kNext)
def rd_grove_needs_1 (K : PySem.W.Frag) : KS :=
  kSeq (kFor (kiSeq K (kVar 0)) (kgName 3) (rd_grove_needs_b0 K)) (rd_grove_needs_2 K)
def rd_grove_needs (K : PySem.W.Frag) : KS :=
  kSeq (kSet 2 (kLst (kNil))) (rd_grove_needs_1 K)
/-- trees_of(many); slots 0 many, 1 found -/
def rd_trees_of_b0 (K : PySem.W.Frag) : KS :=
  kSeq (kExpr (kBM K "list" (kAppend) (kVar 1) (kCons (kBin (kI CDivW fun i j => .int (i / j)) (kBin (kI0 fun i j => .int (i - j)) (kBin (kAdd) (kBin (kIx K) (kVar 1) (kUn kNeg (kC (.int 1)))) (kC (.int 4))) (kC (.int 1))) (kC (.int 4))) (kNil)))) (kNext)
def rd_trees_of_2 (K : PySem.W.Frag) : KS :=
  kSeq (kRet (kVar 1)) (kNext)
def rd_trees_of_1 (K : PySem.W.Frag) : KS :=
  kSeq (kWhile (kT (kBin (kI0 fun i j => .bl (decide (j < i))) (kBin (kIx K) (kVar 1) (kUn kNeg (kC (.int 1)))) (kC (.int 4)))) (rd_trees_of_b0 K)) (rd_trees_of_2 K)
def rd_trees_of (K : PySem.W.Frag) : KS :=
  kSeq (kSet 1 (kLst (kCons (kVar 0) (kNil)))) (rd_trees_of_1 K)
/-- kinds_of(way, many, most); slots 0 way, 1 many, 2 most -/
def rd_kinds_of_4 (K : PySem.W.Frag) : KS :=
  kSeq (kRet (kLst (kNil))) (kNext)
def rd_kinds_of_3 (K : PySem.W.Frag) : KS :=
  kSeq (kIf (kT (kBin (kEqv false K) (kVar 0) (kC (.str "grove")))) (kSeq (kRet (kCall (S_grove_needs K) (kCons (kCall (S_trees_of K) (kCons (kVar 1) (kNil))) (kCons (kVar 2) (kNil))))) (kNext)) (kNext)) (rd_kinds_of_4 K)
def rd_kinds_of_2 (K : PySem.W.Frag) : KS :=
  kSeq (kIf (kT (kBin (kEqv false K) (kVar 0) (kC (.str "tree")))) (kSeq (kRet (kCall (S_grove_needs K) (kCons (kLst (kCons (kVar 1) (kNil))) (kCons (kVar 2) (kNil))))) (kNext)) (kNext)) (rd_kinds_of_3 K)
def rd_kinds_of_1 (K : PySem.W.Frag) : KS :=
  kSeq (kIf (kT (kBin (kEqv false K) (kVar 0) (kC (.str "stairs")))) (kSeq (kRet (kCall (S_stairs_needs K) (kCons (kVar 1) (kCons (kVar 2) (kNil))))) (kNext)) (kNext)) (rd_kinds_of_2 K)
def rd_kinds_of (K : PySem.W.Frag) : KS :=
  kSeq (kIf (kT (kBin (kEqv false K) (kVar 0) (kC (.str "spare")))) (kSeq (kRet (kCall (S_spare_needs K) (kCons (kVar 1) (kCons (kVar 2) (kNil))))) (kNext)) (kNext)) (rd_kinds_of_1 K)
/-- leaves(high); slots 0 high -/
def rd_leaves (K : PySem.W.Frag) : KS :=
  kSeq (kRet (kBin (kI CPow fun i j => .int (i * 2 ^ j.toNat)) (kC (.int 1)) (kVar 0))) (kNext)
/-- is_row(size, thing); slots 0 size, 1 thing, 2 place, 3 number -/
def rd_is_row_1 (K : PySem.W.Frag) : KS :=
  kSeq (kRet (kCB (kAll K) (kCons (kComp (kiEnum K (kCons (kVar 1) (kNil))) (kgTup K 2 (kgsCons (kgName 2) (kgsCons (kgName 3) (kgsNil)))) (kYes) (kCall (S_is_within K) (kCons (kVar 3) (kCons (kC (.int 0)) (kCons (kVar 2) (kNil))))) [2, 3]) (kNil)))) (kNext)
def rd_is_row (K : PySem.W.Frag) : KS :=
  kSeq (kIf (kOr (kNot (kT (kCB (kIsi K) (kCons (kVar 1) (kCons (kC (.ty "list")) (kNil)))))) (kT (kBin (kEqv true K) (kCB (kLen K) (kCons (kVar 1) (kNil))) (kVar 0)))) (kSeq (kRet (kC (.bl false))) (kNext)) (kNext)) (rd_is_row_1 K)
/-- is_draw(kind, thing); slots 0 kind, 1 thing -/
def rd_is_draw_1 (K : PySem.W.Frag) : KS :=
  kSeq (kRet (kCall (S_is_row K) (kCons (kBin (kIx K) (kVar 0) (kC (.int 1))) (kCons (kVar 1) (kNil))))) (kNext)
def rd_is_draw (K : PySem.W.Frag) : KS :=
  kSeq (kIf (kT (kBin (kEqv false K) (kBin (kIx K) (kVar 0) (kC (.int 0))) (kC (.str "leaf")))) (kSeq (kRet (kCall (S_is_within K) (kCons (kVar 1) (kCons (kC (.int 0)) (kCons (kBin (kI0 fun i j => .int (i - j)) (kCall (S_leaves K) (kCons (kBin (kIx K) (kVar 0) (kC (.int 1))) (kNil))) (kC (.int 1))) (kNil)))))) (kNext)) (kNext)) (rd_is_draw_1 K)
/-- look_at_draws(kinds, thing); slots 0 kinds, 1 thing, 2 place, 3 kind -/
def rd_look_at_draws_b0 (K : PySem.W.Frag) : KS :=
  kSeq (kIf (kNot (kT (kCall (S_is_draw K) (kCons (kVar 3) (kCons (kBin (kIx K) (kVar 1) (kVar 2)) (kNil)))))) (kSeq (kNever) (kNext)) (kNext)) (kNext)
def rd_look_at_draws_1 (K : PySem.W.Frag) : KS :=
  kSeq (kFor (kiEnum K (kCons (kVar 0) (kNil))) (kgTup K 2 (kgsCons (kgName 2) (kgsCons (kgName 3) (kgsNil)))) (rd_look_at_draws_b0 K)) (kNext)
def rd_look_at_draws (K : PySem.W.Frag) : KS :=
  kSeq (kIf (kOr (kNot (kT (kCB (kIsi K) (kCons (kVar 1) (kCons (kC (.ty "list")) (kNil)))))) (kT (kBin (kEqv true K) (kCB (kLen K) (kCons (kVar 1) (kNil))) (kCB (kLen K) (kCons (kVar 0) (kNil)))))) (kSeq (kNever) (kNext)) (kNext)) (rd_look_at_draws_1 K)
/-- copied(draws); slots 0 draws, 1 draw -/
def rd_copied (K : PySem.W.Frag) : KS :=
  kSeq (kRet (kComp (kiSeq K (kVar 0)) (kgName 1) (kYes) (kIte (kT (kCB (kIsi K) (kCons (kVar 1) (kCons (kC (.ty "list")) (kNil))))) (kCB (kList K) (kCons (kVar 1) (kNil))) (kVar 1)) [1])) (kNext)
/-- Keeper_init(self); slots 0 self -/
def rd_Keeper_init (K : PySem.W.Frag) : KS :=
  kSeq (kFSet K tabF_log (kVar 0) (kLst (kNil))) (kNext)
/-- Store_init(self, way, many, most, draws); slots 0 self, 1 way, 2 many, 3 most, 4 draws -/
def rd_Store_init_6 (K : PySem.W.Frag) : KS :=
  kSeq (kFSet K tabF_made (kVar 0) (kC (.int 0))) (kNext)
def rd_Store_init_5 (K : PySem.W.Frag) : KS :=
  kSeq (kFSet K tabF_keeper (kVar 0) (kMake K 1 (S_Keeper_init K) kNil)) (rd_Store_init_6 K)
def rd_Store_init_4 (K : PySem.W.Frag) : KS :=
  kSeq (kFSet K tabF_draws (kVar 0) (kCall (S_copied K) (kCons (kVar 4) (kNil)))) (rd_Store_init_5 K)
def rd_Store_init_3 (K : PySem.W.Frag) : KS :=
  kSeq (kFSet K tabF_limit (kVar 0) (kVar 3)) (rd_Store_init_4 K)
def rd_Store_init_2 (K : PySem.W.Frag) : KS :=
  kSeq (kFSet K tabF_cells (kVar 0) (kVar 2)) (rd_Store_init_3 K)
def rd_Store_init_1 (K : PySem.W.Frag) : KS :=
  kSeq (kExpr (kCall (S_look_at_draws K) (kCons (kCall (S_kinds_of K) (kCons (kVar 1) (kCons (kVar 2) (kCons (kVar 3) (kNil))))) (kCons (kVar 4) (kNil))))) (rd_Store_init_2 K)
def rd_Store_init (K : PySem.W.Frag) : KS :=
  kSeq (kExpr (kCall (S_look_at_sizes K) (kCons (kVar 2) (kCons (kVar 3) (kNil))))) (rd_Store_init_1 K)
/-- Shelf_init(self, keeper, number, things); slots 0 self, 1 keeper, 2 number, 3 things -/
def rd_Shelf_init_2 (K : PySem.W.Frag) : KS :=
  kSeq (kFSet K tabF_things (kVar 0) (kCB (kList K) (kCons (kVar 3) (kNil)))) (kNext)
def rd_Shelf_init_1 (K : PySem.W.Frag) : KS :=
  kSeq (kFSet K tabF_number (kVar 0) (kVar 2)) (rd_Shelf_init_2 K)
def rd_Shelf_init (K : PySem.W.Frag) : KS :=
  kSeq (kFSet K tabF_keeper (kVar 0) (kVar 1)) (rd_Shelf_init_1 K)
/-- Body_init(self, keeper, number, high, firsts); slots 0 self, 1 keeper, 2 number, 3 high, 4 firsts -/
def rd_Body_init_3 (K : PySem.W.Frag) : KS :=
  kSeq (kFSet K tabF_hand (kVar 0) (kDNew)) (kNext)
def rd_Body_init_2 (K : PySem.W.Frag) : KS :=
  kSeq (kFSet K tabF_firsts (kVar 0) (kCB (kList K) (kCons (kVar 4) (kNil)))) (rd_Body_init_3 K)
def rd_Body_init_1 (K : PySem.W.Frag) : KS :=
  kSeq (kFSet K tabF_high (kVar 0) (kVar 3)) (rd_Body_init_2 K)
def rd_Body_init (K : PySem.W.Frag) : KS :=
  kSeq (kFSet K tabF_shelf (kVar 0) (kMake K 2 (S_Shelf_init K) (kCons (kVar 1) (kCons (kVar 2) (kCons (kBin (kMul) (kLst (kCons (kC .non) (kNil))) (kBin (kMul) (kC (.int 2)) (kBin (kI0 fun i j => .int (i - j)) (kBin (kI CPow fun i j => .int (i * 2 ^ j.toNat)) (kC (.int 2)) (kVar 3)) (kC (.int 1))))) (kNil)))))) (rd_Body_init_1 K)
/-- packed(leaves, high); slots 0 leaves, 1 high, 2 word, 3 place, 4 leaf -/
def rd_packed_b0 (K : PySem.W.Frag) : KS :=
  kSeq (kSet 2 (kBin (kAdd) (kVar 2) (kBin (kI CShl fun i j => .int (i * 2 ^ j.toNat)) (kVar 4) (kBin (kMul) (kVar 1) (kVar 3))))) (kNext)
def rd_packed_2 (K : PySem.W.Frag) : KS :=
  kSeq (kRet (kVar 2)) (kNext)
def rd_packed_1 (K : PySem.W.Frag) : KS :=
  kSeq (kFor (kiEnum K (kCons (kVar 0) (kNil))) (kgTup K 2 (kgsCons (kgName 3) (kgsCons (kgName 4) (kgsNil)))) (rd_packed_b0 K)) (rd_packed_2 K)
def rd_packed (K : PySem.W.Frag) : KS :=
  kSeq (kSet 2 (kC (.int 0))) (rd_packed_1 K)
/-- words_of(leaves, high); slots 0 leaves, 1 high, 2 at -/
def rd_words_of (K : PySem.W.Frag) : KS :=
  kSeq (kRet (kComp (kiR3 (kCons (kC (.int 0)) (kCons (kCB (kLen K) (kCons (kVar 0) (kNil))) (kCons (kC (.int 4)) (kNil))))) (kgName 2) (kYes) (kCall (S_packed K) (kCons (kSl K (kVar 0) (kPart (kVar 2)) (kPart (kBin (kAdd) (kVar 2) (kC (.int 4))))) (kCons (kVar 1) (kNil)))) [2])) (kNext)
/-- Grove_init(self, many, most, draws); slots 0 self, 1 many, 2 most, 3 draws, 4 cells, 5 firsts, 6 number -/
def rd_Grove_init_b0_3 (K : PySem.W.Frag) : KS :=
  kSeq (kFSet K tabF_start (kVar 0) (kBin (kAdd) (kFld K tabF_start (kVar 0)) (kVar 4))) (kNext)
def rd_Grove_init_b0_2 (K : PySem.W.Frag) : KS :=
  kSeq (kSet 5 (kCall (S_words_of K) (kCons (kFld K tabF_table (kVar 0)) (kCons (kBin (kIx K) (kFld K tabF_highs (kVar 0)) (kVar 6)) (kNil))))) (rd_Grove_init_b0_3 K)
def rd_Grove_init_b0_1 (K : PySem.W.Frag) : KS :=
  kSeq (kFSet K tabF_table (kVar 0) (kSl K (kFld K tabF_draws (kVar 0)) (kPart (kFld K tabF_start (kVar 0))) (kPart (kBin (kAdd) (kFld K tabF_start (kVar 0)) (kVar 4))))) (rd_Grove_init_b0_2 K)
def rd_Grove_init_b0 (K : PySem.W.Frag) : KS :=
  kSeq (kExpr (kBM K "list" (kAppend) (kFld K tabF_bodies (kVar 0)) (kCons (kMake K 8 (S_Body_init K) (kCons (kFld K tabF_keeper (kVar 0)) (kCons (kVar 6) (kCons (kBin (kIx K) (kFld K tabF_highs (kVar 0)) (kVar 6)) (kCons (kVar 5) (kNil)))))) (kNil)))) (rd_Grove_init_b0_1 K)
def rd_Grove_init_6 (K : PySem.W.Frag) : KS :=
  kSeq (kFor (kiW (kiEnum K (kCons (kCall (S_trees_of K) (kCons (kVar 1) (kNil))) (kNil)))) (kgTup K 2 (kgsCons (kgName 6) (kgsCons (kgName 4) (kgsNil)))) (rd_Grove_init_b0 K)) (kNext)
def rd_Grove_init_5 (K : PySem.W.Frag) : KS :=
  kSeq (kFSet K tabF_table (kVar 0) (kLst (kNil))) (rd_Grove_init_6 K)
def rd_Grove_init_4 (K : PySem.W.Frag) : KS :=
  kSeq (kSet 5 (kBin (kMul) (kLst (kCons (kC (.int 0)) (kNil))) (kVar 1))) (rd_Grove_init_5 K)
def rd_Grove_init_3 (K : PySem.W.Frag) : KS :=
  kSeq (kFSet K tabF_start (kVar 0) (kC (.int 0))) (rd_Grove_init_4 K)
def rd_Grove_init_2 (K : PySem.W.Frag) : KS :=
  kSeq (kFSet K tabF_bodies (kVar 0) (kLst (kNil))) (rd_Grove_init_3 K)
def rd_Grove_init_1 (K : PySem.W.Frag) : KS :=
  kSeq (kFSet K tabF_highs (kVar 0) (kComp (kiSeq K (kCall (S_trees_of K) (kCons (kVar 1) (kNil)))) (kgName 4) (kYes) (kCall (S_high_of K) (kCons (kVar 4) (kNil))) [4])) (rd_Grove_init_2 K)
def rd_Grove_init (K : PySem.W.Frag) : KS :=
  kSeq (kExpr (kCall (S_Store_init K) (kCons (kVar 0) (kCons (kC (.str "grove")) (kCons (kVar 1) (kCons (kVar 2) (kCons (kVar 3) (kNil)))))))) (rd_Grove_init_1 K)
/-- law_word(_law_pool_here); slots 0 _law_pool_here -/
def rd_law_word (K : PySem.W.Frag) : KS :=
  kSeq (kRet (kBin (kIx K) (kLst (kCons (kC (.int 0)) (kCons (kC (.int 1)) (kCons (kBin (kI0 fun i j => .int (i - j)) (kBin (kI CPow fun i j => .int (i ^ j.toNat)) (kC (.int 10)) (kC (.int 18))) (kC (.int 1))) (kCons (kBin (kAdd) (kBin (kMul) (kCall (S_law_take K) (kCons (kVar 0) (kCons (kBin (kI CPow fun i j => .int (i ^ j.toNat)) (kC (.int 10)) (kC (.int 9))) (kNil)))) (kBin (kI CPow fun i j => .int (i ^ j.toNat)) (kC (.int 10)) (kC (.int 9)))) (kCall (S_law_take K) (kCons (kVar 0) (kCons (kBin (kI CPow fun i j => .int (i ^ j.toNat)) (kC (.int 10)) (kC (.int 9))) (kNil))))) (kNil)))))) (kBin (kI (fun _ j => 0 < j) fun i j => .int (i % j)) (kCall (S_law_take K) (kCons (kVar 0) (kCons (kC (.int 8)) (kNil)))) (kC (.int 4))))) (kNext)
/-- law_ask(_law_pool_here, _law_many_here); slots 0 _law_pool_here, 1 _law_many_here, 2 _law_cell -/
def rd_law_ask_2 (K : PySem.W.Frag) : KS :=
  kSeq (kRet (kTup (kCons (kC (.str "write")) (kCons (kVar 2) (kCons (kCall (S_law_word K) (kCons (kVar 0) (kNil))) (kNil)))))) (kNext)
def rd_law_ask_1 (K : PySem.W.Frag) : KS :=
  kSeq (kIf (kT (kBin (kEqv false K) (kCall (S_law_take K) (kCons (kVar 0) (kCons (kC (.int 2)) (kNil)))) (kC (.int 0)))) (kSeq (kRet (kTup (kCons (kC (.str "read")) (kCons (kVar 2) (kNil))))) (kNext)) (kNext)) (rd_law_ask_2 K)
def rd_law_ask (K : PySem.W.Frag) : KS :=
  kSeq (kSet 2 (kCall (S_law_take K) (kCons (kVar 0) (kCons (kBin (kIx K) (kLst (kCons (kVar 1) (kCons (kCB (kMin2) (kCons (kVar 1) (kCons (kC (.int 2)) (kNil)))) (kNil)))) (kBin (kI CDivW fun i j => .int (i / j)) (kCall (S_law_take K) (kCons (kVar 0) (kCons (kC (.int 4)) (kNil)))) (kC (.int 3)))) (kNil))))) (rd_law_ask_1 K)
/-- is_ask(many, thing); slots 0 many, 1 thing -/
def rd_is_ask_2 (K : PySem.W.Frag) : KS :=
  kSeq (kRet (kAndV (kBin (kEqv false K) (kCB (kLen K) (kCons (kVar 1) (kNil))) (kC (.int 3))) (kAndV (kBin (kEqD K) (kBin (kIx K) (kVar 1) (kC (.int 0))) (kC (.str "write"))) (kCall (S_is_within K) (kCons (kBin (kIx K) (kVar 1) (kC (.int 2))) (kCons (kC (.int 0)) (kCons (kC (.int 999999999999999999)) (kNil)))))))) (kNext)
def rd_is_ask_1 (K : PySem.W.Frag) : KS :=
  kSeq (kIf (kT (kBin (kEqv false K) (kCB (kLen K) (kCons (kVar 1) (kNil))) (kC (.int 2)))) (kSeq (kRet (kBin (kEqD K) (kBin (kIx K) (kVar 1) (kC (.int 0))) (kC (.str "read")))) (kNext)) (kNext)) (rd_is_ask_2 K)
def rd_is_ask (K : PySem.W.Frag) : KS :=
  kSeq (kIf (kOr (kNot (kT (kCB (kIsi K) (kCons (kVar 1) (kCons (kC (.ty "tuple")) (kNil)))))) (kOr (kT (kBin (kI0 fun i j => .bl (decide (i < j))) (kCB (kLen K) (kCons (kVar 1) (kNil))) (kC (.int 2)))) (kNot (kT (kCall (S_is_within K) (kCons (kBin (kIx K) (kVar 1) (kC (.int 1))) (kCons (kC (.int 0)) (kCons (kBin (kI0 fun i j => .int (i - j)) (kVar 0) (kC (.int 1))) (kNil))))))))) (kSeq (kRet (kC (.bl false))) (kNext)) (kNext)) (rd_is_ask_1 K)
/-- need_ask(many, thing); slots 0 many, 1 thing -/
def rd_need_ask (K : PySem.W.Frag) : KS :=
  kSeq (kIf (kNot (kT (kCall (S_is_ask K) (kCons (kVar 0) (kCons (kVar 1) (kNil)))))) (kSeq (kRaise K "NoAsk") (kNext)) (kNext)) (kNext)
/-- Store_left(self); slots 0 self -/
def rd_Store_left (K : PySem.W.Frag) : KS :=
  kSeq (kRet (kBin (kI0 fun i j => .int (i - j)) (kFld K tabF_limit (kVar 0)) (kFld K tabF_made (kVar 0)))) (kNext)
/-- Grove_fresh(self, number); slots 0 self, 1 number -/
def rd_Grove_fresh (K : PySem.W.Frag) : KS :=
  kSeq (kRet (kBin (kIx K) (kFld K tabF_draws (kVar 0)) (kBin (kAdd) (kBin (kAdd) (kFld K tabF_start (kVar 0)) (kBin (kMul) (kFld K tabF_made (kVar 0)) (kCB (kLen K) (kCons (kFld K tabF_bodies (kVar 0)) (kNil))))) (kVar 1)))) (kNext)
/-- Shelf_need_room(self, room); slots 0 self, 1 room -/
def rd_Shelf_need_room (K : PySem.W.Frag) : KS :=
  kSeq (kIf (kNot (kT (kCall (S_is_within K) (kCons (kVar 1) (kCons (kC (.int 0)) (kCons (kBin (kI0 fun i j => .int (i - j)) (kCB (kLen K) (kCons (kFld K tabF_things (kVar 0)) (kNil))) (kC (.int 1))) (kNil))))))) (kSeq (kRaise K "NoRoom") (kNext)) (kNext)) (kNext)
/-- Keeper_sees(self, deed, shelf, room); slots 0 self, 1 deed, 2 shelf, 3 room -/
def rd_Keeper_sees (K : PySem.W.Frag) : KS :=
  kSeq (kExpr (kBM K "list" (kAppend) (kFld K tabF_log (kVar 0)) (kCons (kTup (kCons (kVar 1) (kCons (kVar 2) (kCons (kVar 3) (kNil))))) (kNil)))) (kNext)
/-- Shelf_look(self, room); slots 0 self, 1 room -/
def rd_Shelf_look_2 (K : PySem.W.Frag) : KS :=
  kSeq (kRet (kBin (kIx K) (kFld K tabF_things (kVar 0)) (kVar 1))) (kNext)
def rd_Shelf_look_1 (K : PySem.W.Frag) : KS :=
  kSeq (kExpr (kMeth K (tabM_sees K) (kFld K tabF_keeper (kVar 0)) (kCons (kC (.str "look")) (kCons (kFld K tabF_number (kVar 0)) (kCons (kVar 1) (kNil)))))) (rd_Shelf_look_2 K)
def rd_Shelf_look (K : PySem.W.Frag) : KS :=
  kSeq (kExpr (kMeth K (tabM_need_room K) (kVar 0) (kCons (kVar 1) (kNil)))) (rd_Shelf_look_1 K)
/-- node_at(high, depth, leaf); slots 0 high, 1 depth, 2 leaf -/
def rd_node_at (K : PySem.W.Frag) : KS :=
  kSeq (kRet (kBin (kAdd) (kBin (kI0 fun i j => .int (i - j)) (kBin (kI CPow fun i j => .int (i * 2 ^ j.toNat)) (kC (.int 1)) (kVar 1)) (kC (.int 1))) (kBin (kI (fun _ j => 0 ≤ j) fun i j => .int (i / 2 ^ j.toNat)) (kVar 2) (kBin (kI0 fun i j => .int (i - j)) (kVar 0) (kVar 1))))) (kNext)
/-- room_of(node, side); slots 0 node, 1 side -/
def rd_room_of (K : PySem.W.Frag) : KS :=
  kSeq (kRet (kBin (kAdd) (kBin (kMul) (kC (.int 2)) (kVar 0)) (kVar 1))) (kNext)
/-- Body_look_way(self, leaf); slots 0 self, 1 leaf, 2 depth, 3 side, 4 thing -/
def rd_Body_look_way_b1_1 (K : PySem.W.Frag) : KS :=
  kSeq (kIf (kT (kBin (kIs2 true) (kVar 4) (kC .non))) (kSeq (kDSet (kFld K tabF_hand (kVar 0)) (kBin (kIx K) (kVar 4) (kC (.int 0))) (kTup (kCons (kBin (kIx K) (kVar 4) (kC (.int 1))) (kCons (kBin (kIx K) (kVar 4) (kC (.int 2))) (kNil))))) (kNext)) (kNext)) (kNext)
def rd_Body_look_way_b1 (K : PySem.W.Frag) : KS :=
  kSeq (kSet 4 (kMeth K (tabM_look K) (kFld K tabF_shelf (kVar 0)) (kCons (kCall (S_room_of K) (kCons (kCall (S_node_at K) (kCons (kFld K tabF_high (kVar 0)) (kCons (kVar 2) (kCons (kVar 1) (kNil))))) (kCons (kVar 3) (kNil)))) (kNil)))) (rd_Body_look_way_b1_1 K)
def rd_Body_look_way_b0 (K : PySem.W.Frag) : KS :=
  kSeq (kFor (kiTup K (kConT K "SIDES" con_SIDES)) (kgName 3) (rd_Body_look_way_b1 K)) (kNext)
def rd_Body_look_way (K : PySem.W.Frag) : KS :=
  kSeq (kFor (kiR1 (kCons (kBin (kAdd) (kFld K tabF_high (kVar 0)) (kC (.int 1))) (kNil))) (kgName 2) (rd_Body_look_way_b0 K)) (kNext)
/-- Body_word_of(self, cell); slots 0 self, 1 cell -/
def rd_Body_word_of_1 (K : PySem.W.Frag) : KS :=
  kSeq (kRet (kBin (kIx K) (kFld K tabF_firsts (kVar 0)) (kVar 1))) (kNext)
def rd_Body_word_of (K : PySem.W.Frag) : KS :=
  kSeq (kIf (kT (kDIn false (kVar 1) (kFld K tabF_hand (kVar 0)))) (kSeq (kRet (kBin (kIx K) (kBin kDGet (kFld K tabF_hand (kVar 0)) (kVar 1)) (kC (.int 0)))) (kNext)) (kNext)) (rd_Body_word_of_1 K)
/-- Body_keep(self, cell, word, leaf); slots 0 self, 1 cell, 2 word, 3 leaf -/
def rd_Body_keep (K : PySem.W.Frag) : KS :=
  kSeq (kDSet (kFld K tabF_hand (kVar 0)) (kVar 1) (kTup (kCons (kVar 2) (kCons (kVar 3) (kNil))))) (kNext)
/-- leaf_in(word, high, place); slots 0 word, 1 high, 2 place -/
def rd_leaf_in (K : PySem.W.Frag) : KS :=
  kSeq (kRet (kBin (kI (fun _ j => 0 < j) fun i j => .int (i % j)) (kBin (kI (fun _ j => 0 ≤ j) fun i j => .int (i / 2 ^ j.toNat)) (kVar 0) (kBin (kMul) (kVar 1) (kVar 2))) (kBin (kI CPow fun i j => .int (i * 2 ^ j.toNat)) (kC (.int 1)) (kVar 1)))) (kNext)
/-- with_leaf(word, high, place, leaf); slots 0 word, 1 high, 2 place, 3 leaf -/
def rd_with_leaf (K : PySem.W.Frag) : KS :=
  kSeq (kRet (kBin (kAdd) (kVar 0) (kBin (kI CShl fun i j => .int (i * 2 ^ j.toNat)) (kBin (kI0 fun i j => .int (i - j)) (kVar 3) (kCall (S_leaf_in K) (kCons (kVar 0) (kCons (kVar 1) (kCons (kVar 2) (kNil)))))) (kBin (kMul) (kVar 1) (kVar 2))))) (kNext)
/-- Body_fitting(self, depth, node); slots 0 self, 1 depth, 2 node, 3 found, 4 cell -/
def rd_Body_fitting_1 (K : PySem.W.Frag) : KS :=
  kSeq (kRet (kSl K (kVar 3) (kNoP) (kPart (kC (.int 2))))) (kNext)
def rd_Body_fitting (K : PySem.W.Frag) : KS :=
  kSeq (kSet 3 (kComp (kiSeq K (kCB kSortedD (kCons (kFld K tabF_hand (kVar 0)) (kNil)))) (kgName 4) (kT (kBin (kEqv false K) (kCall (S_node_at K) (kCons (kFld K tabF_high (kVar 0)) (kCons (kVar 1) (kCons (kBin (kIx K) (kBin kDGet (kFld K tabF_hand (kVar 0)) (kVar 4)) (kC (.int 1))) (kNil))))) (kVar 2))) (kVar 4) [4])) (rd_Body_fitting_1 K)
/-- Shelf_lay(self, room, thing); slots 0 self, 1 room, 2 thing -/
def rd_Shelf_lay_2 (K : PySem.W.Frag) : KS :=
  kSeq (kAsg (kVar 2) (kgIx (kFld K tabF_things (kVar 0)) (kVar 1))) (kNext)
def rd_Shelf_lay_1 (K : PySem.W.Frag) : KS :=
  kSeq (kExpr (kMeth K (tabM_sees K) (kFld K tabF_keeper (kVar 0)) (kCons (kC (.str "lay")) (kCons (kFld K tabF_number (kVar 0)) (kCons (kVar 1) (kNil)))))) (rd_Shelf_lay_2 K)
def rd_Shelf_lay (K : PySem.W.Frag) : KS :=
  kSeq (kExpr (kMeth K (tabM_need_room K) (kVar 0) (kCons (kVar 1) (kNil)))) (rd_Shelf_lay_1 K)
/-- Body_lay_way(self, leaf); slots 0 self, 1 leaf, 2 depth, 3 node, 4 cells, 5 side, 6 thing, 7 word, 8 own -/
def rd_Body_lay_way_b1_2 (K : PySem.W.Frag) : KS :=
  kSeq (kExpr (kMeth K (tabM_lay K) (kFld K tabF_shelf (kVar 0)) (kCons (kCall (S_room_of K) (kCons (kVar 3) (kCons (kVar 5) (kNil)))) (kCons (kVar 6) (kNil))))) (kNext)
def rd_Body_lay_way_b1_1 (K : PySem.W.Frag) : KS :=
  kSeq (kIf (kT (kBin (kI0 fun i j => .bl (decide (i < j))) (kVar 5) (kCB (kLen K) (kCons (kVar 4) (kNil))))) (kSeq (kAsg (kDPop2 (kFld K tabF_hand (kVar 0)) (kBin (kIx K) (kVar 4) (kVar 5)) (kTup (kCons (kC (.int 0)) (kCons (kC (.int 0)) (kNil))))) (kgTup K 2 (kgsCons (kgName 7) (kgsCons (kgName 8) (kgsNil))))) (kSeq (kSet 6 (kTup (kCons (kBin (kIx K) (kVar 4) (kVar 5)) (kCons (kVar 7) (kCons (kVar 8) (kNil)))))) (kNext))) (kNext)) (rd_Body_lay_way_b1_2 K)
def rd_Body_lay_way_b1 (K : PySem.W.Frag) : KS :=
  kSeq (kSet 6 (kC .non)) (rd_Body_lay_way_b1_1 K)
def rd_Body_lay_way_b0_2 (K : PySem.W.Frag) : KS :=
  kSeq (kFor (kiTup K (kConT K "SIDES" con_SIDES)) (kgName 5) (rd_Body_lay_way_b1 K)) (kNext)
def rd_Body_lay_way_b0_1 (K : PySem.W.Frag) : KS :=
  kSeq (kSet 4 (kMeth K (tabM_fitting K) (kVar 0) (kCons (kVar 2) (kCons (kVar 3) (kNil))))) (rd_Body_lay_way_b0_2 K)
def rd_Body_lay_way_b0 (K : PySem.W.Frag) : KS :=
  kSeq (kSet 3 (kCall (S_node_at K) (kCons (kFld K tabF_high (kVar 0)) (kCons (kVar 2) (kCons (kVar 1) (kNil)))))) (rd_Body_lay_way_b0_1 K)
def rd_Body_lay_way (K : PySem.W.Frag) : KS :=
  kSeq (kFor (kiR3 (kCons (kFld K tabF_high (kVar 0)) (kCons (kUn kNeg (kC (.int 1))) (kCons (kUn kNeg (kC (.int 1))) (kNil))))) (kgName 2) (rd_Body_lay_way_b0 K)) (kNext)
/-- Grove_passed(self, number, cell, leaf); slots 0 self, 1 number, 2 cell, 3 leaf, 4 own, 5 place, 6 high, 7 body, 8 old -/
def rd_Grove_passed_8 (K : PySem.W.Frag) : KS :=
  kSeq (kRet (kCall (S_leaf_in K) (kCons (kVar 8) (kCons (kVar 6) (kCons (kVar 5) (kNil)))))) (kNext)
def rd_Grove_passed_7 (K : PySem.W.Frag) : KS :=
  kSeq (kExpr (kMeth K (tabM_lay_way K) (kVar 7) (kCons (kVar 3) (kNil)))) (rd_Grove_passed_8 K)
def rd_Grove_passed_6 (K : PySem.W.Frag) : KS :=
  kSeq (kExpr (kMeth K (tabM_keep K) (kVar 7) (kCons (kVar 4) (kCons (kCall (S_with_leaf K) (kCons (kVar 8) (kCons (kVar 6) (kCons (kVar 5) (kCons (kMeth K (tabM_fresh K) (kVar 0) (kCons (kBin (kI0 fun i j => .int (i - j)) (kVar 1) (kC (.int 1))) (kNil))) (kNil)))))) (kCons (kMeth K (tabM_fresh K) (kVar 0) (kCons (kVar 1) (kNil))) (kNil)))))) (rd_Grove_passed_7 K)
def rd_Grove_passed_5 (K : PySem.W.Frag) : KS :=
  kSeq (kSet 8 (kMeth K (tabM_word_of K) (kVar 7) (kCons (kVar 4) (kNil)))) (rd_Grove_passed_6 K)
def rd_Grove_passed_4 (K : PySem.W.Frag) : KS :=
  kSeq (kExpr (kMeth K (tabM_look_way K) (kVar 7) (kCons (kVar 3) (kNil)))) (rd_Grove_passed_5 K)
def rd_Grove_passed_3 (K : PySem.W.Frag) : KS :=
  kSeq (kSet 7 (kBin (kIx K) (kFld K tabF_bodies (kVar 0)) (kVar 1))) (rd_Grove_passed_4 K)
def rd_Grove_passed_2 (K : PySem.W.Frag) : KS :=
  kSeq (kSet 6 (kBin (kIx K) (kFld K tabF_highs (kVar 0)) (kBin (kI0 fun i j => .int (i - j)) (kVar 1) (kC (.int 1))))) (rd_Grove_passed_3 K)
def rd_Grove_passed_1 (K : PySem.W.Frag) : KS :=
  kSeq (kSet 5 (kBin (kI (fun _ j => 0 < j) fun i j => .int (i % j)) (kBin (kI (fun _ j => 0 ≤ j) fun i j => .int (i / 2 ^ j.toNat)) (kVar 2) (kBin (kI0 fun i j => .int (i - j)) (kBin (kMul) (kC (.int 2)) (kVar 1)) (kC (.int 2)))) (kC (.int 4)))) (rd_Grove_passed_2 K)
def rd_Grove_passed (K : PySem.W.Frag) : KS :=
  kSeq (kSet 4 (kBin (kI (fun _ j => 0 ≤ j) fun i j => .int (i / 2 ^ j.toNat)) (kVar 2) (kBin (kMul) (kC (.int 2)) (kVar 1)))) (rd_Grove_passed_1 K)
/-- Grove_answered(self, cell, word); slots 0 self, 1 cell, 2 word, 3 last, 4 own, 5 leaf, 6 number, 7 body, 8 told -/
def rd_Grove_answered_b0 (K : PySem.W.Frag) : KS :=
  kSeq (kSet 5 (kMeth K (tabM_passed K) (kVar 0) (kCons (kVar 6) (kCons (kVar 1) (kCons (kVar 5) (kNil)))))) (kNext)
def rd_Grove_answered_10 (K : PySem.W.Frag) : KS :=
  kSeq (kRet (kVar 8)) (kNext)
def rd_Grove_answered_9 (K : PySem.W.Frag) : KS :=
  kSeq (kExpr (kMeth K (tabM_lay_way K) (kVar 7) (kCons (kVar 5) (kNil)))) (rd_Grove_answered_10 K)
def rd_Grove_answered_8 (K : PySem.W.Frag) : KS :=
  kSeq (kExpr (kMeth K (tabM_keep K) (kVar 7) (kCons (kVar 1) (kCons (kIte (kT (kBin (kIs2 false) (kVar 2) (kC .non))) (kVar 8) (kVar 2)) (kCons (kMeth K (tabM_fresh K) (kVar 0) (kCons (kC (.int 0)) (kNil))) (kNil)))))) (rd_Grove_answered_9 K)
def rd_Grove_answered_7 (K : PySem.W.Frag) : KS :=
  kSeq (kSet 8 (kMeth K (tabM_word_of K) (kVar 7) (kCons (kVar 1) (kNil)))) (rd_Grove_answered_8 K)
def rd_Grove_answered_6 (K : PySem.W.Frag) : KS :=
  kSeq (kExpr (kMeth K (tabM_look_way K) (kVar 7) (kCons (kVar 5) (kNil)))) (rd_Grove_answered_7 K)
def rd_Grove_answered_5 (K : PySem.W.Frag) : KS :=
  kSeq (kSet 7 (kBin (kIx K) (kFld K tabF_bodies (kVar 0)) (kC (.int 0)))) (rd_Grove_answered_6 K)
def rd_Grove_answered_4 (K : PySem.W.Frag) : KS :=
  kSeq (kFor (kiR3 (kCons (kVar 3) (kCons (kC (.int 0)) (kCons (kUn kNeg (kC (.int 1))) (kNil))))) (kgName 6) (rd_Grove_answered_b0 K)) (rd_Grove_answered_5 K)
def rd_Grove_answered_3 (K : PySem.W.Frag) : KS :=
  kSeq (kAsg (kMeth K (tabM_fresh K) (kVar 0) (kCons (kVar 3) (kNil))) (kgIx (kFld K tabF_table (kVar 0)) (kVar 4))) (rd_Grove_answered_4 K)
def rd_Grove_answered_2 (K : PySem.W.Frag) : KS :=
  kSeq (kSet 5 (kBin (kIx K) (kFld K tabF_table (kVar 0)) (kVar 4))) (rd_Grove_answered_3 K)
def rd_Grove_answered_1 (K : PySem.W.Frag) : KS :=
  kSeq (kSet 4 (kBin (kI (fun _ j => 0 ≤ j) fun i j => .int (i / 2 ^ j.toNat)) (kVar 1) (kBin (kMul) (kC (.int 2)) (kVar 3)))) (rd_Grove_answered_2 K)
def rd_Grove_answered (K : PySem.W.Frag) : KS :=
  kSeq (kSet 3 (kBin (kI0 fun i j => .int (i - j)) (kCB (kLen K) (kCons (kFld K tabF_bodies (kVar 0)) (kNil))) (kC (.int 1)))) (rd_Grove_answered_1 K)
/-- word_asked(deed); slots 0 deed -/
def rd_word_asked_1 (K : PySem.W.Frag) : KS :=
  kSeq (kRet (kBin (kIx K) (kVar 0) (kC (.int 2)))) (kNext)
def rd_word_asked (K : PySem.W.Frag) : KS :=
  kSeq (kIf (kT (kBin (kEqv false K) (kBin (kIx K) (kVar 0) (kC (.int 0))) (kC (.str "read")))) (kSeq (kRet (kC .non)) (kNext)) (kNext)) (rd_word_asked_1 K)
/-- Store_ask(self, deed); slots 0 self, 1 deed, 2 told -/
def rd_Store_ask_4 (K : PySem.W.Frag) : KS :=
  kSeq (kRet (kVar 2)) (kNext)
def rd_Store_ask_3 (K : PySem.W.Frag) : KS :=
  kSeq (kFSet K tabF_made (kVar 0) (kBin (kAdd) (kFld K tabF_made (kVar 0)) (kC (.int 1)))) (rd_Store_ask_4 K)
def rd_Store_ask_2 (K : PySem.W.Frag) : KS :=
  kSeq (kSet 2 (kMeth K (tabM_answered K) (kVar 0) (kCons (kBin (kIx K) (kVar 1) (kC (.int 1))) (kCons (kCall (S_word_asked K) (kCons (kVar 1) (kNil))) (kNil))))) (rd_Store_ask_3 K)
def rd_Store_ask_1 (K : PySem.W.Frag) : KS :=
  kSeq (kIf (kT (kBin (kI0 fun i j => .bl (decide (i < j))) (kMeth K (tabM_left K) (kVar 0) kNil) (kC (.int 1)))) (kSeq (kRaise K "Over") (kNext)) (kNext)) (rd_Store_ask_2 K)
def rd_Store_ask (K : PySem.W.Frag) : KS :=
  kSeq (kExpr (kCall (S_need_ask K) (kCons (kFld K tabF_cells (kVar 0)) (kCons (kVar 1) (kNil))))) (rd_Store_ask_1 K)
/-- law_refused(_law_pool_here, _law_grove, _law_many_here); slots 0 _law_pool_here, 1 _law_grove, 2 _law_many_here, 3 _law_odd, 4 _law_found, 5 e -/
def rd_law_refused_3 (K : PySem.W.Frag) : KS :=
  kSeq (kRet (kCB (kIsX K (.ref (cl K "NoAsk")) tab_is_NoAsk) (kCons (kVar 4) (kCons (kC (.ref (cl K "NoAsk"))) (kNil))))) (kNext)
def rd_law_refused_2 (K : PySem.W.Frag) : KS :=
  kSeq (kTry K tab_tr_TouchError 5 4 (kSeq (kExpr (kMeth K (tabM_ask K) (kVar 1) (kCons (kVar 3) (kNil)))) (kNext))) (rd_law_refused_3 K)
def rd_law_refused_1 (K : PySem.W.Frag) : KS :=
  kSeq (kSet 4 (kC .non)) (rd_law_refused_2 K)
def rd_law_refused (K : PySem.W.Frag) : KS :=
  kSeq (kSet 3 (kBin (kIx K) (kLst (kCons (kC .non) (kCons (kTup (kCons (kC (.str "read")) (kCons (kVar 2) (kNil)))) (kCons (kTup (kCons (kC (.str "write")) (kCons (kC (.int 0)) (kNil)))) (kCons (kTup (kCons (kC (.str "write")) (kCons (kC (.int 0)) (kCons (kBin (kI CPow fun i j => .int (i ^ j.toNat)) (kC (.int 10)) (kC (.int 18))) (kNil))))) (kCons (kTup (kCons (kC (.str "read")) (kCons (kC (.bl true)) (kNil)))) (kNil))))))) (kCall (S_law_take K) (kCons (kVar 0) (kCons (kC (.int 5)) (kNil)))))) (rd_law_refused_1 K)
/-- law_nodes(_law_high, _law_leaf); slots 0 _law_high, 1 _law_leaf, 2 _law_nodes_here -/
def rd_law_nodes_b0 (K : PySem.W.Frag) : KS :=
  kSeq (kSet 2 (kBin (kAdd) (kLst (kCons (kBin (kI CDivW fun i j => .int (i / j)) (kBin (kI0 fun i j => .int (i - j)) (kBin (kIx K) (kVar 2) (kC (.int 0))) (kC (.int 1))) (kC (.int 2))) (kNil))) (kVar 2))) (kNext)
def rd_law_nodes_2 (K : PySem.W.Frag) : KS :=
  kSeq (kRet (kVar 2)) (kNext)
def rd_law_nodes_1 (K : PySem.W.Frag) : KS :=
  kSeq (kWhile (kT (kBin (kI0 fun i j => .bl (decide (j < i))) (kBin (kIx K) (kVar 2) (kC (.int 0))) (kC (.int 0)))) (rd_law_nodes_b0 K)) (rd_law_nodes_2 K)
def rd_law_nodes (K : PySem.W.Frag) : KS :=
  kSeq (kSet 2 (kLst (kCons (kBin (kAdd) (kBin (kI0 fun i j => .int (i - j)) (kBin (kI CPow fun i j => .int (i * 2 ^ j.toNat)) (kC (.int 1)) (kVar 0)) (kC (.int 1))) (kVar 1)) (kNil)))) (rd_law_nodes_1 K)
/-- law_touches(_law_shelf, _law_high, _law_leaf); slots 0 _law_shelf, 1 _law_high, 2 _law_leaf, 3 _law_nodes_here, 4 _law_touches_here, 5 _law_node -/
def rd_law_touches_b0 (K : PySem.W.Frag) : KS :=
  kSeq (kExpr (kBM K "list" (kExtend) (kVar 4) (kCons (kLst (kCons (kTup (kCons (kC (.str "look")) (kCons (kVar 0) (kCons (kBin (kMul) (kC (.int 2)) (kVar 5)) (kNil))))) (kCons (kTup (kCons (kC (.str "look")) (kCons (kVar 0) (kCons (kBin (kAdd) (kBin (kMul) (kC (.int 2)) (kVar 5)) (kC (.int 1))) (kNil))))) (kNil)))) (kNil)))) (kNext)
def rd_law_touches_b1 (K : PySem.W.Frag) : KS :=
  kSeq (kExpr (kBM K "list" (kExtend) (kVar 4) (kCons (kLst (kCons (kTup (kCons (kC (.str "lay")) (kCons (kVar 0) (kCons (kBin (kMul) (kC (.int 2)) (kVar 5)) (kNil))))) (kCons (kTup (kCons (kC (.str "lay")) (kCons (kVar 0) (kCons (kBin (kAdd) (kBin (kMul) (kC (.int 2)) (kVar 5)) (kC (.int 1))) (kNil))))) (kNil)))) (kNil)))) (kNext)
def rd_law_touches_4 (K : PySem.W.Frag) : KS :=
  kSeq (kRet (kVar 4)) (kNext)
def rd_law_touches_3 (K : PySem.W.Frag) : KS :=
  kSeq (kFor (kiRev K (kCons (kVar 3) (kNil))) (kgName 5) (rd_law_touches_b1 K)) (rd_law_touches_4 K)
def rd_law_touches_2 (K : PySem.W.Frag) : KS :=
  kSeq (kFor (kiSeq K (kVar 3)) (kgName 5) (rd_law_touches_b0 K)) (rd_law_touches_3 K)
def rd_law_touches_1 (K : PySem.W.Frag) : KS :=
  kSeq (kSet 4 (kLst (kNil))) (rd_law_touches_2 K)
def rd_law_touches (K : PySem.W.Frag) : KS :=
  kSeq (kSet 3 (kCall (S_law_nodes K) (kCons (kVar 1) (kCons (kVar 2) (kNil))))) (rd_law_touches_1 K)
/-- law_go(_law_model, _law_cell, _law_fresh); slots 0 _law_model, 1 _law_cell, 2 _law_fresh, 3 _law_nodes_here, 4 _law_lies, 5 _law_other, 6 _law_node, 7 _law_hand_here, 8 _law_fits, 9 _law_one -/
def rd_law_go_b0 (K : PySem.W.Frag) : KS :=
  kSeq (kIf (kT (kBin (kIn false K) (kBin kDGet (kVar 4) (kVar 5)) (kVar 3))) (kSeq (kDSet (kVar 4) (kVar 5) (kC .non)) (kNext)) (kNext)) (kNext)
def rd_law_go_b2 (K : PySem.W.Frag) : KS :=
  kSeq (kDSet (kVar 4) (kVar 9) (kVar 6)) (kNext)
def rd_law_go_b1_2 (K : PySem.W.Frag) : KS :=
  kSeq (kFor (kiW (kiSeq K (kSl K (kVar 8) (kNoP) (kPart (kC (.int 2)))))) (kgName 9) (rd_law_go_b2 K)) (kNext)
def rd_law_go_b1_1 (K : PySem.W.Frag) : KS :=
  kSeq (kSet 8 (kComp (kiSeq K (kVar 7)) (kgName 9) (kT (kBin (kIn false K) (kVar 6) (kCall (S_law_nodes K) (kCons (kBin kDGet (kVar 0) (kC (.str "high"))) (kCons (kBin (kIx K) (kBin kDGet (kVar 0) (kC (.str "leaves"))) (kVar 9)) (kNil)))))) (kVar 9) [9])) (rd_law_go_b1_2 K)
def rd_law_go_b1 (K : PySem.W.Frag) : KS :=
  kSeq (kSet 7 (kComp (kiSeq K (kCB kSortedD (kCons (kVar 4) (kNil)))) (kgName 9) (kT (kBin (kIs2 false) (kBin kDGet (kVar 4) (kVar 9)) (kC .non))) (kVar 9) [9])) (rd_law_go_b1_1 K)
def rd_law_go_5 (K : PySem.W.Frag) : KS :=
  kSeq (kFor (kiRev K (kCons (kVar 3) (kNil))) (kgName 6) (rd_law_go_b1 K)) (kNext)
def rd_law_go_4 (K : PySem.W.Frag) : KS :=
  kSeq (kAsg (kVar 2) (kgIx (kBin kDGet (kVar 0) (kC (.str "leaves"))) (kVar 1))) (rd_law_go_5 K)
def rd_law_go_3 (K : PySem.W.Frag) : KS :=
  kSeq (kDSet (kVar 4) (kVar 1) (kC .non)) (rd_law_go_4 K)
def rd_law_go_2 (K : PySem.W.Frag) : KS :=
  kSeq (kFor (kiW (kiSeq K (kCB kSortedD (kCons (kVar 4) (kNil))))) (kgName 5) (rd_law_go_b0 K)) (rd_law_go_3 K)
def rd_law_go_1 (K : PySem.W.Frag) : KS :=
  kSeq (kSet 4 (kBin kDGet (kVar 0) (kC (.str "lies")))) (rd_law_go_2 K)
def rd_law_go (K : PySem.W.Frag) : KS :=
  kSeq (kSet 3 (kCall (S_law_nodes K) (kCons (kBin kDGet (kVar 0) (kC (.str "high"))) (kCons (kBin (kIx K) (kBin kDGet (kVar 0) (kC (.str "leaves"))) (kVar 1)) (kNil))))) (rd_law_go_1 K)
/-- Body_cells_in_hand(self); slots 0 self -/
def rd_Body_cells_in_hand (K : PySem.W.Frag) : KS :=
  kSeq (kRet (kCB kSortedD (kCons (kFld K tabF_hand (kVar 0)) (kNil)))) (kNext)
/-- Grove_pocket(self); slots 0 self, 1 body -/
def rd_Grove_pocket (K : PySem.W.Frag) : KS :=
  kSeq (kRet (kComp (kiSeq K (kFld K tabF_bodies (kVar 0))) (kgName 1) (kYes) (kMeth K (tabM_cells_in_hand K) (kVar 1) kNil) [1])) (kNext)
/-- law_hand(_law_model); slots 0 _law_model, 1 _law_one -/
def rd_law_hand (K : PySem.W.Frag) : KS :=
  kSeq (kRet (kComp (kiSeq K (kCB kSortedD (kCons (kBin kDGet (kVar 0) (kC (.str "lies"))) (kNil)))) (kgName 1) (kT (kBin (kIs2 false) (kBin kDGet (kBin kDGet (kVar 0) (kC (.str "lies"))) (kVar 1)) (kC .non))) (kVar 1) [1])) (kNext)
/-- law_whole(_law_found); slots 0 _law_found -/
def rd_law_whole (K : PySem.W.Frag) : KS :=
  kSeq (kRet (kAndV (kCB (kIsi K) (kCons (kVar 0) (kCons (kC (.ty "int")) (kNil)))) (kNotV (kCB (kIsi K) (kCons (kVar 0) (kCons (kC (.ty "bool")) (kNil))))))) (kNext)
/-- law_pockets_right(_law_grove, _law_models_here); slots 0 _law_grove, 1 _law_models_here, 2 _law_found, 3 _law_model, 4 _law_pocket, 5 _law_one -/
def rd_law_pockets_right_b0_1 (K : PySem.W.Frag) : KS :=
  kSeq (kExpr (kBM K "list" (kAppend) (kVar 4) (kCons (kC (.int 7)) (kNil)))) (kNext)
def rd_law_pockets_right_b0 (K : PySem.W.Frag) : KS :=
  kSeq (kIf (kOr (kNot (kT (kCB (kIsi K) (kCons (kVar 4) (kCons (kC (.ty "list")) (kNil)))))) (kT (kBin (kEqv true K) (kComp (kiSeq K (kVar 4)) (kgName 5) (kNot (kT (kCall (S_law_whole K) (kCons (kVar 5) (kNil))))) (kVar 5) [5]) (kLst (kNil))))) (kSeq (kRet (kC (.bl false))) (kNext)) (kNext)) (rd_law_pockets_right_b0_1 K)
def rd_law_pockets_right_4 (K : PySem.W.Frag) : KS :=
  kSeq (kRet (kBin (kEqv false K) (kMeth K (tabM_pocket K) (kVar 0) kNil) (kComp (kiSeq K (kVar 1)) (kgName 3) (kYes) (kCall (S_law_hand K) (kCons (kVar 3) (kNil))) [3]))) (kNext)
def rd_law_pockets_right_3 (K : PySem.W.Frag) : KS :=
  kSeq (kExpr (kBM K "list" (kAppend) (kVar 2) (kCons (kLst (kNil)) (kNil)))) (rd_law_pockets_right_4 K)
def rd_law_pockets_right_2 (K : PySem.W.Frag) : KS :=
  kSeq (kFor (kiSeq K (kVar 2)) (kgName 4) (rd_law_pockets_right_b0 K)) (rd_law_pockets_right_3 K)
def rd_law_pockets_right_1 (K : PySem.W.Frag) : KS :=
  kSeq (kIf (kOr (kNot (kT (kCB (kIsi K) (kCons (kVar 2) (kCons (kC (.ty "list")) (kNil)))))) (kT (kBin (kEqv true K) (kVar 2) (kComp (kiSeq K (kVar 1)) (kgName 3) (kYes) (kCall (S_law_hand K) (kCons (kVar 3) (kNil))) [3])))) (kSeq (kRet (kC (.bl false))) (kNext)) (kNext)) (rd_law_pockets_right_2 K)
def rd_law_pockets_right (K : PySem.W.Frag) : KS :=
  kSeq (kSet 2 (kMeth K (tabM_pocket K) (kVar 0) kNil)) (rd_law_pockets_right_1 K)
/-- Keeper_seen(self); slots 0 self -/
def rd_Keeper_seen (K : PySem.W.Frag) : KS :=
  kSeq (kRet (kCB (kList K) (kCons (kFld K tabF_log (kVar 0)) (kNil)))) (kNext)
/-- Store_touches(self); slots 0 self -/
def rd_Store_touches (K : PySem.W.Frag) : KS :=
  kSeq (kRet (kMeth K (tabM_seen K) (kFld K tabF_keeper (kVar 0)) kNil)) (kNext)
/-- law(_law_script); slots 0 _law_script, 1 _law_pool_here, 2 _law_many_here, 3 _law_most, 4 _law_crowd, 5 _law_models_here, 6 _law_draws, 7 _law_model, 8 _law_fresh, 9 _law_k, 10 _law_grove, 11 _law_due, 12 _law_deed, 13 _law_at, 14 _law_cell -/
def rd_law_b0 (K : PySem.W.Frag) : KS :=
  kSeq (kSet 6 (kBin (kAdd) (kVar 6) (kBin kDGet (kVar 7) (kC (.str "leaves"))))) (kNext)
def rd_law_b1_1 (K : PySem.W.Frag) : KS :=
  kSeq (kSet 6 (kBin (kAdd) (kVar 6) (kBin (kIx K) (kVar 8) (kVar 9)))) (kNext)
def rd_law_b1 (K : PySem.W.Frag) : KS :=
  kSeq (kExpr (kBM K "list" (kAppend) (kVar 8) (kCons (kComp (kiSeq K (kVar 5)) (kgName 7) (kYes) (kBin (kI (fun _ j => 0 < j) fun i j => .int (i % j)) (kCall (S_law_take K) (kCons (kVar 1) (kCons (kBin (kI CPow fun i j => .int (i * 2 ^ j.toNat)) (kC (.int 1)) (kBin kDGet (kVar 7) (kC (.str "high")))) (kNil)))) (kVar 4)) [7]) (kNil)))) (rd_law_b1_1 K)
def rd_law_b3_2 (K : PySem.W.Frag) : KS :=
  kSeq (kExpr (kCall (S_law_go K) (kCons (kBin (kIx K) (kVar 5) (kVar 13)) (kCons (kVar 14) (kCons (kBin (kIx K) (kBin (kIx K) (kVar 8) (kVar 9)) (kVar 13)) (kNil)))))) (kNext)
def rd_law_b3_1 (K : PySem.W.Frag) : KS :=
  kSeq (kExpr (kBM K "list" (kExtend) (kVar 11) (kCons (kCall (S_law_touches K) (kCons (kVar 13) (kCons (kBin kDGet (kBin (kIx K) (kVar 5) (kVar 13)) (kC (.str "high"))) (kCons (kBin (kIx K) (kBin kDGet (kBin (kIx K) (kVar 5) (kVar 13)) (kC (.str "leaves"))) (kVar 14)) (kNil))))) (kNil)))) (rd_law_b3_2 K)
def rd_law_b3 (K : PySem.W.Frag) : KS :=
  kSeq (kSet 14 (kBin (kI CDivW fun i j => .int (i / j)) (kBin (kIx K) (kVar 12) (kC (.int 1))) (kBin (kIx K) (kLst (kCons (kC (.int 1)) (kCons (kC (.int 4)) (kCons (kC (.int 16)) (kNil))))) (kVar 13)))) (rd_law_b3_1 K)
def rd_law_b2_5 (K : PySem.W.Frag) : KS :=
  kSeq (kIf (kOr (kNot (kT (kCall (S_law_pockets_right K) (kCons (kVar 10) (kCons (kVar 5) (kNil)))))) (kT (kBin (kEqv true K) (kMeth K (tabM_touches K) (kVar 10) kNil) (kVar 11)))) (kSeq (kRet (kC (.bl false))) (kNext)) (kNext)) (kNext)
def rd_law_b2_4 (K : PySem.W.Frag) : KS :=
  kSeq (kExpr (kMeth K (tabM_ask K) (kVar 10) (kCons (kVar 12) (kNil)))) (rd_law_b2_5 K)
def rd_law_b2_3 (K : PySem.W.Frag) : KS :=
  kSeq (kFor (kiRv1 (kCB (kLen K) (kCons (kVar 5) (kNil)))) (kgName 13) (rd_law_b3 K)) (rd_law_b2_4 K)
def rd_law_b2_2 (K : PySem.W.Frag) : KS :=
  kSeq (kIf (kAnd (kT (kBin (kEqv false K) (kCall (S_law_take K) (kCons (kVar 1) (kCons (kC (.int 4)) (kNil)))) (kC (.int 3)))) (kNot (kT (kCall (S_law_refused K) (kCons (kVar 1) (kCons (kVar 10) (kCons (kVar 2) (kNil)))))))) (kSeq (kRet (kC (.bl false))) (kNext)) (kNext)) (rd_law_b2_3 K)
def rd_law_b2_1 (K : PySem.W.Frag) : KS :=
  kSeq (kSet 12 (kCall (S_law_ask K) (kCons (kVar 1) (kCons (kVar 2) (kNil))))) (rd_law_b2_2 K)
def rd_law_b2 (K : PySem.W.Frag) : KS :=
  kSeq (kSet 1 (kCall (S_law_pool K) (kCons (kVar 0) (kCons (kBin (kAdd) (kC (.int 1)) (kVar 9)) (kNil))))) (rd_law_b2_1 K)
def rd_law_12 (K : PySem.W.Frag) : KS :=
  kSeq (kRet (kAndV (kCall (S_law_pockets_right K) (kCons (kVar 10) (kCons (kVar 5) (kNil)))) (kBin (kEqv false K) (kMeth K (tabM_touches K) (kVar 10) kNil) (kVar 11)))) (kNext)
def rd_law_11 (K : PySem.W.Frag) : KS :=
  kSeq (kFor (kiR1 (kCons (kVar 3) (kNil))) (kgName 9) (rd_law_b2 K)) (rd_law_12 K)
def rd_law_10 (K : PySem.W.Frag) : KS :=
  kSeq (kSet 11 (kLst (kNil))) (rd_law_11 K)
def rd_law_9 (K : PySem.W.Frag) : KS :=
  kSeq (kSet 10 (kMake K 7 (S_Grove_init K) (kCons (kVar 2) (kCons (kVar 3) (kCons (kVar 6) (kNil)))))) (rd_law_10 K)
def rd_law_8 (K : PySem.W.Frag) : KS :=
  kSeq (kFor (kiR1 (kCons (kVar 3) (kNil))) (kgName 9) (rd_law_b1 K)) (rd_law_9 K)
def rd_law_7 (K : PySem.W.Frag) : KS :=
  kSeq (kSet 8 (kLst (kNil))) (rd_law_8 K)
def rd_law_6 (K : PySem.W.Frag) : KS :=
  kSeq (kFor (kiSeq K (kVar 5)) (kgName 7) (rd_law_b0 K)) (rd_law_7 K)
def rd_law_5 (K : PySem.W.Frag) : KS :=
  kSeq (kSet 6 (kLst (kNil))) (rd_law_6 K)
def rd_law_4 (K : PySem.W.Frag) : KS :=
  kSeq (kSet 5 (kCall (S_law_models K) (kCons (kVar 1) (kCons (kVar 2) (kCons (kVar 4) (kNil)))))) (rd_law_5 K)
def rd_law_3 (K : PySem.W.Frag) : KS :=
  kSeq (kSet 4 (kBin (kIx K) (kLst (kCons (kC (.int 64)) (kCons (kC (.int 64)) (kCons (kC (.int 2)) (kNil))))) (kCall (S_law_take K) (kCons (kVar 1) (kCons (kC (.int 3)) (kNil)))))) (rd_law_4 K)
def rd_law_2 (K : PySem.W.Frag) : KS :=
  kSeq (kSet 3 (kCB (kMin2) (kCons (kCB (kMax2) (kCons (kC (.int 0)) (kCons (kBin (kI0 fun i j => .int (i - j)) (kCB (kLen K) (kCons (kVar 0) (kNil))) (kC (.int 1))) (kNil)))) (kCons (kC (.int 60)) (kNil))))) (rd_law_3 K)
def rd_law_1 (K : PySem.W.Frag) : KS :=
  kSeq (kSet 2 (kCall (S_law_many K) (kCons (kVar 1) (kNil)))) (rd_law_2 K)
def rd_law (K : PySem.W.Frag) : KS :=
  kSeq (kSet 1 (kCall (S_law_pool K) (kCons (kVar 0) (kCons (kC (.int 0)) (kNil))))) (rd_law_1 K)
section
variable {K : PySem.W.Frag} {vs : List V} {G : Hp} {M : Mem} {R : KR} {Z : KX}
theorem pf_law_take (h : S_law_take K vs G M R Z) : rd_law_take K (ends R Z) (sta 3 vs) G M := by
  obtain ⟨_, _, rfl, p, m, n, c, s, rfl, rfl, hn, hs, hm0, hm1, q⟩ := sp2_of h
  have hS : SeqAt' K G M p [.int c, .int s] := lst_n hn
  refine ⟨G, M, Wk.refl, _, _, hS, rfl, ite2' (fun e => ?_) (fun e => ?_)⟩
  · refine ⟨G, M, Wk.refl, _, _, hS, rfl, hm0, ?_⟩
    refine ⟨G, M, Wk.refl, _, _, hS, rfl, divW hm0 hm1 c, n, _, 0, hn, rfl, ?_⟩
    refine ⟨G, _, Wk.refl, ?_⟩
    exact ret0 (q _ _ _ (Int.emod_nonneg _ (by omega)) (Int.emod_lt_of_pos _ hm0) hs)
  · obtain ⟨s0, s1⟩ := hs
    have hs' : PoolOk ((s * 48271 + 11) % 2147483647) := ⟨Int.emod_nonneg _ (by decide), Int.emod_lt_of_pos _ (by decide)⟩
    refine ⟨G, M, Wk.refl, _, _, hS, rfl, mul_r (by decide) (by decide), (by show (0 : Int) < _; decide), n, _, 1, hn, rfl, ?_⟩
    have hn' : (M.set n (p, pool c ((s * 48271 + 11) % 2147483647)))[n]? = some (p, pool c ((s * 48271 + 11) % 2147483647)) := set_n hn
    have hS' : SeqAt' K G (M.set n (p, pool c ((s * 48271 + 11) % 2147483647))) p [.int c, .int ((s * 48271 + 11) % 2147483647)] := lst_n hn'
    refine ⟨G, _, Wk.refl, _, _, hS', rfl, _, _, hS', rfl, mul_l (by have := hs'.1; omega) (by have := hs'.2; omega), (by show (0 : Int) < _; decide), divW (by decide) (by decide) _, hm0, ?_⟩
    exact ret0 (q _ _ _ (Int.emod_nonneg _ (by omega)) (Int.emod_lt_of_pos _ hm0) hs')
end

section
variable {K : PySem.W.Frag} {vs : List V} {G : Hp} {M : Mem} {R : KR} {Z : KX}
theorem set_self {α : Type} {l : List α} {n : Nat} {x : α} (h : l[n]? = some x) : l.set n x = l := by
  apply List.ext_getElem? 
  intro i
  rw [List.getElem?_set]
  by_cases e : n = i
  · subst e
    rw [if_pos rfl, if_pos (List.getElem?_eq_some_iff.mp h).1, h]
  · rw [if_neg e]
theorem fr_unset {n : Nat} {p : Addr} {o : HO} {x : Addr × HO} {t : Addr} (hn : M[n]? = some (p, o)) (h : Fr G (M.set n x) t) (e : x.1 = p := by rfl) : Fr G M t := by
  have hl : n < M.length := (List.getElem?_eq_some_iff.mp hn).1
  refine ⟨h.1, fun y hy => ?_⟩
  obtain ⟨m, hm⟩ := List.getElem?_of_mem hy
  by_cases z : n = m
  · subst z
    rw [hn] at hm; cases hm
    have := h.2 x (List.mem_of_getElem? (List.getElem?_set_self hl))
    rw [e] at this; exact this
  · exact h.2 y (List.mem_of_getElem? (by rw [List.getElem?_set_ne z]; exact hm))
end

section
variable {K : PySem.W.Frag} {vs : List V} {G : Hp} {M : Mem} {R : KR} {Z : KX}
theorem pf_is_whole (h : S_is_whole K vs G M R Z) : rd_is_whole K (ends R Z) (sta 1 vs) G M := by
  obtain ⟨x, rfl, T, hT, q⟩ := sp1_of h
  refine ⟨G, M, Wk.refl, .type T.name, .type "int", _, .ty "int", hT, kit_pt T .int, ite2' (fun e => ?_) (fun e => ?_)⟩
  · refine ⟨.type T.name, .type "bool", _, .ty "bool", hT, kit_pt T .bool, ret0 ?_⟩
    have e2 : (!isaB T .bool) = (T == .int) := by revert e; cases T <;> decide
    rw [e2]; exact q
  · have e2 : false = (T == .int) := by revert e; cases T <;> decide
    refine ret0 ?_
    rw [e2]; exact q
theorem pf_is_within (h : S_is_within K vs G M R Z) : rd_is_within K (ends R Z) (sta 3 vs) G M := by
  obtain ⟨x, _, _, rfl, T, lo, hi, rfl, rfl, hT, hx, q⟩ := sp3_of h
  refine ⟨G, M, Wk.refl, T, hT, ite2' (fun e => ?_) (fun e => ?_)⟩
  · rw [e] at hx
    cases x with
    | int i =>
      have q : R (.bl (decide (lo ≤ i) && decide (i ≤ hi))) G M := q
      refine ite2' (fun e1 => ?_) (fun e1 => ?_)
      · rw [e1, Bool.true_and] at q; exact ret0 q
      · rw [e1, Bool.false_and] at q; exact ret0 q
    | _ => cases hx
  · rw [e] at hx
    have e2 : withinV x lo hi = false := by cases x <;> first | rfl | cases hx
    rw [e2] at q
    exact ret0 q
end

section
variable {K : PySem.W.Frag} {vs : List V} {G : Hp} {M : Mem} {R : KR} {Z : KX}
section
variable {α β : Type} {r : α → β → Prop}
theorem A2.len {as : List α} {bs : List β} (h : A2 r as bs) : as.length = bs.length := by
  induction h with
  | nil => rfl
  | cons _ _ ih => simp [ih]
theorem A2.app {as as' : List α} {bs bs' : List β} (h : A2 r as bs) (h' : A2 r as' bs') : A2 r (as ++ as') (bs ++ bs') := by
  induction h with
  | nil => exact h'
  | cons a _ ih => exact .cons a ih
theorem A2.get {as : List α} {bs : List β} (h : A2 r as bs) : ∀ {i : Nat} {b : β}, bs[i]? = some b → ∃ a, as[i]? = some a ∧ r a b := by
  induction h with
  | nil => intro i b e; simp at e
  | cons a _ ih =>
    intro i b e
    cases i with
    | zero => cases e; exact ⟨_, rfl, a⟩
    | succ i => exact ih e
theorem A2.get' {as : List α} {bs : List β} (h : A2 r as bs) : ∀ {i : Nat} {a : α}, as[i]? = some a → ∃ b, bs[i]? = some b ∧ r a b := by
  induction h with
  | nil => intro i b e; simp at e
  | cons a _ ih =>
    intro i b e
    cases i with
    | zero => cases e; exact ⟨_, rfl, a⟩
    | succ i => exact ih e
theorem A2.mono {r' : α → β → Prop} (m : ∀ a b, r a b → r' a b) {as : List α} {bs : List β} (h : A2 r as bs) : A2 r' as bs := by
  induction h with
  | nil => exact .nil
  | cons a _ ih => exact .cons (m _ _ a) ih
end
theorem dp_kn_inv {v : V} {k : Kn} (h : Dp K G v (knD k)) : ∃ t, v = .ref t ∧ SqT K G t [.str k.txt, .int k.n] := by
  obtain ⟨t, xs, rfl, s, a⟩ := dp_tup_inv h
  refine ⟨t, rfl, ?_⟩
  cases a with
  | cons a b =>
    cases b with
    | cons b c =>
      cases c
      cases a
      cases b
      exact s
theorem dp_kn {t : Addr} {k : Kn} (h : SqT K G t [.str k.txt, .int k.n]) : Dp K G (.ref t) (knD k) := .tup h (.cons (.str _) (.cons (.int _) .nil))
theorem txt_leaf (k : Kn) : decide ((V.str k.txt) = (.str "leaf")) = k.leaf := by
  obtain ⟨b, n⟩ := k
  cases b
  · exact decide_eq_false (by intro h; injection h with h; exact absurd (show ("shuffle" : Str) = "leaf" from h) (by decide))
  · exact decide_eq_true rfl
/-! sizes -/
theorem take_succ' {α : Type} {l : List α} {i : Nat} {x : α} (h : l[i]? = some x) : l.take (i + 1) = l.take i ++ [x] := by
  rw [List.take_succ, h]; rfl
end

section
variable {K : PySem.W.Frag} {vs : List V} {G : Hp} {M : Mem} {R : KR} {Z : KX}
theorem pf_leaves (h : S_leaves K vs G M R Z) : rd_leaves K (ends R Z) (sta 1 vs) G M := by
  obtain ⟨_, rfl, n, rfl, hn, q⟩ := sp1_of h
  refine ⟨G, M, Wk.refl, ⟨by omega, by omega, by decide⟩, ret0 ?_⟩
  have e : (1 : Int) * 2 ^ (n : Int).toNat = ((2 ^ n : Nat) : Int) := by simp
  show R (.int ((1 : Int) * 2 ^ (n : Int).toNat)) G M
  rw [e]; exact q
theorem rev_get {α : Type} {l : List α} {i : Nat} (h : i < l.length) : l.reverse[i]? = l[l.length - 1 - i]? := by
  rw [List.getElem?_reverse h]
end

section
variable {K : PySem.W.Frag} {vs : List V} {G : Hp} {M : Mem} {R : KR} {Z : KX}
theorem natsV_get {l : List Nat} {i v : Nat} (h : l[i]? = some v) : (natsV l)[i]? = some (.int (v : Int)) := by
  unfold natsV; rw [List.getElem?_map, h]; rfl
theorem natsV_len (l : List Nat) : (natsV l).length = l.length := by unfold natsV; rw [List.length_map]
theorem atI_nats {l : List Nat} {i v : Nat} (h : l[i]? = some v) : atI (natsV l) (i : Int) = some (.int (v : Int)) := atI_nat (natsV_get h)
theorem at_mem {l : List V} {r : Int} (h0 : 0 ≤ r) (h1 : r < l.length) : ∃ v, atI l r = some v ∧ v ∈ l := by
  obtain ⟨j, rfl⟩ := Int.eq_ofNat_of_zero_le h0
  have hj : l[j]? = some l[j] := List.getElem?_eq_getElem (by omega)
  exact ⟨_, atI_nat hj, List.mem_of_getElem? hj⟩
theorem dpall_rep {v : V} {d : PyData} (h : Dp K G v d) : ∀ n, DpAll K G (List.replicate n v) (List.replicate n d)
  | 0 => .nil
  | n + 1 => .cons h (dpall_rep h n)
theorem dpall_app2 : ∀ {vs ws : List V} {ds es : List PyData}, DpAll K G vs ds → DpAll K G ws es → DpAll K G (vs ++ ws) (ds ++ es)
  | _, _, _, _, .nil, h => h
  | _, _, _, _, .cons a b, h => .cons a (dpall_app2 b h)
theorem dpall_flat {us : List V} {ds : List PyData} (h : DpAll K G us ds) : ∀ n, DpAll K G (List.replicate n us).flatten (List.replicate n ds).flatten
  | 0 => .nil
  | n + 1 => dpall_app2 h (dpall_flat h n)
theorem ex_lat {G' : Hp} {M' : Mem} {a : Addr} {us : List V} (x : Ex G G') (hm : ∀ x, x ∈ M → x ∈ M') (h : LstAt K G M a us) : LstAt K G' M' a us := by
  rcases h with h | h
  · exact .inl (hm _ h)
  · exact .inr (ex_l x h)
theorem wi_hi {i lo hi : Int} (h : hi < i) : withinV (.int i) lo hi = false := by
  show (decide (lo ≤ i) && decide (i ≤ hi)) = false
  rw [decide_eq_false (p := i ≤ hi) (by omega), Bool.and_false]
theorem wi_in {i lo hi : Int} (h : lo ≤ i) (h2 : i ≤ hi) : withinV (.int i) lo hi = true := by
  show (decide (lo ≤ i) && decide (i ≤ hi)) = true
  rw [decide_eq_true h, decide_eq_true h2]; rfl
end

section
theorem swap_len {l : List Nat} {i j : Nat} : (swapL l i j).length = l.length := by unfold swapL; simp
theorem getD_lt {l : List Nat} {i : Nat} (h : i < l.length) : l.getD i 0 = l[i] := by rw [List.getD_eq_getElem?_getD, List.getElem?_eq_getElem h]; rfl
theorem getD_set {l : List Nat} {i j v : Nat} (h : i < l.length) : (l.set i v).getD j 0 = if j = i then v else l.getD j 0 := by
  rw [List.getD_eq_getElem?_getD, List.getElem?_set]
  by_cases e : i = j
  · subst e; simp [h]
  · rw [if_neg e, if_neg (Ne.symm e), List.getD_eq_getElem?_getD]
theorem swap_getD {l : List Nat} {i j k : Nat} (hi : i < l.length) (hj : j < l.length) : (swapL l i j).getD k 0 = if k = j then l.getD i 0 else if k = i then l.getD j 0 else l.getD k 0 := by
  unfold swapL
  rw [getD_set (by simpa using hj), getD_set hi]
theorem ext_getD {l m : List Nat} (hl : l.length = m.length) (h : ∀ i, i < l.length → l.getD i 0 = m.getD i 0) : l = m := by
  apply List.ext_getElem hl
  intro i h1 h2
  have := h i h1
  rwa [getD_lt h1, getD_lt h2] at this
theorem nodup_getD {l : List Nat} : l.Nodup ↔ ∀ i j, i < l.length → j < l.length → l.getD i 0 = l.getD j 0 → i = j := by
  constructor
  · intro h i j hi hj e
    rw [getD_lt hi, getD_lt hj] at e
    exact (List.getElem_inj h).mp e
  · intro h
    rw [List.nodup_iff_pairwise_ne, List.pairwise_iff_getElem]
    intro i j hi hj hij e
    have := h i j hi hj (by rw [getD_lt hi, getD_lt hj]; exact e)
    omega
theorem mem_getD {l : List Nat} {x : Nat} : x ∈ l ↔ ∃ i, i < l.length ∧ l.getD i 0 = x := by
  constructor
  · intro h
    obtain ⟨i, hi, e⟩ := List.getElem_of_mem h
    exact ⟨i, hi, by rw [getD_lt hi]; exact e⟩
  · rintro ⟨i, hi, e⟩
    rw [getD_lt hi] at e
    rw [← e]; exact List.getElem_mem hi
theorem swap_mem {l : List Nat} {i j x : Nat} (hi : i < l.length) (hj : j < l.length) : x ∈ swapL l i j ↔ x ∈ l := by
  rw [mem_getD, mem_getD, swap_len]
  constructor
  · rintro ⟨k, hk, e⟩
    rw [swap_getD hi hj] at e
    by_cases e1 : k = j
    · rw [if_pos e1] at e; exact ⟨i, hi, e⟩
    · rw [if_neg e1] at e
      by_cases e2 : k = i
      · rw [if_pos e2] at e; exact ⟨j, hj, e⟩
      · rw [if_neg e2] at e; exact ⟨k, hk, e⟩
  · rintro ⟨k, hk, e⟩
    by_cases e1 : k = j
    · refine ⟨i, hi, ?_⟩
      rw [swap_getD hi hj, if_pos rfl]
      by_cases e3 : i = j
      · rw [if_pos e3, e3, ← e1, e]
      · rw [if_neg e3, ← e1, e]
    · by_cases e2 : k = i
      · exact ⟨j, hj, by rw [swap_getD hi hj, if_pos rfl, ← e2, e]⟩
      · exact ⟨k, hk, by rw [swap_getD hi hj, if_neg e1, if_neg e2, e]⟩
theorem swap_nodup {l : List Nat} {i j : Nat} (hi : i < l.length) (hj : j < l.length) (h : l.Nodup) : (swapL l i j).Nodup := by
  rw [nodup_getD] at h ⊢
  rw [swap_len]
  intro a b ha hb e
  have pi : ∀ k, (swapL l i j).getD k 0 = l.getD (if k = j then i else if k = i then j else k) 0 := fun k => by
    rw [swap_getD hi hj]; split <;> first | rfl | (split <;> rfl)
  rw [pi, pi] at e
  have lt : ∀ k, k < l.length → (if k = j then i else if k = i then j else k) < l.length := fun k hk => by split <;> first | assumption | (split <;> assumption)
  have q := h _ _ (lt a ha) (lt b hb) e
  split at q <;> split at q <;> first | omega | (split at q <;> first | omega | (split at q <;> omega))
theorem OrdOk.swap {n : Nat} {o : List Nat} {i j : Nat} (h : OrdOk n o) (hi : i < n) (hj : j < n) : OrdOk n (swapL o i j) :=
  have hi' : i < o.length := by rw [h.len]; exact hi
  have hj' : j < o.length := by rw [h.len]; exact hj
  ⟨by rw [swap_len]; exact h.len, swap_nodup hi' hj' h.nd, fun x hx => h.lt x ((swap_mem hi' hj').mp hx)⟩
theorem nodup_lt_len : ∀ (m : Nat) (l : List Nat), l.Nodup → (∀ x, x ∈ l → x < m) → l.length ≤ m
  | 0, l, _, h => by
    cases l with
    | nil => exact Nat.le_refl _
    | cons x l => exact absurd (h x List.mem_cons_self) (Nat.not_lt_zero _)
  | m + 1, l, hn, h => by
    by_cases hm : m ∈ l
    · have e := List.length_erase_of_mem hm
      have ih := nodup_lt_len m (l.erase m) (hn.erase m) fun x hx => by
        have q := hn.mem_erase_iff.mp hx
        have := h x q.2
        have := q.1
        omega
      omega
    · have ih := nodup_lt_len m l hn fun x hx => by
        have := h x hx
        have : x ≠ m := fun z => hm (z ▸ hx)
        omega
      omega
end

section
variable {K : PySem.W.Frag} {vs : List V} {G : Hp} {M : Mem} {R : KR} {Z : KX}
theorem asg_C {lo c v : Int} {n i : Nat} {g : KG} {σ : St} {R : St → Hp → Mem → Prop} (e : lo + (i : Nat) * c = v) (q : g.val (.int v) σ G M R) : asg g ((srcC lo c n).get i) σ G M R := by subst e; exact q
theorem asg_R {lo v : Int} {n i : Nat} {g : KG} {σ : St} {R : St → Hp → Mem → Prop} (e : lo + (i : Nat) = v) (q : g.val (.int v) σ G M R) : asg g ((srcR lo n).get i) σ G M R := by subst e; exact q
theorem atI_natD {l : List Nat} {i : Nat} (h : i < l.length) : atI (natsV l) (i : Int) = some (.int (l.getD i 0 : Nat)) := atI_nats (by rw [getD_lt h, List.getElem?_eq_getElem h])
theorem ixN_nat {n i : Nat} (h : i < n) : ixN n (i : Int) = some i := by rw [ixN_int (by omega) (by omega)]; rfl
theorem natsV_set {l : List Nat} {i v : Nat} : (natsV l).set i (.int (v : Int)) = natsV (l.set i v) := by unfold natsV; rw [List.map_set]
theorem tyk_cons {x : V} {T : PT} {y : Addr × HO} (h : TyK K G M x T) : TyK K G (y :: M) x T := fun H hv => h H (Wk.drop0 H hv)
theorem ints_ty {l : List Nat} : ItemsTy K G M (natsV l) := fun x hx => by
  obtain ⟨n, _, rfl⟩ := List.mem_map.mp hx
  exact ⟨.int, ty_int, rfl⟩
theorem rep_zeros (n : Nat) : (List.replicate n [V.int 0]).flatten = natsV (List.replicate n 0) := by
  induction n with
  | zero => rfl
  | succ n ih => rw [List.replicate_succ, List.flatten_cons, ih]; rfl
end

section
variable {K : PySem.W.Frag} {vs : List V} {G : Hp} {M : Mem} {R : KR} {Z : KX}
theorem Fr.keys {M M' : Mem} {p : Addr} (h : Fr G M p) (e : M'.map (·.1) = M.map (·.1) := by rfl) : Fr G M' p := ⟨h.1, fun x hx z => by
  have : x.1 ∈ M'.map (·.1) := List.mem_map.mpr ⟨x, hx, rfl⟩
  rw [e] at this
  obtain ⟨y, hy, ey⟩ := List.mem_map.mp this
  exact h.2 y hy (ey.trans z)⟩
/-! ### cells that were just laid, frozen together -/
inductive Frs (G : Hp) (M : Mem) : Mem → Prop
  | nil : Frs G M []
  | cons {p : Addr} {o : HO} {Mx : Mem} : Fr G (Mx ++ M) p → Frs G M Mx → Frs G M ((p, o) :: Mx)
theorem Frs.key {Mx : Mem} (h : Frs G M Mx) : ∀ x, x ∈ Mx → G x.1 = none ∧ ∀ y, y ∈ M → y.1 ≠ x.1 := by
  induction h with
  | nil => intro x hx; cases hx
  | cons f _ ih =>
    intro x hx
    rcases List.mem_cons.mp hx with rfl | hx
    · exact ⟨f.1, fun y hy => f.2 y (List.mem_append.mpr (.inr hy))⟩
    · exact ih x hx
theorem Frs.upd {Mx : Mem} {p : Addr} {o : HO} (h : Frs G M Mx) (f : ∀ x, x ∈ Mx → x.1 ≠ p) : Frs (upd G p o) M Mx := by
  induction h with
  | nil => exact .nil
  | cons f1 _ ih => exact .cons ⟨by rw [upd_ne (f _ List.mem_cons_self)]; exact f1.1, f1.2⟩ (ih fun x hx => f x (List.mem_cons_of_mem _ hx))
theorem Frs.more {Mx : Mem} {x : Addr × HO} (h : Frs G M Mx) (f : ∀ y, y ∈ Mx → x.1 ≠ y.1) : Frs G (x :: M) Mx := by
  induction h with
  | nil => exact .nil
  | @cons p o Mx f1 _ ih =>
    refine .cons ⟨f1.1, fun y hy => ?_⟩ (ih fun y hy => f y (List.mem_cons_of_mem _ hy))
    rcases List.mem_append.mp hy with hy | hy
    · exact f1.2 y (List.mem_append.mpr (.inl hy))
    · rcases List.mem_cons.mp hy with rfl | hy
      · exact f _ List.mem_cons_self
      · exact f1.2 y (List.mem_append.mpr (.inr hy))
/-! ### things whose type is known -/
theorem ty_ex {G' : Hp} {x : V} {T : PT} (e : Ex G G') (h : ∀ M, TyK K G M x T) : ∀ M, TyK K G' M x T := fun M H hv => h M H (Wk.less e H hv)
theorem WOk.ex {G' : Hp} {w : V} (e : Ex G G') (h : WOk K G w) : WOk K G' w := by
  obtain ⟨S, h1, h2⟩ := h
  exact ⟨S, ty_ex e h1, h2⟩
theorem IOk.ex {G' : Hp} {w : V} (e : Ex G G') (h : IOk K G w) : IOk K G' w := by
  obtain ⟨S, h1, h2⟩ := h
  exact ⟨S, ty_ex e h1, h2⟩
/-! ### slices of numbers -/
theorem cut_take {xs : List V} {k : Nat} : cutV xs none (some (k : Int)) = xs.take k := by
  unfold cutV
  rw [HT.sIx_none, HT.sIx_nat, List.drop_zero, Nat.sub_zero]
  rw [Nat.min_def]; split
  · rfl
  · rw [List.take_length, List.take_of_length_le (by omega)]
/-- numbers as data -/
def natsD (l : List Nat) : List PyData := l.map fun (n : Nat) => PyData.int (n : Int)
theorem dp_nats : ∀ (l : List Nat), DpAll K G (natsV l) (natsD l)
  | [] => .nil
  | n :: l => .cons (.int _) (dp_nats l)
theorem shp_nats {n : Nat} (l : List Nat) : Shp (n + 1) (.list (natsD l)) := .list fun d hd => by
  obtain ⟨i, _, rfl⟩ := List.mem_map.mp hd
  exact .int
theorem dat_nats {a : Addr} {l : List Nat} (h : LstAt K G M a (natsV l)) : DatAt K G M (.ref a) (.list (natsD l)) := dat_list h (dats_g (dp_nats l))
/-- something drawn from a written list -/
theorem pick {l : List V} {p : Addr} {n : Nat} {c s : Int} (hn : M[n]? = some (p, pool c s)) (hs : PoolOk s) (h0 : 0 < l.length) (h1 : l.length ≤ 1000)
    (q : ∀ y c' s' d, y ∈ l → PoolOk s' → Fr G M d → R y G ((d, .lst l) :: M.set n (p, pool c' s'))) :
    l.length ≤ sizeLine ∧ ∀ d, Fr G M d → S_law_take K [.ref p, .int (l.length : Int)] G ((d, .lst l) :: M) (fun y G M => kIx K (.ref d) y G M R) E0 := by
  refine ⟨sz (by omega), fun d fd => ⟨p, l.length, n + 1, c, s, rfl, rfl, hn, hs, by omega, ?_, fun r c' s' r0 r1 hs' => ?_⟩⟩
  · have : (l.length : Int) ≤ 1000 := by omega
    have : (1000 : Int) < 2 ^ 200 := by decide
    omega
  · obtain ⟨y, hy, hm⟩ := at_mem (l := l) r0 r1
    exact ⟨l, y, lst_n (n := 0) rfl, hy, q y c' s' d hm hs' fd⟩
end

section
variable {K : PySem.W.Frag} {vs : List V} {G : Hp} {M : Mem} {R : KR} {Z : KX}
theorem pf_law_whole (h : S_law_whole K vs G M R Z) : rd_law_whole K (ends R Z) (sta 1 vs) G M := by
  obtain ⟨x, rfl, T, hT, q⟩ := sp1_of h
  refine ⟨G, M, Wk.refl, .type T.name, .type "int", _, .ty "int", hT, kit_pt T .int, ite2' (fun e => ?_) (fun e => ?_)⟩
  · refine ⟨.type T.name, .type "bool", _, .ty "bool", hT, kit_pt T .bool, ret0 ?_⟩
    have e2 : (!isaB T .bool) = (T == .int) := by revert e; cases T <;> decide
    rw [e2]; exact q
  · have e2 : false = (T == .int) := by revert e; cases T <;> decide
    refine ret0 ?_
    rw [e2]; exact q
end

section
end

section
variable {K : PySem.W.Frag} {vs : List V} {G : Hp} {M : Mem} {R : KR} {Z : KX}
theorem p2 (n : Nat) (a : Int) : a * 2 ^ (n : Int).toNat = a * ((2 ^ n : Nat) : Int) := by simp
theorem high_uniq : ∀ m, m < 33 → ∀ h, h < 7 → (∀ j, j < h → 2 ^ j < m) → ¬ 2 ^ h < m → highN m = h := by decide +kernel
theorem pow_lt6 : ∀ m, m < 33 → ∀ h, h < 7 → 2 ^ h < m → h < 6 := by decide +kernel
theorem high_le : ∀ m, m < 33 → highN m ≤ 5 := by decide +kernel
theorem side_uniq : ∀ m, m < 33 → ∀ h, h < 8 → (1 ≤ h ∧ ∀ j, j < h → j * j < m) → ¬ h * h < m → 1 ≤ m → sideN m = h := by decide +kernel
theorem sq_lt7 : ∀ m, m < 33 → ∀ h, h < 8 → h * h < m → h < 6 := by decide +kernel
theorem side_ok : ∀ m, m < 33 → 1 ≤ m → 1 ≤ sideN m ∧ sideN m ≤ 6 := by decide +kernel
theorem headF6 (q : Nat → Bool) (h : Nat) (hh : h < 6) (a : ∀ j, j < h → q j = false) (b : q h = true) : ((List.range 6).filter q).headD 0 = h := by
  show (List.filter q [0, 1, 2, 3, 4, 5]).headD 0 = h
  have n : ∀ j, j < h → ¬ q j = true := fun j hj => by rw [a j hj]; exact Bool.false_ne_true
  rcases (by omega : h = 0 ∨ h = 1 ∨ h = 2 ∨ h = 3 ∨ h = 4 ∨ h = 5) with rfl | rfl | rfl | rfl | rfl | rfl
  · rw [List.filter_cons_of_pos b]; rfl
  · rw [List.filter_cons_of_neg (n 0 (by omega)), List.filter_cons_of_pos b]; rfl
  · rw [List.filter_cons_of_neg (n 0 (by omega)), List.filter_cons_of_neg (n 1 (by omega)), List.filter_cons_of_pos b]; rfl
  · rw [List.filter_cons_of_neg (n 0 (by omega)), List.filter_cons_of_neg (n 1 (by omega)), List.filter_cons_of_neg (n 2 (by omega)), List.filter_cons_of_pos b]; rfl
  · rw [List.filter_cons_of_neg (n 0 (by omega)), List.filter_cons_of_neg (n 1 (by omega)), List.filter_cons_of_neg (n 2 (by omega)), List.filter_cons_of_neg (n 3 (by omega)), List.filter_cons_of_pos b]; rfl
  · rw [List.filter_cons_of_neg (n 0 (by omega)), List.filter_cons_of_neg (n 1 (by omega)), List.filter_cons_of_neg (n 2 (by omega)), List.filter_cons_of_neg (n 3 (by omega)), List.filter_cons_of_neg (n 4 (by omega)), List.filter_cons_of_pos b]; rfl
theorem stair_uniq (m : Nat) (hm : m < 33) (p : Nat) (hp : p < 31) (h : Nat) (hh : h < 6) (h1 : h ≤ lastN m) (h2 : ∀ j, j < h → j < lastN m ∧ p % (2 * 2 ^ j) = 0) (h3 : ¬ (h < lastN m ∧ p % (2 * 2 ^ h) = 0)) : stairN m p = h := by
  refine headF6 _ h hh (fun j hj => ?_) ?_
  · obtain ⟨x, y⟩ := h2 j hj
    have x' : ¬ j = lastN m := by omega
    have y' : ¬ p % (2 * 2 ^ j) ≠ 0 := fun z => z y
    show (decide (j = lastN m) || decide (p % (2 * 2 ^ j) ≠ 0)) = false
    rw [decide_eq_false x', decide_eq_false y']; rfl
  · show (decide (h = lastN m) || decide (p % (2 * 2 ^ h) ≠ 0)) = true
    by_cases e : h = lastN m
    · rw [decide_eq_true e]; rfl
    · have y' : p % (2 * 2 ^ h) ≠ 0 := fun z => h3 ⟨by omega, z⟩
      rw [decide_eq_true y', Bool.or_true]
theorem last_le : ∀ m, m < 33 → lastN m ≤ 4 := by decide +kernel
theorem sq0 {m j : Nat} (h : 1 ≤ m) (z : j < 1) : j * j < m := by
  have e : j = 0 := by omega
  rw [e]; omega
theorem pf_high_of (h : S_high_of K vs G M R Z) : rd_high_of K (ends R Z) (sta 2 vs) G M := by
  obtain ⟨_, rfl, m, ⟨rfl, m0, m1⟩, q⟩ := sp1_of h
  refine ⟨G, M, Wk.refl, G, M, Wk.refl, fun k σ G' M' => ∃ h : Nat, k = 7 - h ∧ h ≤ 6 ∧ σ = [some (.int m), some (.int (h : Nat))] ∧ G' = G ∧ M' = M ∧ ∀ j, j < h → 2 ^ j < m, ⟨7, 0, rfl, by decide, rfl, rfl, rfl, fun _ z => absurd z (Nat.not_lt_zero _)⟩, ?_⟩
  clear h
  rintro k σ G' M' ⟨h, rfl, h6, rfl, rfl, rfl, hj⟩
  refine ⟨⟨by omega, by omega, by decide⟩, ?_⟩
  refine ite2' (c := decide ((1 : Int) * 2 ^ (h : Int).toNat < (m : Int))) (fun e => ?_) (fun e => ?_)
  · have e := of_decide_eq_true e
    rw [p2, Int.one_mul] at e
    have e : 2 ^ h < m := by omega
    have := pow_lt6 m (by omega) h (by omega) e
    refine ⟨_, _, Wk.refl, 7 - (h + 1), by omega, _, _, Wk.refl, h + 1, rfl, by omega, rfl, rfl, rfl, fun j hj2 => ?_⟩
    by_cases z : j = h
    · rw [z]; exact e
    · exact hj j (by omega)
  · have e := of_decide_eq_false e
    rw [p2, Int.one_mul] at e
    have e : ¬ 2 ^ h < m := by omega
    refine ⟨_, _, Wk.refl, ret0 ?_⟩
    rw [high_uniq m (by omega) h (by omega) hj e] at q
    exact q
theorem pf_last_of (h : S_last_of K vs G M R Z) : rd_last_of K (ends R Z) (sta 1 vs) G M := by
  obtain ⟨_, rfl, m, ⟨rfl, m0, m1⟩, q⟩ := sp1_of h
  refine ⟨G, M, Wk.refl, m, ⟨rfl, m0, m1⟩, ret0 ?_⟩
  have e : max (0 : Int) ((highN m : Int) - 1) = (lastN m : Int) := by unfold lastN; omega
  show R (.int (max (0 : Int) ((highN m : Int) - 1))) G M
  rw [e]; exact q
theorem pf_side_of (h : S_side_of K vs G M R Z) : rd_side_of K (ends R Z) (sta 2 vs) G M := by
  obtain ⟨_, rfl, m, ⟨rfl, m0, m1⟩, q⟩ := sp1_of h
  refine ⟨G, M, Wk.refl, G, M, Wk.refl, fun k σ G' M' => ∃ h : Nat, k = 8 - h ∧ 1 ≤ h ∧ h ≤ 7 ∧ σ = [some (.int m), some (.int (h : Nat))] ∧ G' = G ∧ M' = M ∧ ∀ j, j < h → j * j < m, ⟨7, 1, rfl, by decide, by decide, rfl, rfl, rfl, fun j z => sq0 m0 z⟩, ?_⟩
  clear h
  rintro k σ G' M' ⟨h, rfl, h1, h7, rfl, rfl, rfl, hj⟩
  refine ⟨mul_l (by omega) (by omega), ?_⟩
  refine ite2' (c := decide ((h : Int) * (h : Int) < (m : Int))) (fun e => ?_) (fun e => ?_)
  · have e := of_decide_eq_true e
    have e : h * h < m := by rw [← Int.natCast_mul] at e; omega
    have := sq_lt7 m (by omega) h (by omega) e
    refine ⟨_, _, Wk.refl, 8 - (h + 1), by omega, _, _, Wk.refl, h + 1, rfl, by omega, by omega, rfl, rfl, rfl, fun j hj2 => ?_⟩
    by_cases z : j = h
    · rw [z]; exact e
    · exact hj j (by omega)
  · have e := of_decide_eq_false e
    have e : ¬ h * h < m := by rw [← Int.natCast_mul] at e; omega
    refine ⟨_, _, Wk.refl, ret0 ?_⟩
    rw [side_uniq m (by omega) h (by omega) ⟨h1, hj⟩ e m0] at q
    exact q
theorem pf_stair_of (h : S_stair_of K vs G M R Z) : rd_stair_of K (ends R Z) (sta 3 vs) G M := by
  obtain ⟨_, _, rfl, m, p, ⟨rfl, m0, m1⟩, ⟨rfl, p0, p1⟩, q⟩ := sp2_of h
  have hL := last_le m (by omega)
  refine ⟨G, M, Wk.refl, G, M, Wk.refl, fun k σ G' M' => ∃ h : Nat, k = 7 - h ∧ h ≤ lastN m ∧ σ = [some (.int m), some (.int p), some (.int (h : Nat))] ∧ G' = G ∧ M' = M ∧ ∀ j, j < h → j < lastN m ∧ p % (2 * 2 ^ j) = 0, ⟨7, 0, rfl, by omega, rfl, rfl, rfl, fun _ z => absurd z (Nat.not_lt_zero _)⟩, ?_⟩
  clear h
  rintro k σ G' M' ⟨h, rfl, h6, rfl, rfl, rfl, hj⟩
  have stop : ¬ (h < lastN m ∧ p % (2 * 2 ^ h) = 0) → rd_stair_of_2 K (ends R Z) [some (.int m), some (.int p), some (.int (h : Nat))] G' M' := fun e => by
    refine ⟨_, _, Wk.refl, ret0 ?_⟩
    rw [stair_uniq m (by omega) p (by omega) h (by omega) h6 hj e] at q
    exact q
  refine ⟨m, ⟨rfl, m0, m1⟩, ?_⟩
  refine ite2' (c := decide ((h : Int) < (lastN m : Int))) (fun e => ?_) (fun e => ?_)
  · have e := of_decide_eq_true e
    have pp : 0 < 2 ^ h := Nat.pow_pos (by decide)
    refine ⟨⟨by omega, by omega, by decide⟩, (by show (0 : Int) < 2 * 2 ^ (h : Int).toNat; rw [p2]; omega), ?_⟩
    have em : (p : Int) % (2 * 2 ^ (h : Int).toNat) = ((p % (2 * 2 ^ h) : Nat) : Int) := by rw [p2]; simp
    refine ite2' (c := decide (V.int ((p : Int) % (2 * 2 ^ (h : Int).toNat)) = .int 0)) (fun e2 => ?_) (fun e2 => ?_)
    · have e2 := V.int.inj (of_decide_eq_true e2)
      rw [em] at e2
      have e2 : p % (2 * 2 ^ h) = 0 := by omega
      refine ⟨_, _, Wk.refl, 7 - (h + 1), by omega, _, _, Wk.refl, h + 1, rfl, by omega, rfl, rfl, rfl, fun j hj2 => ?_⟩
      by_cases z : j = h
      · rw [z]; exact ⟨by omega, e2⟩
      · exact hj j (by omega)
    · have e2 := of_decide_eq_false e2
      rw [em] at e2
      exact stop fun ⟨_, z⟩ => e2 (by rw [z]; rfl)
  · have e := of_decide_eq_false e
    exact stop fun ⟨z, _⟩ => by omega
theorem pf_slots_of (h : S_slots_of K vs G M R Z) : rd_slots_of K (ends R Z) (sta 3 vs) G M := by
  obtain ⟨_, _, rfl, m, st, ⟨rfl, m0, m1⟩, ⟨rfl, s0, s1⟩, q⟩ := sp2_of h
  refine ⟨G, M, Wk.refl, ⟨by omega, by omega, by decide⟩, ?_⟩
  have es : (2 : Int) * 2 ^ (st : Int).toNat = ((2 * 2 ^ st : Nat) : Int) := by rw [p2]; simp
  show rd_slots_of_1 K (ends R Z) [some (.int m), some (.int st), some (.int ((2 : Int) * 2 ^ (st : Int).toNat))] G M
  rw [es]
  refine ⟨G, M, Wk.refl, m, ⟨rfl, m0, m1⟩, ?_⟩
  refine ite2' (c := decide (V.int (st : Int) = .int (lastN m : Int))) (fun e => ?_) (fun e => ?_)
  · have e := V.int.inj (of_decide_eq_true e)
    have e : st = lastN m := by omega
    refine ⟨G, M, Wk.refl, sz2, fun t ft => ret0 ?_⟩
    refine q t _ (Ex.new ft) ?_
    unfold slotA; rw [if_pos e]; exact sqt_new
  · have e := of_decide_eq_false e
    have e : ¬ st = lastN m := fun z => e (by rw [z])
    refine ⟨G, M, Wk.refl, sz2, fun t ft => ret0 ?_⟩
    refine q t _ (Ex.new ft) ?_
    unfold slotA; rw [if_neg e]; exact sqt_new
theorem pf_look_at_many (h : S_look_at_many K vs G M R Z) : rd_look_at_many K (ends R Z) (sta 1 vs) G M := by
  obtain ⟨x, rfl, T, hT, hi, q, z⟩ := sp1_of h
  refine ⟨G, M, Wk.refl, T, 1, 32, rfl, rfl, hT, hi, ?_⟩
  refine ite2' (c := !withinV x 1 32) (fun e => ?_) (fun e => ?_)
  · exact ⟨G, M, Wk.refl, G, M, Wk.refl, z (by simpa using e)⟩
  · exact ret0 (q (by simpa using e))
theorem pf_look_at_sizes (h : S_look_at_sizes K vs G M R Z) : rd_look_at_sizes K (ends R Z) (sta 2 vs) G M := by
  obtain ⟨x, y, rfl, T, U, hT, hi, hU, hu, q, z⟩ := sp2_of h
  refine ⟨G, M, Wk.refl, T, hT, hi, fun e => ?_, fun e => ?_⟩
  · rw [e] at q z
    refine ⟨G, M, Wk.refl, U, 0, 60, rfl, rfl, hU, hu, ?_⟩
    refine ite2' (c := !withinV y 0 60) (fun e => ?_) (fun e => ?_)
    · exact ⟨G, M, Wk.refl, G, M, Wk.refl, z (by simpa using e)⟩
    · exact ret0 (q (by simpa using e))
  · rw [e] at z
    exact ⟨G, M, Wk.refl, z rfl⟩
end

section
variable {K : PySem.W.Frag} {vs : List V} {G : Hp} {M : Mem} {R : KR} {Z : KX}
theorem rep_snoc {α : Type} (n : Nat) (a : α) : List.replicate (n + 1) a = List.replicate n a ++ [a] := List.replicate_succ'
theorem map_rep {α β : Type} (f : α → β) (n : Nat) (a : α) : (List.replicate n a).map f = List.replicate n (f a) := List.map_replicate
theorem pf_spare_needs (h : S_spare_needs K vs G M R Z) : rd_spare_needs K (ends R Z) (sta 4 vs) G M := by
  obtain ⟨_, _, rfl, m, n, ⟨rfl, m0, m1⟩, ⟨rfl, n0, n1⟩, q⟩ := sp2_of h
  obtain ⟨s0, s1⟩ := side_ok m (by omega) m0
  refine ⟨G, M, Wk.refl, m, ⟨rfl, m0, m1⟩, ?_⟩
  have hr := rg_up (i := 0) (j := (n : Int)) (c := (sideN m : Int)) (by omega) (by omega) (by omega) (by omega) (by omega) (by omega)
  have en : (if (0 : Int) < (n : Int) then (((n : Int) - 0 - 1) / (sideN m : Int) + 1).toNat else 0) = (n + sideN m - 1) / sideN m := by
    by_cases z : 0 < n
    · rw [if_pos (by omega)]
      have e1 : n + sideN m - 1 = (n - 1) + sideN m := by omega
      rw [e1, Nat.add_div_right _ (by omega)]
      have e2 : (n : Int) - 0 - 1 = ((n - 1 : Nat) : Int) := by omega
      rw [e2, ← Int.natCast_ediv]
      generalize (n - 1) / sideN m = z
      omega
    · rw [if_neg (by omega)]
      have : n = 0 := by omega
      subst this
      rw [Nat.zero_add, Nat.div_eq_of_lt (by omega)]
  rw [en] at hr
  have hb : (n + sideN m - 1) / sideN m ≤ n + sideN m := Nat.le_trans (Nat.div_le_self _ _) (by omega)
  refine ⟨G, M, Wk.refl, _, hr, sz (by show (n + sideN m - 1) / sideN m ≤ _; omega), fun i acc G' M' => Ex G G' ∧ M' = M ∧ DpAll K G' acc (List.replicate i (knD ⟨false, m + sideN m⟩)), ⟨Ex.refl, rfl, .nil⟩, fun _ _ _ _ _ _ => trivial, ?_, ?_⟩
  · rintro i acc G' M' D hi hacc ⟨ex, rfl, hd⟩ fD
    refine ⟨rfl, sz2, fun t ft => ⟨_, _, Wk.refl, ex.trans (Ex.new ft), rfl, ?_⟩⟩
    rw [rep_snoc]
    exact dpall_snoc (ex_ds (Ex.new ft) _ hd) (dp_kn (k := ⟨false, m + sideN m⟩) sqt_new)
  · rintro acc G' M' w ⟨ex, rfl, hd⟩ hacc fw
    refine ret0 (q w acc G' ex fw ?_)
    unfold spareK; rw [map_rep]; exact hd
theorem stairN_le : ((List.range 33).all fun m => (List.range 31).all fun p => decide (stairN m p ≤ 5)) = true := by decide +kernel
theorem stair_le {m p : Nat} (hm : m < 33) (hp : p < 31) : stairN m p ≤ 5 := of_decide_eq_true (List.all_eq_true.mp (List.all_eq_true.mp stairN_le m (List.mem_range.mpr hm)) p (List.mem_range.mpr hp))
theorem range_map_snoc {α : Type} (f : Nat → α) (i : Nat) : (List.range (i + 1)).map f = (List.range i).map f ++ [f i] := by rw [List.range_succ, List.map_append]; rfl
theorem pf_stairs_needs (h : S_stairs_needs K vs G M R Z) : rd_stairs_needs K (ends R Z) (sta 5 vs) G M := by
  obtain ⟨_, _, rfl, m, n, ⟨rfl, m0, m1⟩, ⟨rfl, n0, n1⟩, q⟩ := sp2_of h
  have hL := last_le m (by omega)
  refine ⟨G, M, Wk.refl, ite2' (c := decide (V.int (n : Int) = .int 0)) (fun e => ?_) (fun e => ?_)⟩
  · have e := V.int.inj (of_decide_eq_true e)
    have e : n = 0 := by omega
    refine ⟨G, M, Wk.refl, sz0, fun t ft => ret0 (q t [] G Ex.refl ft ?_)⟩
    unfold stairsK; rw [if_pos e]; exact .nil
  have e := of_decide_eq_false e
  have hn : ¬ n = 0 := fun z => e (by rw [z]; rfl)
  refine ⟨G, M, Wk.refl, m, ⟨rfl, m0, m1⟩, sz1, fun a fa => ⟨divW (by decide) (by decide) _, ⟨by omega, by omega⟩, ?_⟩⟩
  have ed : ((n : Int) + 1) / 2 = (((n + 1) / 2 : Nat) : Int) := by omega
  have er : (((n : Int) + 1) / 2 - 1).toNat = (n + 1) / 2 - 1 := by omega
  refine ⟨sz (by show (((n : Int) + 1) / 2 - 1).toNat ≤ _; omega), fun i acc G' M' => G' = G ∧ M' = (a, .lst [.int (lastN m)]) :: M ∧ acc = natsV ((List.range i).map fun i => stairN m (i + 1)), ⟨rfl, rfl, rfl⟩, fun _ _ _ _ _ _ => trivial, ?_, ?_⟩
  · rintro i acc G' M' D hi hacc ⟨rfl, rfl, rfl⟩ fD
    have hi : i < (((n : Int) + 1) / 2 - 1).toNat := hi
    refine ⟨rfl, m, i + 1, ⟨rfl, m0, m1⟩, ⟨by show V.int (1 + (i : Int)) = .int ((i + 1 : Nat) : Int); congr 1; omega, by omega, by omega⟩, _, _, Wk.refl, rfl, rfl, ?_⟩
    rw [range_map_snoc]; unfold natsV; rw [List.map_append]; rfl
  rintro acc G' M' b ⟨rfl, rfl, rfl⟩ hacc fb
  refine ⟨_, _, .inl (List.mem_cons_of_mem _ List.mem_cons_self), .inl List.mem_cons_self, sz (by rw [natsV_len, List.length_map, List.length_range]; show 1 + (((n : Int) + 1) / 2 - 1).toNat ≤ _; omega), fun c fc => ?_⟩
  have el : [V.int (lastN m : Int)] ++ natsV ((List.range (((n : Int) + 1) / 2 - 1).toNat).map fun i => stairN m (i + 1)) = natsV (stairL m n) := by
    rw [er]; rfl
  have hst : ∀ s, s ∈ stairL m n → s ≤ 5 := fun s hs => by
    rcases List.mem_cons.mp hs with rfl | hs
    · omega
    · obtain ⟨j, hj, rfl⟩ := List.mem_map.mp hs
      have := List.mem_range.mp hj
      exact stair_le (by omega) (by omega)
  have hlen : (stairL m n).length ≤ 40 := by unfold stairL; simp; omega
  refine ⟨G', (c, .lst (natsV (stairL m n))) :: M, ?_, natsV (stairL m n), lat_0, sz (by show (natsV (stairL m n)).length ≤ _; rw [natsV_len]; omega), fun i acc G2 M2 => Ex G' G2 ∧ M2 = (c, .lst (natsV (stairL m n))) :: M ∧ DpAll K G2 acc ((((stairL m n).take i).map fun st => (⟨false, slotA m st + 2 * 2 ^ st⟩ : Kn)).map knD), ⟨Ex.refl, rfl, .nil⟩, ?_, ?_, ?_⟩
  · rw [← el]
    exact Wk.drop1.trans Wk.drop1
  · rintro i acc G2 M2 hi ⟨ex, rfl, hd⟩; exact lat_0
  · rintro i acc G2 M2 D hi hacc ⟨ex, rfl, hd⟩ fD
    have hi : i < (natsV (stairL m n)).length := hi
    rw [natsV_len] at hi
    obtain ⟨s, hs⟩ : ∃ s, (stairL m n)[i]? = some s := ⟨_, List.getElem?_eq_getElem hi⟩
    have hs5 := hst s (List.mem_of_getElem? hs)
    refine asg_L (natsV_get hs) ⟨rfl, m, s, ⟨rfl, m0, m1⟩, ⟨rfl, by omega, by omega⟩, fun t G3 x3 ht => ?_⟩
    refine ⟨[(slotA m s : Int), ((2 * 2 ^ s : Nat) : Int)], .inr ht, sz2, fun t2 ft2 => ⟨_, _, Wk.refl, (ex.trans x3).trans (Ex.new ft2), rfl, ?_⟩⟩
    rw [take_succ' hs, List.map_append, List.map_append]
    refine dpall_snoc (ex_ds (x3.trans (Ex.new ft2)) _ hd) (dp_kn (k := ⟨false, slotA m s + 2 * 2 ^ s⟩) ?_)
    have es : [(slotA m s : Int), ((2 * 2 ^ s : Nat) : Int)].sum = ((slotA m s + 2 * 2 ^ s : Nat) : Int) := by simp
    rw [es]; exact sqt_new
  · rintro acc G2 M2 w ⟨ex, rfl, hd⟩ hacc fw
    refine retW Wk.drop1 (q w acc G2 ex fw.cons ?_)
    unfold stairsK; rw [if_neg hn]
    have hd : DpAll K G2 acc ((((stairL m n).take (natsV (stairL m n)).length).map fun st => (⟨false, slotA m st + 2 * 2 ^ st⟩ : Kn)).map knD) := hd
    rw [natsV_len, List.take_length] at hd
    exact hd
theorem pf_grove_needs (h : S_grove_needs K vs G M R Z) : rd_grove_needs K (ends R Z) (sta 4 vs) G M := by
  obtain ⟨_, _, rfl, a, ts, n, rfl, ha, hts, hl, ⟨rfl, n0, n1⟩, q⟩ := sp2_of h
  have id_ : ∀ x, x ∈ M → x ∈ M := fun _ h => h
  refine ⟨G, M, Wk.refl, sz0, fun t ft => ?_⟩
  refine ⟨G, _, Wk.refl, natsV ts, lat_cons ha, fun i σ G' M' => ∃ (t : Addr) (us : List V) (y3 : Option V), σ = [some (.ref a), some (.int n), some (.ref t), y3] ∧ Ex G G' ∧ M' = (t, .lst us) :: M ∧ DpAll K G' us (((ts.take i).flatMap fun m => List.replicate m (⟨true, highN m⟩ : Kn)).map knD) ∧ us.length ≤ 32 * i, ⟨t, [], none, rfl, Ex.refl, rfl, .nil, by simp⟩, ?_, ?_, ?_⟩
  · rintro i σ G' M' hi ⟨t, us, y3, rfl, ex, rfl, hd, hul⟩
    exact lat_cons (ex_lat ex id_ ha)
  · rintro i σ G' M' hi ⟨t, us, y3, rfl, ex, rfl, hd, hul⟩
    have hi : i < (natsV ts).length := hi
    rw [natsV_len] at hi
    obtain ⟨m, hm⟩ : ∃ m, ts[i]? = some m := ⟨_, List.getElem?_eq_getElem hi⟩
    obtain ⟨m0, m1⟩ := hts m (List.mem_of_getElem? hm)
    refine asg_L (natsV_get hm) ⟨_, _, Wk.refl, m, ⟨rfl, m0, m1⟩, sz2, fun T fT => ⟨sz1, fun b fb => ⟨_, .inl List.mem_cons_self, by omega, by omega, sz (by show 1 * (m : Int).toNat ≤ _; omega), fun c fc => ?_⟩⟩⟩
    have efl : (List.replicate (m : Int).toNat [V.ref T]).flatten = List.replicate m (V.ref T) := by
      rw [Int.toNat_natCast]
      clear fc fb hm m0 m1
      induction m with
      | zero => rfl
      | succ m ih => rw [List.replicate_succ, List.flatten_cons, ih, List.replicate_succ]; rfl
    rw [efl]
    refine ⟨us, _, .inl (List.mem_cons_of_mem _ (List.mem_cons_of_mem _ List.mem_cons_self)), .inl List.mem_cons_self, sz (by rw [List.length_replicate]; omega), fun d fd => ?_⟩
    refine ⟨_, (d, .lst (us ++ List.replicate m (V.ref T))) :: M, Wk.drop1.trans (Wk.drop1.trans Wk.drop1), d, _, _, rfl, ex.trans (Ex.new fT), rfl, ?_, ?_⟩
    · rw [take_succ' hm, List.flatMap_append, List.map_append]
      refine dpall_app2 (ex_ds (Ex.new fT) _ hd) ?_
      rw [List.flatMap_cons, List.flatMap_nil, List.append_nil, map_rep]
      exact dpall_rep (dp_kn (k := ⟨true, highN m⟩) sqt_new) m
    · rw [List.length_append, List.length_replicate]; omega
  rintro σ G' M' ⟨t, us, y3, rfl, ex, rfl, hd, hul⟩
  have hd : DpAll K G' us (((ts.take (natsV ts).length).flatMap fun m => List.replicate m (⟨true, highN m⟩ : Kn)).map knD) := hd
  have hul : us.length ≤ 32 * (natsV ts).length := hul
  rw [natsV_len] at hd hul
  rw [List.take_length] at hd
  refine ⟨G', _, Wk.refl, natsV ts, lat_cons (ex_lat ex id_ ha), sz (by show (natsV ts).length ≤ _; rw [natsV_len]; omega), fun i acc G2 M2 => Ex G' G2 ∧ M2 = (t, .lst us) :: M ∧ DpAll K G2 acc (((ts.take i).map fun m => (⟨true, highN m⟩ : Kn)).map knD), ⟨Ex.refl, rfl, .nil⟩, ?_, ?_, ?_⟩
  · rintro i acc G2 M2 hi ⟨ex2, rfl, hd2⟩
    exact lat_cons (ex_lat (ex.trans ex2) id_ ha)
  · rintro i acc G2 M2 D hi hacc ⟨ex2, rfl, hd2⟩ fD
    have hi : i < (natsV ts).length := hi
    rw [natsV_len] at hi
    obtain ⟨m, hm⟩ : ∃ m, ts[i]? = some m := ⟨_, List.getElem?_eq_getElem hi⟩
    obtain ⟨m0, m1⟩ := hts m (List.mem_of_getElem? hm)
    refine asg_L (natsV_get hm) ⟨rfl, m, ⟨rfl, m0, m1⟩, sz2, fun T fT => ⟨_, _, Wk.refl, ex2.trans (Ex.new fT), rfl, ?_⟩⟩
    rw [take_succ' hm, List.map_append, List.map_append]
    exact dpall_snoc (ex_ds (Ex.new fT) _ hd2) (dp_kn (k := ⟨true, highN m⟩) sqt_new)
  · rintro acc G2 M2 b ⟨ex2, rfl, hd2⟩ hacc fb
    have hd2 : DpAll K G2 acc (((ts.take (natsV ts).length).map fun m => (⟨true, highN m⟩ : Kn)).map knD) := hd2
    rw [natsV_len, List.take_length] at hd2
    have hal : acc.length = ts.length := by rw [dpall_len hd2]; simp
    have hmul : acc.length * n ≤ 3 * 60 := Nat.mul_le_mul (by omega) n1
    have hfl : ((List.replicate n acc).flatten).length = n * acc.length := by simp
    refine ⟨acc, .inl List.mem_cons_self, by omega, by omega, sz (by rw [Int.toNat_natCast]; omega), fun c fc => ?_⟩
    rw [Int.toNat_natCast]
    refine ⟨us, _, .inl (List.mem_cons_of_mem _ (List.mem_cons_of_mem _ List.mem_cons_self)), .inl List.mem_cons_self, sz (by rw [hfl, Nat.mul_comm n]; omega), fun d fd => ?_⟩
    refine retW (Wk.drop1.trans (Wk.drop1.trans Wk.drop1)) (q d _ G2 (ex.trans ex2) fd.cons.cons.cons ?_)
    unfold groveK
    rw [List.map_append]
    refine dpall_app2 (ex_ds ex2 _ hd) ?_
    rw [List.map_flatten, map_rep]
    exact dpall_flat hd2 n
theorem trees_each : ((List.range 33).all fun m => decide (m = 0) || ((treesN m).all fun t => decide (1 ≤ t) && decide (t ≤ 32)) && decide ((treesN m).length ≤ 3)) = true := by decide +kernel
theorem trees_ok {m : Nat} (h0 : 1 ≤ m) (h1 : m ≤ 32) : (∀ t, t ∈ treesN m → 1 ≤ t ∧ t ≤ 32) ∧ (treesN m).length ≤ 3 := by
  have a := List.all_eq_true.mp trees_each m (List.mem_range.mpr (by omega))
  rw [decide_eq_false (show ¬ m = 0 by omega), Bool.false_or, Bool.and_eq_true] at a
  refine ⟨fun t ht => ?_, of_decide_eq_true a.2⟩
  have b := List.all_eq_true.mp a.1 t ht
  rw [Bool.and_eq_true] at b
  exact ⟨of_decide_eq_true b.1, of_decide_eq_true b.2⟩
theorem atI_last {l : List Nat} {v : Nat} : atI (natsV (l ++ [v])) (-1) = some (.int (v : Int)) := by
  have e : natsV (l ++ [v]) = natsV l ++ [V.int (v : Int)] := by unfold natsV; rw [List.map_append]; rfl
  rw [e]
  unfold atI ixN
  rw [List.length_append, if_neg (by decide), if_pos (by simp; omega)]
  have e2 : ((-1 : Int) + ((natsV l).length + [V.int (v : Int)].length : Nat)).toNat = (natsV l).length := by simp; omega
  rw [e2]
  simp
theorem pf_trees_of (h : S_trees_of K vs G M R Z) : rd_trees_of K (ends R Z) (sta 2 vs) G M := by
  obtain ⟨_, rfl, m, ⟨rfl, m0, m1⟩, q⟩ := sp1_of h
  refine ⟨G, M, Wk.refl, sz1, fun t ft => ?_⟩
  refine ⟨G, _, Wk.refl, fun k σ G' M' => ∃ (l : List Nat) (v : Nat), σ = [some (.int m), some (.ref t)] ∧ G' = G ∧ M' = (t, .lst (natsV (l ++ [v]))) :: M ∧ treesN m = l ++ trN k v ∧ v ≤ 4 * 4 ^ k ∧ l.length + k ≤ 3, ⟨3, [], m, rfl, rfl, rfl, rfl, by omega, by simp⟩, ?_⟩
  rintro k σ G' M' ⟨l, v, rfl, rfl, rfl, e, hv, hlk⟩
  refine ⟨natsV (l ++ [v]), _, seq_0, atI_last, ?_⟩
  refine ite2' (c := decide ((4 : Int) < (v : Int))) (fun e1 => ?_) (fun e1 => ?_)
  · have e1 := of_decide_eq_true e1
    cases k with
    | zero => exfalso; rw [Nat.pow_zero] at hv; omega
    | succ k =>
      have et : trN (k + 1) v = v :: trN k ((v + 3) / 4) := by rw [trN, if_pos (by omega)]
      refine ⟨_, _, Wk.refl, tyl_n (n := 0) rfl, natsV (l ++ [v]), _, seq_0, atI_last, divW (by decide) (by decide) _, 0, _, rfl, sz (by rw [natsV_len]; simp; omega), k, by omega, _, _, Wk.refl, l ++ [v], (v + 3) / 4, rfl, rfl, ?_, ?_, ?_, by simp; omega⟩
      · have ev : ((v : Int) + 4 - 1) / 4 = (((v + 3) / 4 : Nat) : Int) := by omega
        show (t, HO.lst (natsV (l ++ [v]) ++ [.int (((v : Int) + 4 - 1) / 4)])) :: M = _
        rw [ev]; unfold natsV; simp only [List.map_append]; rfl
      · rw [e, et, List.append_assoc]; rfl
      · rw [Nat.pow_succ] at hv; omega
  · have e1 := of_decide_eq_false e1
    refine ⟨_, _, Wk.refl, ret0 ?_⟩
    have et : trN k v = [v] := by
      cases k with
      | zero => rfl
      | succ k => rw [trN, if_neg (by omega)]
    rw [← et, ← e]
    exact q t ft
theorem pf_kinds_of (h : S_kinds_of K vs G M R Z) : rd_kinds_of K (ends R Z) (sta 3 vs) G M := by
  obtain ⟨_, _, _, rfl, s, m, n, rfl, hm, hn, q⟩ := sp3_of h
  have inj : ∀ {a b : Str}, decide (V.str a = .str b) = true → a = b := fun e => V.str.inj (of_decide_eq_true e)
  have ninj : ∀ {a b : Str}, decide (V.str a = .str b) = false → ¬ a = b := fun e z => of_decide_eq_false e (by rw [z])
  unfold kindsK at q
  refine ⟨G, M, Wk.refl, ite2' (c := decide (V.str s = .str "spare")) (fun e => ?_) (fun e => ?_)⟩
  · rw [if_pos (inj e)] at q
    exact ⟨G, M, Wk.refl, m, n, hm, hn, fun t us G' ex ft hd => ret0 (q t us G' ex ft hd)⟩
  rw [if_neg (ninj e)] at q
  refine ⟨G, M, Wk.refl, ite2' (c := decide (V.str s = .str "stairs")) (fun e => ?_) (fun e => ?_)⟩
  · rw [if_pos (inj e)] at q
    exact ⟨G, M, Wk.refl, m, n, hm, hn, fun t us G' ex ft hd => ret0 (q t us G' ex ft hd)⟩
  rw [if_neg (ninj e)] at q
  obtain ⟨rfl, m0, m1⟩ := id hm
  refine ⟨G, M, Wk.refl, ite2' (c := decide (V.str s = .str "tree")) (fun e => ?_) (fun e => ?_)⟩
  · rw [if_pos (inj e)] at q
    exact ⟨G, M, Wk.refl, sz1, fun a fa => ⟨a, [m], n, rfl, lat_0, fun t ht => by
      have : t = m := by simpa using ht
      omega, by simp, hn, fun t us G' ex ft hd => retW Wk.drop1 (q t us G' ex ft.cons hd)⟩⟩
  rw [if_neg (ninj e)] at q
  refine ⟨G, M, Wk.refl, ite2' (c := decide (V.str s = .str "grove")) (fun e => ?_) (fun e => ?_)⟩
  · rw [if_pos (inj e)] at q
    obtain ⟨h1, h2⟩ := trees_ok m0 m1
    exact ⟨G, M, Wk.refl, m, hm, fun a fa => ⟨a, treesN m, n, rfl, lat_0, h1, h2, hn, fun t us G' ex ft hd => retW Wk.drop1 (q t us G' ex ft.cons hd)⟩⟩
  rw [if_neg (ninj e)] at q
  exact ⟨G, M, Wk.refl, sz0, fun t ft => ret0 (q t [] G Ex.refl ft .nil)⟩
end

section
variable {K : PySem.W.Frag} {vs : List V} {G : Hp} {M : Mem} {R : KR} {Z : KX}
theorem head_eq {x : V} {s : Str} (hs : PyData.strOk s = true) (h : HeadOk K G M x) (q : R (.bl (decide (x = .str s))) G M) : kEqD K x (.str s) G M R := by
  cases x with
  | ref a =>
    rcases h with ⟨d, h1, h2, h3⟩ | ⟨kvs, h⟩
    · refine .inl ⟨d, .str s, h1, dat_str, h2, (Shp.str (n := 0) hs).shaped (by decide), ?_⟩
      show R (.bl (PyData.eqv d (.str s))) G M
      rw [h3 s]
      rw [decide_eq_false (fun z => by cases z)] at q
      exact q
    · rw [decide_eq_false (fun z => by cases z)] at q
      exact .inr ⟨a, s, kvs, rfl, rfl, .inr h, q⟩
  | non => exact .inl q
  | int i => exact .inl q
  | bl i => exact .inl q
  | str i => exact .inl q
  | _ => exact h.elim
theorem strOk_read : PyData.strOk ("read" : Str) = true := by decide +kernel
theorem strOk_write : PyData.strOk ("write" : Str) = true := by decide +kernel
theorem pf_is_ask (h : S_is_ask K vs G M R Z) : rd_is_ask K (ends R Z) (sta 2 vs) G M := by
  obtain ⟨_, y, rfl, m, b, rfl, hy, q⟩ := sp2_of h
  clear h
  rcases hy with ⟨T, hT, hne, rfl⟩ | ⟨t, xs, rfl, ht, hl, hi, h0, rfl⟩
  · refine ⟨G, M, Wk.refl, .type T.name, .type "tuple", _, .ty "tuple", hT, kit_pt T .tuple, ite2' (c := !isaB T .tuple) (fun _ => ⟨G, M, Wk.refl, ret0 q⟩) (fun e => ?_)⟩
    exfalso; revert e hne; cases T <;> decide
  have hS : SeqAt' K G M t xs := .inr ht
  refine ⟨G, M, Wk.refl, .type PT.tuple.name, .type "tuple", _, .ty "tuple", ty_tup ht, kit_pt .tuple .tuple, ?_⟩
  refine ⟨xs, hS, ite2' (c := decide ((xs.length : Int) < 2)) (fun e => ?_) (fun e => ?_)⟩
  · have e := of_decide_eq_true e
    have e2 : askB m xs = false := by
      match xs, e with
      | [], _ => rfl
      | [_], _ => rfl
      | _ :: _ :: r, e => simp at e; omega
    rw [e2] at q
    exact ⟨G, M, Wk.refl, ret0 q⟩
  have e := of_decide_eq_false e
  obtain ⟨x0, x1, r, hx⟩ : ∃ x0 x1 r, xs = x0 :: x1 :: r := by
    match xs, e with
    | x0 :: x1 :: r, _ => exact ⟨x0, x1, r, rfl⟩
    | [], e => simp at e
    | [_], e => simp at e
  have hh := h0 x0 (by rw [hx]; rfl)
  obtain ⟨T1, hT1, ht1⟩ := hi x1 (by rw [hx]; exact List.mem_cons_of_mem _ List.mem_cons_self)
  refine ⟨xs, x1, hS, atI_nat (j := 1) (by rw [hx]; rfl), T1, 0, m - 1, rfl, rfl, hT1, ht1, ite2' (c := !withinV x1 0 (m - 1)) (fun f => ?_) (fun f => ?_)⟩
  · have f : withinV x1 0 (m - 1) = false := by simpa using f
    have e2 : askB m xs = false := by rw [hx]; show (withinV x1 0 (m - 1) && _) = false; rw [f, Bool.false_and]
    rw [e2] at q
    exact ⟨G, M, Wk.refl, ret0 q⟩
  have f : withinV x1 0 (m - 1) = true := by simpa using f
  refine ⟨G, M, Wk.refl, xs, hS, ite2' (c := decide (V.int (xs.length : Int) = .int 2)) (fun g => ?_) (fun g => ?_)⟩
  · have g := V.int.inj (of_decide_eq_true g)
    have hr : r = [] := List.length_eq_zero_iff.mp (by rw [hx] at g; simp at g; omega)
    have e2 : askB m xs = decide (x0 = .str "read") := by rw [hx, hr]; show (withinV x1 0 (m - 1) && _) = _; rw [f, Bool.true_and]
    rw [e2] at q
    exact ⟨G, M, Wk.refl, xs, x0, hS, atI_nat (j := 0) (by rw [hx]; rfl), head_eq strOk_read hh (ret0 q)⟩
  have g := of_decide_eq_false g
  have hr : r ≠ [] := fun z => g (by rw [hx, z]; rfl)
  refine ⟨G, M, Wk.refl, xs, hS, ite2' (c := decide (V.int (xs.length : Int) = .int 3)) (fun g3 => ?_) (fun g3 => ?_)⟩
  · have g3 := V.int.inj (of_decide_eq_true g3)
    obtain ⟨x2, hr2⟩ : ∃ x2, r = [x2] := by
      rw [hx] at g3
      match r, hr, g3 with
      | [x2], _, _ => exact ⟨x2, rfl⟩
      | [], h, _ => exact absurd rfl h
      | _ :: _ :: _, _, g => simp at g; omega
    have e2 : askB m xs = (decide (x0 = .str "write") && withinV x2 0 999999999999999999) := by rw [hx, hr2]; show (withinV x1 0 (m - 1) && _) = _; rw [f, Bool.true_and]
    rw [e2] at q
    refine ⟨xs, x0, hS, atI_nat (j := 0) (by rw [hx]; rfl), head_eq strOk_write hh ?_⟩
    refine ite2' (c := decide (x0 = .str "write")) (fun c => ?_) (fun c => ?_)
    · rw [c, Bool.true_and] at q
      obtain ⟨T2, hT2, ht2⟩ := hi x2 (by rw [hx, hr2]; simp)
      exact ⟨xs, x2, hS, atI_nat (j := 2) (by rw [hx, hr2]; rfl), T2, 0, 999999999999999999, rfl, rfl, hT2, ht2, ret0 q⟩
    · rw [c, Bool.false_and] at q
      exact ret0 q
  · have g3 := of_decide_eq_false g3
    have e2 : askB m xs = false := by
      rw [hx]
      show (withinV x1 0 (m - 1) && _) = false
      match r, hr with
      | [_], _ => exact absurd (by rw [hx]; rfl) g3
      | _ :: _ :: _, _ => exact Bool.and_false _
    rw [e2] at q
    exact ret0 q
theorem pf_need_ask (h : S_need_ask K vs G M R Z) : rd_need_ask K (ends R Z) (sta 2 vs) G M := by
  obtain ⟨_, y, rfl, m, b, rfl, hy, q1, q2⟩ := sp2_of h
  refine ⟨G, M, Wk.refl, m, b, rfl, hy, ite2' (c := !b) (fun e => ?_) (fun e => ?_)⟩
  · exact ⟨G, M, Wk.refl, G, M, Wk.refl, q2 (by simpa using e)⟩
  · exact ret0 (q1 (by simpa using e))
theorem deed_len (d : Deed) : d.vs.length = 2 ∨ d.vs.length = 3 := by cases d; exact .inl rfl; exact .inr rfl
theorem deed_ask {m : Nat} {d : Deed} (h : DeedOk m d) : askB (m : Int) d.vs = true := by
  cases d with
  | read c =>
    have h1 : c < m := h.1
    show (withinV (.int (c : Int)) 0 ((m : Int) - 1) && _) = true
    rw [wi_in (by omega) (by omega)]; rfl
  | write c w =>
    have h1 : c < m := h.1
    have h2 : w ≤ 999999999999999999 := h.2
    show (withinV (.int (c : Int)) 0 ((m : Int) - 1) && (_ && withinV (.int (w : Int)) 0 999999999999999999)) = true
    rw [wi_in (by omega) (by omega), wi_in (by omega) (by omega)]; rfl
theorem deed_askV {m : Nat} {d : Deed} {y : V} (hd : DeedAt K G y d) (h : DeedOk m d) : AskV K G M m y true := by
  obtain ⟨t, rfl, ht⟩ := hd
  refine .inr ⟨t, d.vs, rfl, ht, by rcases deed_len d with e | e <;> omega, fun x hx => ?_, fun x hx => ?_, (deed_ask h).symm⟩
  · cases d with
    | read c =>
      simp only [Deed.vs, List.mem_cons, List.not_mem_nil, or_false] at hx
      rcases hx with rfl | rfl
      · exact ⟨.str, ty_str, rfl⟩
      · exact ⟨.int, ty_int, rfl⟩
    | write c w =>
      simp only [Deed.vs, List.mem_cons, List.not_mem_nil, or_false] at hx
      rcases hx with rfl | rfl | rfl
      · exact ⟨.str, ty_str, rfl⟩
      · exact ⟨.int, ty_int, rfl⟩
      · exact ⟨.int, ty_int, rfl⟩
  · cases d <;> (cases hx; exact trivial)
theorem DeedAt.ex {G' : Hp} {v : V} {d : Deed} (e : Ex G G') (h : DeedAt K G v d) : DeedAt K G' v d := by
  obtain ⟨t, rfl, h⟩ := h
  exact ⟨t, rfl, ex_t e h⟩
/-- the parts of a deed -/
theorem deed_1 {t : Addr} {d : Deed} (h : SqT K G t d.vs) : SeqAt' K G M t d.vs ∧ atI d.vs 1 = some (.int (d.cell : Int)) := ⟨.inr h, by cases d <;> rfl⟩
end

section
variable {K : PySem.W.Frag} {vs : List V} {G : Hp} {M : Mem} {R : KR} {Z : KX}
theorem NoAskG.ex {G' : Hp} {m : Int} {v : V} (e : Ex G G') (h : NoAskG K G m v) : NoAskG K G' m v := fun G2 M2 e2 => h G2 M2 (e.trans e2)
/-- written things that are asks, or none -/
def withinX (x : XD) (lo hi : Int) : Bool := match x with
  | .int i => withinV (.int i) lo hi
  | _ => false
def strX (x : XD) (s : Str) : Bool := match x with
  | .str t => decide (t = s)
  | _ => false
def askX (m : Int) : XD → Bool
  | .tup (x0 :: x1 :: r) => withinX x1 0 (m - 1) && (match r with
    | [] => strX x0 "read"
    | [x2] => strX x0 "write" && withinX x2 0 999999999999999999
    | _ => false)
  | _ => false
def headX : XD → Bool
  | .tup (x0 :: _) => match x0 with
    | .list l => match XD.toDs l with
      | some es => SeqAt.shaped (.list es)
      | none => false
    | .tup l => match XD.toDs l with
      | some es => SeqAt.shaped (.tuple es)
      | none => false
    | _ => true
  | _ => true
theorem wix_hi {i lo hi : Int} (h : hi < i) : withinX (.int i) lo hi = false := wi_hi h
theorem rp_within {v : V} {d : XD} {lo hi : Int} (h : Rp K G [] v d) : withinV v lo hi = withinX d lo hi := by
  cases h <;> rfl
theorem rp_str {v : V} {d : XD} {s : Str} (h : Rp K G [] v d) : decide (v = .str s) = strX d s := by
  cases h with
  | str t =>
    show decide (V.str t = .str s) = decide (t = s)
    exact decide_eq_decide.mpr ⟨V.str.inj, fun e => by rw [e]⟩
  | _ => exact decide_eq_false (fun z => nomatch z)
theorem rp_ask {vs : List V} {ds : List XD} {m : Int} (h : RpA K G [] vs ds) : askB m vs = askX m (.tup ds) := by
  cases h with
  | nil => rfl
  | cons a b =>
    cases b with
    | nil => rfl
    | cons a1 b =>
      cases b with
      | nil =>
        show (withinV _ 0 (m - 1) && decide (_ = V.str "read")) = (withinX _ 0 (m - 1) && strX _ "read")
        rw [rp_within a1, rp_str a]
      | cons a2 b =>
        cases b with
        | nil =>
          show (withinV _ 0 (m - 1) && (decide (_ = V.str "write") && withinV _ 0 999999999999999999)) = (withinX _ 0 (m - 1) && (strX _ "write" && withinX _ 0 999999999999999999))
          rw [rp_within a1, rp_str a, rp_within a2]
        | cons _ _ =>
          show (withinV _ 0 (m - 1) && false) = (withinX _ 0 (m - 1) && false)
          rw [Bool.and_false, Bool.and_false]
theorem rpa_mem {vs : List V} {ds : List XD} (h : RpA K G [] vs ds) : ∀ x, x ∈ vs → ∃ d, Rp K G [] x d := by
  intro x hx
  obtain ⟨i, hi⟩ := List.getElem?_of_mem hx
  obtain ⟨v, d, h1, h2, h3⟩ := h.get (i := i) (List.getElem?_eq_some_iff.mp hi).1
  rw [hi] at h1; cases h1
  exact ⟨d, h3⟩
theorem rp_int_ty {v : V} {d : XD} (h : Rp K G [] v d) : (d.ty == .int) = isIntV v := by cases h <;> rfl
theorem rp_noask {v : V} {d : XD} {m : Int} (h : Rp K G [] v d) (ha : askX m d = false) (hh : headX d = true) (hlen : ∀ l, d = .tup l → l.length ≤ 1000) : NoAskG K G m v := fun G2 M2 e => by
  have h := h.ex e
  have ht := rp_ty h M2
  cases h with
  | @tup a vs ds hs hr =>
    have hl : vs.length ≤ 1000 := by rw [hr.len]; exact hlen _ rfl
    · refine .inr ⟨a, vs, rfl, hs, hl, fun x hx => ?_, fun x hx => ?_, by rw [rp_ask hr, ha]⟩
      · obtain ⟨d, hd⟩ := rpa_mem hr x hx
        exact ⟨d.ty, rp_ty hd _, rp_int_ty hd⟩
      · cases hr with
        | nil => cases hx
        | cons h0 h1 =>
          cases hx
          cases h0 with
          | non => exact trivial
          | bl _ => exact trivial
          | int _ => exact trivial
          | str _ => exact trivial
          | @list b ws l hb hw =>
            have hh : (match XD.toDs l with | some es => SeqAt.shaped (.list es) | none => false) = true := hh
            split at hh
            · rename_i es he
              refine .inl ⟨.list es, dat_g (rp_dp (.list hb hw) (by show (XD.toDs l).map PyData.list = _; rw [he]; rfl)), hh, fun s => rfl⟩
            · cases hh
          | @tup b ws l hb hw =>
            have hh : (match XD.toDs l with | some es => SeqAt.shaped (.tuple es) | none => false) = true := hh
            split at hh
            · rename_i es he
              refine .inl ⟨.tuple es, dat_g (rp_dp (.tup hb hw) (by show (XD.toDs l).map PyData.tuple = _; rw [he]; rfl)), hh, fun s => rfl⟩
            · cases hh
          | dict hb =>
            rcases hb with z | z
            · cases z
            · exact .inr ⟨_, z⟩
  | non => exact .inl ⟨_, ht, (fun z => nomatch z), rfl⟩
  | bl _ => exact .inl ⟨_, ht, (fun z => nomatch z), rfl⟩
  | int _ => exact .inl ⟨_, ht, (fun z => nomatch z), rfl⟩
  | str _ => exact .inl ⟨_, ht, (fun z => nomatch z), rfl⟩
  | list _ _ => exact .inl ⟨_, ht, (fun z => nomatch z), rfl⟩
  | dict _ => exact .inl ⟨_, ht, (fun z => nomatch z), rfl⟩
end

section
variable {K : PySem.W.Frag} {vs : List V} {G : Hp} {M : Mem} {R : KR} {Z : KX}
theorem pf_is_row (h : S_is_row K vs G M R Z) : rd_is_row K (ends R Z) (sta 4 vs) G M := by
  obtain ⟨_, y, rfl, n, b, rfl, hy, q⟩ := sp2_of h
  rcases hy with ⟨T, hT, hne, rfl⟩ | ⟨a, xs, rfl, ha, hl, hi, rfl⟩
  · refine ⟨G, M, Wk.refl, .type T.name, .type "list", _, .ty "list", hT, kit_pt T .list, ite2' (c := !isaB T .list) (fun _ => ⟨G, M, Wk.refl, ret0 q⟩) (fun e => ?_)⟩
    exfalso; revert e hne; cases T <;> decide
  refine ⟨G, M, Wk.refl, .type PT.list.name, .type "list", _, .ty "list", ty_lst ha, kit_pt .list .list, ?_⟩
  refine ⟨xs, .inl ha, ite2' (c := !decide (V.int (xs.length : Int) = .int (n : Int))) (fun e => ?_) (fun e => ?_)⟩
  · have e : ¬ xs.length = n := fun z => by rw [decide_eq_true (by rw [z])] at e; cases e
    have e2 : rowB n xs = false := by unfold rowB; rw [decide_eq_false e, Bool.false_and]
    rw [e2] at q
    exact ⟨G, M, Wk.refl, ret0 q⟩
  have e : xs.length = n := by
    have e : decide (V.int (xs.length : Int) = .int (n : Int)) = true := by simpa using e
    have := V.int.inj (of_decide_eq_true e); omega
  refine ⟨G, M, Wk.refl, xs, ha, sz (by show xs.length ≤ _; omega), fun i acc G' M' => acc = ((List.range i).map fun (j : Nat) => withinV (xs.getD j .non) 0 (j : Int)).map V.bl ∧ G' = G ∧ M' = M, ⟨rfl, rfl, rfl⟩, ?_, ?_, ?_⟩
  · rintro i acc G' M' _ ⟨rfl, rfl, rfl⟩; exact ha
  · rintro i acc G' M' D hi2 _ ⟨rfl, rfl, rfl⟩ fD
    obtain ⟨v, hv⟩ : ∃ v, xs[i]? = some v := ⟨_, List.getElem?_eq_getElem hi2⟩
    obtain ⟨T, hT, ht⟩ := hi v (List.mem_of_getElem? hv)
    refine asg_E hv ⟨rfl, T, 0, (i : Int), rfl, rfl, tyk_cons hT, ht, _, _, Wk.refl, ?_, rfl, rfl⟩
    rw [List.range_succ, List.map_append, List.map_append]
    show _ = _ ++ [V.bl (withinV (xs.getD i .non) 0 (i : Int))]
    rw [getD_of hv]
  · rintro acc G' M' p ⟨rfl, rfl, rfl⟩ _ fp
    refine ⟨_, lat_0, retW Wk.drop0 ?_⟩
    have e2 : rowB n xs = ((List.range xs.length).map fun (j : Nat) => withinV (xs.getD j .non) 0 (j : Int)).all id := by unfold rowB; rw [decide_eq_true e, Bool.true_and, List.all_map]; rfl
    rw [e2] at q
    exact q
theorem pf_is_draw (h : S_is_draw K vs G M R Z) : rd_is_draw K (ends R Z) (sta 2 vs) G M := by
  obtain ⟨x, y, rfl, k, b, hk, hok, hy, q⟩ := sp2_of h
  obtain ⟨t, rfl, ht⟩ := dp_kn_inv hk
  have hS : SeqAt' K G M t [.str k.txt, .int k.n] := .inr ht
  refine ⟨G, M, Wk.refl, _, _, hS, rfl, ite2' (c := decide (V.str k.txt = .str "leaf")) (fun e => ?_) (fun e => ?_)⟩
  · rw [txt_leaf] at e
    unfold DrawV at hy
    rw [if_pos e] at hy
    obtain ⟨T, hT, hti, rfl⟩ := hy
    have := hok.2.1 e
    exact ⟨G, M, Wk.refl, _, _, hS, rfl, k.n, rfl, by omega, T, 0, ((2 ^ k.n : Nat) : Int) - 1, rfl, rfl, hT, hti, ret0 q⟩
  · rw [txt_leaf] at e
    unfold DrawV at hy
    rw [if_neg (by rw [e]; exact Bool.false_ne_true)] at hy
    exact ⟨G, M, Wk.refl, _, _, hS, rfl, k.n, b, rfl, hy, ret0 q⟩
theorem draw_ok {k : Kn} {d : Dr} {v : V} (h : DrOk k d) (hk : KnOk k) (hv : DrV K G M v d) : DrawV K G M k v true := by
  unfold DrawV
  cases d with
  | leaf n =>
    obtain ⟨e, hn⟩ := h
    rw [if_pos e]
    have hv : v = .int n := hv
    subst hv
    exact ⟨.int, ty_int, rfl, (wi_in (by omega) (by omega)).symm⟩
  | row l =>
    obtain ⟨e, hl, hr⟩ := h
    rw [if_neg (by rw [e]; exact Bool.false_ne_true)]
    obtain ⟨b, rfl, hb⟩ := hv
    have := hk.1
    refine .inr ⟨b, natsV l, rfl, hb, by rw [natsV_len]; omega, ints_ty, ?_⟩
    unfold rowB
    rw [natsV_len, decide_eq_true hl, Bool.true_and]
    refine (List.all_eq_true.mpr fun i hi => ?_).symm
    have hi := List.mem_range.mp hi
    have hg := List.getElem?_eq_getElem hi
    rw [getD_of (natsV_get hg)]
    have := hr i _ hg
    exact wi_in (by omega) (by omega)
theorem pf_look_at_draws (h : S_look_at_draws K vs G M R Z) : rd_look_at_draws K (ends R Z) (sta 4 vs) G M := by
  obtain ⟨_, _, rfl, a, b, ks, ds, rfl, rfl, ⟨us, hu, hd, hok, hl⟩, ⟨ws, hw, h2⟩, h3, q⟩ := sp2_of h
  have hul : us.length = ks.length := by rw [dpall_len hd, List.length_map]
  have hwl : ws.length = ks.length := by rw [h2.len, ← h3.len]
  refine ⟨G, M, Wk.refl, .type PT.list.name, .type "list", _, .ty "list", ty_lst hw, kit_pt .list .list, ?_⟩
  refine ⟨ws, .inl hw, us, .inl hu, ite2' (c := !decide (V.int (ws.length : Int) = .int (us.length : Int))) (fun e => by rw [decide_eq_true (by rw [hul, hwl])] at e; cases e) (fun _ => ?_)⟩
  refine ⟨G, M, Wk.refl, us, hu, fun i σ G' M' => ∃ y2 y3, σ = [some (.ref a), some (.ref b), y2, y3] ∧ G' = G ∧ M' = M, ⟨none, none, rfl, rfl, rfl⟩, ?_, ?_, ?_⟩
  · rintro i σ G' M' _ ⟨y2, y3, rfl, rfl, rfl⟩; exact hu
  · rintro i σ G' M' hi ⟨y2, y3, rfl, rfl, rfl⟩
    have hi : i < us.length := hi
    obtain ⟨k, hk⟩ : ∃ k, ks[i]? = some k := ⟨_, List.getElem?_eq_getElem (by omega)⟩
    obtain ⟨v, hv, hd1⟩ := dpall_get (d := knD k) hd (by rw [List.getElem?_map, hk]; rfl)
    obtain ⟨d, hdi, hdk⟩ := h3.get' hk
    obtain ⟨w, hwi, hwd⟩ := h2.get hdi
    have kok := hok k (List.mem_of_getElem? hk)
    refine asg_E hv ⟨G', M', Wk.refl, _, w, .inl hw, atI_nat hwi, k, true, hd1, kok, draw_ok hdk kok hwd, ?_⟩
    exact ⟨_, _, Wk.refl, _, _, rfl, rfl, rfl⟩
  · rintro σ G' M' ⟨y2, y3, rfl, rfl, rfl⟩
    exact ret0 q
theorem DrV.ex {G' : Hp} {v : V} {d : Dr} (e : Ex G G') (h : DrV K G M v d) : DrV K G' M v d := by
  cases d with
  | leaf n => exact h
  | row l => obtain ⟨b, rfl, hb⟩ := h; exact ⟨b, rfl, lat_ex e hb⟩
theorem DrsG.ex {G' : Hp} {p : Addr} {ds : List Dr} (e : Ex G G') (h : DrsG K G p ds) : DrsG K G' p ds := by
  obtain ⟨us, h1, h2⟩ := h
  exact ⟨us, ex_l e h1, h2.mono fun _ _ q => q.ex e⟩
theorem pf_copied (h : S_copied K vs G M R Z) : rd_copied K (ends R Z) (sta 2 vs) G M := by
  obtain ⟨_, rfl, b, ds, rfl, ⟨us, hu, hd⟩, hl, q⟩ := sp1_of h
  have hul := hd.len
  refine ⟨G, M, Wk.refl, us, hu, sz (by show us.length ≤ _; omega), fun i acc G' M' => Ex G G' ∧ M' = M ∧ A2 (DrV K G' []) acc (ds.take i), ⟨Ex.refl, rfl, .nil⟩, ?_, ?_, ?_⟩
  · rintro i acc G' M' _ ⟨ex, rfl, _⟩; exact lat_ex ex hu
  · rintro i acc G' M' D hi _ ⟨ex, rfl, ha⟩ fD
    have hi : i < us.length := hi
    obtain ⟨d, hdi⟩ : ∃ d, ds[i]? = some d := ⟨_, List.getElem?_eq_getElem (by omega)⟩
    obtain ⟨v, hv, hvd⟩ := hd.get hdi
    refine asg_L hv ⟨rfl, ?_⟩
    cases d with
    | leaf n =>
      have hvd : v = .int n := hvd
      subst hvd
      refine ⟨.type PT.int.name, .type "list", _, .ty "list", ty_int, kit_pt .int .list, ?_⟩
      exact ⟨G', M', Wk.refl, ex, rfl, by rw [take_succ' hdi]; exact ha.app (.cons rfl .nil)⟩
    | row l =>
      obtain ⟨c, rfl, hc⟩ := hvd
      have hc' : LstAt K G' ((D, HO.lst acc) :: M') c (natsV l) := lat_cons (lat_ex ex hc)
      refine ⟨.type PT.list.name, .type "list", _, .ty "list", ty_lst hc', kit_pt .list .list, ?_⟩
      refine ⟨natsV l, .inl hc', fun p fp => ⟨upd G' p (.lst (natsV l)), M', Wk.frz0, ex.trans (Ex.new fp), rfl, ?_⟩⟩
      rw [take_succ' hdi]
      exact (ha.mono fun _ _ q => q.ex (Ex.new fp)).app (.cons ⟨p, rfl, .inr sql_new⟩ .nil)
  · rintro acc G' M' p ⟨ex, rfl, ha⟩ _ fp
    have ha : A2 (DrV K G' []) acc (ds.take us.length) := ha
    rw [List.take_of_length_le (by omega)] at ha
    exact retW Wk.frz0 (q p _ (ex.trans (Ex.new fp)) ⟨acc, sql_new, ha.mono fun _ _ q => q.ex (Ex.new fp)⟩)
end

section
variable {K : PySem.W.Frag} {vs : List V} {G : Hp} {M : Mem} {R : KR} {Z : KX}
theorem LogC.ex {G' : Hp} {ts : List Tch} {o : HO} (e : Ex G G') (h : LogC K G ts o) : LogC K G' ts o := by
  obtain ⟨vs, rfl, h⟩ := h
  exact ⟨vs, rfl, ex_ds e _ h⟩
theorem dp_tch {T : Addr} {t : Tch} (h : SqT K G T [.str t.txt, .int t.shelf, .int t.room]) : Dp K G (.ref T) (tchD t) := .tup h (.cons (.str _) (.cons (.int _) (.cons (.int _) .nil)))
theorem pf_Keeper_init (h : S_Keeper_init K vs G M R Z) : rd_Keeper_init K (ends R Z) (sta 1 vs) G M := by
  obtain ⟨_, rfl, a, dx, n, rfl, hn, q⟩ := sp1_of h
  exact ⟨G, M, Wk.refl, sz0, fun lg fl => ⟨n + 1, 1, dx, [], 0, hn, rfl, by decide, ret0 (q lg fl)⟩⟩
theorem pf_Keeper_sees (h : S_Keeper_sees K vs G M R Z) : rd_Keeper_sees K (ends R Z) (sta 4 vs) G M := by
  obtain ⟨_, _, _, _, rfl, kp, dk, lg, j, l, o, ts, t, rfl, rfl, rfl, rfl, ⟨hk, hl, ⟨ws, rfl, hw⟩⟩, hts, q⟩ := sp4_of h
  have hwl : ws.length = ts.length := by rw [dpall_len hw, List.length_map]
  refine ⟨G, M, Wk.refl, 1, dk, _, 0, _, at_n hk, rfl, rfl, tyl_n hl, sz3, fun T fT => ⟨l, ws, hl, Nat.lt_of_le_of_lt (show ws.length ≤ 1000000 by omega) (by decide), ret0 (q _ _ (Ex.new fT) ⟨_, rfl, ?_⟩)⟩⟩
  rw [List.map_append]
  exact dpall_snoc (ex_ds (Ex.new fT) _ hw) (dp_tch sqt_new)
theorem pf_Keeper_seen (h : S_Keeper_seen K vs G M R Z) : rd_Keeper_seen K (ends R Z) (sta 1 vs) G M := by
  obtain ⟨_, rfl, kp, dk, lg, j, l, o, ts, rfl, ⟨hk, hl, ⟨ws, rfl, hw⟩⟩, q⟩ := sp1_of h
  exact ⟨G, M, Wk.refl, 1, dk, _, 0, _, at_n hk, rfl, rfl, ws, lst_n hl, fun p fp => ret0 (q p fp)⟩
theorem LstN.at {n : Nat} {b : Addr} {xs : List V} (h : LstN K G M n b xs) : LstAt K G M b xs := by
  rcases h with ⟨i, _, h⟩ | h
  · exact lat_n h
  · exact .inr h
theorem LstN.set {n : Nat} {b : Addr} {xs : List V} {x : Addr × HO} (h : LstN K G M n b xs) : LstN K G (M.set n x) n b xs := by
  rcases h with ⟨i, e, h⟩ | h
  · exact .inl ⟨i, e, by rw [List.getElem?_set_ne e]; exact h⟩
  · exact .inr h
theorem pf_Shelf_init (h : S_Shelf_init K vs G M R Z) : rd_Shelf_init K (ends R Z) (sta 4 vs) G M := by
  obtain ⟨_, y, z, _, rfl, a, dx, b, n, xs, rfl, rfl, hn, hb, q⟩ := sp4_of h
  refine ⟨G, M, Wk.refl, n, 2, dx, [], 0, hn, rfl, by decide, ?_⟩
  refine ⟨G, _, Wk.refl, n, 2, dx, [y], 1, set_n hn, rfl, by show 1 ≤ 1; decide, ?_⟩
  refine ⟨G, _, Wk.refl, xs, .inl hb.set.set.at, fun th ft => ⟨n + 1, 2, dx, [y, z], 2, set_n (set_n hn), rfl, by show 2 ≤ 2; decide, ?_⟩⟩
  refine ret0 ?_
  show R .non G ((th, .lst xs) :: ((M.set n _).set n _).set n _)
  rw [List.set_set, List.set_set]
  exact q th (fr_unset hn (fr_unset (set_n hn) ft))
theorem pf_Shelf_need_room (h : S_Shelf_need_room K vs G M R Z) : rd_Shelf_need_room K (ends R Z) (sta 2 vs) G M := by
  obtain ⟨_, y, rfl, a, dx, kp, th, num, n, i, xs, T, rfl, ⟨hs, ht⟩, hT, hti, q1, q2⟩ := sp2_of h
  refine ⟨G, M, Wk.refl, 2, dx, _, 2, _, at_n hs, rfl, rfl, xs, lst_n ht, T, 0, (xs.length : Int) - 1, rfl, rfl, hT, hti, ite2' (c := !withinV y 0 ((xs.length : Int) - 1)) (fun e => ?_) (fun e => ?_)⟩
  · exact ⟨G, M, Wk.refl, G, M, Wk.refl, q2 (by simpa using e)⟩
  · exact ret0 (q1 (by simpa using e))
theorem pf_Shelf_look (h : S_Shelf_look K vs G M R Z) : rd_Shelf_look K (ends R Z) (sta 2 vs) G M := by
  obtain ⟨_, y, rfl, a, dx, kp, th, num, n, i, xs, rfl, hsh, h⟩ := sp2_of h
  rcases h with ⟨T, hT, hti, hw, z⟩ | ⟨dk, lg, j, l, o, ts, r, v, rfl, hk, hts, hr, hli, q⟩
  · exact ⟨G, M, Wk.refl, 2, dx, _, S_Shelf_need_room K, at_n hsh.s, rfl, a, dx, kp, th, num, n, i, xs, T, rfl, hsh, hT, hti, (fun e => by rw [hw] at e; cases e), fun _ => ⟨G, M, Wk.refl, z⟩⟩
  have hrl := (List.getElem?_eq_some_iff.mp hr).1
  refine ⟨G, M, Wk.refl, 2, dx, _, S_Shelf_need_room K, at_n hsh.s, rfl, a, dx, kp, th, num, n, i, xs, .int, rfl, hsh, ty_int, rfl, fun _ => ?_, fun e => by rw [wi_in (by omega) (by omega)] at e; cases e⟩
  refine ⟨G, M, Wk.refl, 2, dx, _, 0, _, at_n hsh.s, rfl, rfl, 1, dk, _, S_Keeper_sees K, at_n hk.k, rfl, 2, dx, _, 1, _, at_n hsh.s, rfl, rfl, kp, dk, lg, j, l, o, ts, ⟨false, num, r⟩, rfl, rfl, rfl, rfl, hk, hts, fun G' o' ex hl => ?_⟩
  have hnl : l ≠ n := fun z => by
    have h1 := hk.l
    rw [z, hsh.s] at h1
    obtain ⟨ws, e, _⟩ := hk.c
    have := (Prod.mk.inj (Option.some.inj h1)).2
    rw [e] at this
    cases this
  refine ⟨G', _, Wk.refl, 2, dx, _, 2, .ref th, at_n (n := n) (by rw [List.getElem?_set_ne hnl]; exact hsh.s), rfl, rfl, xs, v, lst_n (n := i) (by rw [List.getElem?_set_ne hli]; exact hsh.t), atI_nat hr, ret0 (q G' o' ex hl)⟩
theorem pf_Shelf_lay (h : S_Shelf_lay K vs G M R Z) : rd_Shelf_lay K (ends R Z) (sta 3 vs) G M := by
  obtain ⟨_, y, zz, rfl, a, dx, kp, th, num, n, i, xs, rfl, hsh, h⟩ := sp3_of h
  rcases h with ⟨T, hT, hti, hw, z⟩ | ⟨dk, lg, j, l, o, ts, r, rfl, hk, hts, hr, hli, hnl, q⟩
  · exact ⟨G, M, Wk.refl, 2, dx, _, S_Shelf_need_room K, at_n hsh.s, rfl, a, dx, kp, th, num, n, i, xs, T, rfl, hsh, hT, hti, (fun e => by rw [hw] at e; cases e), fun _ => ⟨G, M, Wk.refl, z⟩⟩
  refine ⟨G, M, Wk.refl, 2, dx, _, S_Shelf_need_room K, at_n hsh.s, rfl, a, dx, kp, th, num, n, i, xs, .int, rfl, hsh, ty_int, rfl, fun _ => ?_, fun e => by rw [wi_in (by omega) (by omega)] at e; cases e⟩
  refine ⟨G, M, Wk.refl, 2, dx, _, 0, _, at_n hsh.s, rfl, rfl, 1, dk, _, S_Keeper_sees K, at_n hk.k, rfl, 2, dx, _, 1, _, at_n hsh.s, rfl, rfl, kp, dk, lg, j, l, o, ts, ⟨true, num, r⟩, rfl, rfl, rfl, rfl, hk, hts, fun G' o' ex hl => ?_⟩
  exact ⟨G', _, Wk.refl, 2, dx, _, 2, .ref th, at_n (n := n) (by rw [List.getElem?_set_ne hnl]; exact hsh.s), rfl, rfl, i, xs, r, by rw [List.getElem?_set_ne hli]; exact hsh.t, ixN_nat hr, ret0 (q G' o' ex hl)⟩
end

section
variable {K : PySem.W.Frag} {vs : List V} {G : Hp} {M : Mem} {R : KR} {Z : KX}
theorem eq_ref {a b : Addr} {d : PyData} {n : Nat} {neg : Bool} (ha : DatAt K G M (.ref a) d) (hb : DatAt K G M (.ref b) d) (sh : Shp n d) (hn : n ≤ 64) (q : R (.bl (!neg)) G M) : kEqv neg K (.ref a) (.ref b) G M R := by
  refine ⟨d, d, ha, hb, sh.shaped hn, sh.shaped hn, ?_⟩
  rw [sh.refl]
  cases neg <;> exact q
theorem eq_nats {a b : Addr} {l : List Nat} {neg : Bool} (ha : LstAt K G M a (natsV l)) (hb : LstAt K G M b (natsV l)) (q : R (.bl (!neg)) G M) : kEqv neg K (.ref a) (.ref b) G M R :=
  eq_ref (dat_nats ha) (dat_nats hb) (shp_nats (n := 0) l) (by decide) q
theorem shp_tchs (ts : List Tch) : Shp 2 (.list (ts.map tchD)) := .list fun d hd => by
  obtain ⟨t, _, rfl⟩ := List.mem_map.mp hd
  refine .tuple fun d hd => ?_
  simp only [List.mem_cons, List.not_mem_nil, or_false] at hd
  rcases hd with rfl | rfl | rfl
  · refine .str ?_
    unfold Tch.txt; split
    · exact (by decide +kernel : PyData.strOk ("lay" : Str) = true)
    · exact (by decide +kernel : PyData.strOk ("look" : Str) = true)
  · exact .int
  · exact .int
end

section
variable {K : PySem.W.Frag} {vs : List V} {G : Hp} {M : Mem} {R : KR} {Z : KX}
theorem st_cells : ∀ k ∈ storeKs, tabF_cells.lookup k = some 0 := by decide
theorem st_limit : ∀ k ∈ storeKs, tabF_limit.lookup k = some 1 := by decide
theorem st_draws : ∀ k ∈ storeKs, tabF_draws.lookup k = some 2 := by decide
theorem st_keeper : ∀ k ∈ storeKs, tabF_keeper.lookup k = some 3 := by decide
theorem st_made : ∀ k ∈ storeKs, tabF_made.lookup k = some 4 := by decide
theorem pf_Store_left (h : S_Store_left K vs G M R Z) : rd_Store_left K (ends R Z) (sta 1 vs) G M := by
  obtain ⟨_, rfl, a, k, dx, f, r, rfl, hk, ha, q⟩ := sp1_of h
  exact ⟨G, M, Wk.refl, k, dx, _, 1, _, ha, st_limit k hk, rfl, k, dx, _, 4, _, ha, st_made k hk, rfl, ret0 q⟩
theorem pf_Store_touches (h : S_Store_touches K vs G M R Z) : rd_Store_touches K (ends R Z) (sta 1 vs) G M := by
  obtain ⟨_, rfl, a, k, dx, f, r, dk, lg, j, l, o, ts, rfl, hk, ha, hkp, q⟩ := sp1_of h
  exact ⟨G, M, Wk.refl, k, dx, _, 3, _, ha, st_keeper k hk, rfl, 1, dk, _, S_Keeper_seen K, at_n hkp.k, rfl, f.keeper, dk, lg, j, l, o, ts, rfl, hkp, fun p fp => ret0 (q p fp)⟩
theorem pf_word_asked (h : S_word_asked K vs G M R Z) : rd_word_asked K (ends R Z) (sta 1 vs) G M := by
  obtain ⟨_, rfl, d, ⟨t, rfl, ht⟩, q⟩ := sp1_of h
  cases d with
  | read c =>
    refine ⟨G, M, Wk.refl, _, _, .inr ht, rfl, ?_⟩
    exact ⟨G, M, Wk.refl, ret0 q⟩
  | write c w =>
    refine ⟨G, M, Wk.refl, _, _, .inr ht, rfl, ?_⟩
    exact ⟨G, M, Wk.refl, _, _, .inr ht, rfl, ret0 q⟩
theorem DrAt.set {n : Nat} {b : Addr} {ds : List Dr} {a : Addr} {k : Nat} {dx : Addr} {ws : List V} {x : Addr × HO} (hn : M[n]? = some (a, Ob K k dx ws)) (h : DrAt K G M b ds) : DrAt K G (M.set n x) b ds := by
  have hl : ∀ c xs, LstAt K G M c xs → LstAt K G (M.set n x) c xs := fun c xs q => by
    rcases q with q | q
    · obtain ⟨m, hm⟩ := List.getElem?_of_mem q
      have : n ≠ m := fun z => by subst z; rw [hn] at hm; cases hm
      exact lat_n (n := m) (by rw [List.getElem?_set_ne this]; exact hm)
    · exact .inr q
  obtain ⟨us, h1, h2⟩ := h
  refine ⟨us, hl _ _ h1, h2.mono fun v d q => ?_⟩
  cases d with
  | leaf n => exact q
  | row l => obtain ⟨c, rfl, hc⟩ := q; exact ⟨c, rfl, hl _ _ hc⟩
theorem DrAt.ex {G' : Hp} {b : Addr} {ds : List Dr} (e : Ex G G') (h : DrAt K G M b ds) : DrAt K G' M b ds := by
  obtain ⟨us, h1, h2⟩ := h
  exact ⟨us, lat_ex e h1, h2.mono fun v d q => q.ex e⟩
theorem DrAt.cons {b : Addr} {ds : List Dr} {x : Addr × HO} (h : DrAt K G M b ds) : DrAt K G (x :: M) b ds := by
  obtain ⟨us, h1, h2⟩ := h
  refine ⟨us, lat_cons h1, h2.mono fun v d q => ?_⟩
  cases d with
  | leaf n => exact q
  | row l => obtain ⟨c, rfl, hc⟩ := q; exact ⟨c, rfl, lat_cons hc⟩
theorem pf_Store_init (h : S_Store_init K vs G M R Z) : rd_Store_init K (ends R Z) (sta 5 vs) G M := by
  obtain ⟨_, _, _, _, _, rfl, a, dx, b, n, k, s, m, c, ds, rfl, hk, hn, rfl, ⟨rfl, m0, m1⟩, ⟨rfl, c0, c1⟩, rfl, hb, hd, hok, hl, q⟩ := sp5_of h
  refine ⟨G, M, Wk.refl, .int, .int, ty_int, rfl, ty_int, rfl, fun _ => ?_, (fun z => by rw [wi_in (by omega) (by omega), wi_in (by omega) (by omega)] at z; cases z)⟩
  refine ⟨G, M, Wk.refl, s, m, c, rfl, ⟨rfl, m0, m1⟩, ⟨rfl, c0, c1⟩, fun t us G1 ex1 _ hu => ?_⟩
  refine ⟨t, b, kindsK s m c, ds, rfl, rfl, ⟨us, lat_0, hu, hok, hl⟩, (hb.ex ex1).cons, hd, ?_⟩
  refine ⟨G1, M, Wk.drop0, n, k, dx, [], 0, hn, st_cells k hk, by decide, ?_⟩
  refine ⟨G1, _, Wk.refl, n, k, dx, [.int m], 1, set_n hn, st_limit k hk, by show 1 ≤ 1; decide, ?_⟩
  rw [List.set_set]
  refine ⟨G1, _, Wk.refl, b, ds, rfl, (hb.ex ex1).set hn, by rw [← hd.len]; exact hl, fun dr G2 ex2 hdr => ?_⟩
  refine ⟨n, k, dx, [.int m, .int c], 2, set_n hn, st_draws k hk, by show 2 ≤ 2; decide, ?_⟩
  rw [List.set_set]
  refine ⟨G2, _, Wk.refl, fun kp dk fk => ⟨kp, dk, 0, rfl, rfl, fun lg fl => ⟨rfl, ?_⟩⟩⟩
  refine ⟨n + 2, k, dx, [.int m, .int c, .ref dr], 3, set_n hn, st_keeper k hk, by show 3 ≤ 3; decide, ?_⟩
  refine ⟨G2, _, Wk.refl, n + 2, k, dx, [.int m, .int c, .ref dr, .ref kp], 4, set_n (n := n + 2) (set_n hn), st_made k hk, by show 4 ≤ 4; decide, ret0 ?_⟩
  simp only [List.set_cons_succ, List.set_cons_zero, List.set_set]
  exact q dr kp dk lg G2 (ex1.trans ex2) hdr
end

section
variable {K : PySem.W.Frag} {vs : List V} {G : Hp} {M : Mem} {R : KR} {Z : KX} {d : Nat}
end

section
variable {K : PySem.W.Frag} {vs : List V} {G : Hp} {M : Mem} {R : KR} {Z : KX}
end

/-! ### the told nets sort: noughts and ones first -/
section
end

/-! ### .. then whole numbers -/
section
end

section
end

section
end

section
variable {K : PySem.W.Frag} {vs : List V} {G : Hp} {M : Mem} {R : KR} {Z : KX}
end

section
variable {K : PySem.W.Frag} {G : Hp} {M : Mem}
end

section
variable {K : PySem.W.Frag} {vs : List V} {G : Hp} {M : Mem} {R : KR} {Z : KX}
end

section
variable {K : PySem.W.Frag} {vs : List V} {G : Hp} {M : Mem} {R : KR} {Z : KX}
theorem Wk.of_eq {N : Mem} (e : M = N) : Wk G M G N := e ▸ Wk.refl
theorem natsV_app2 (a b : List Nat) : natsV (a ++ b) = natsV a ++ natsV b := by unfold natsV; rw [List.map_append]
theorem in_nats {c : Nat} {l : List Nat} : inV (.int (c : Int)) (natsV l) = decide (c ∈ l) := by
  induction l with
  | nil => rfl
  | cons x l ih =>
    show (((x : Int) == (c : Int)) || inV (.int (c : Int)) (natsV l)) = _
    rw [ih]
    by_cases e : x = c
    · subst e; simp
    · have : ¬ ((x : Int) = (c : Int)) := by omega
      have e2 : ¬ (c = x) := fun z => e z.symm
      simp [this, e2]
theorem flat_nats (l : List Nat) : (natsV l).all flatV = true := List.all_eq_true.mpr fun v hv => by
  obtain ⟨n, _, rfl⟩ := List.mem_map.mp hv; rfl
theorem ints_nats : ∀ {ys : List Int}, (∀ y, y ∈ ys → 0 ≤ y) → ∃ l : List Nat, ys = l.map fun (i : Nat) => (i : Int)
  | [], _ => ⟨[], rfl⟩
  | y :: ys, h => by
    obtain ⟨l, rfl⟩ := ints_nats fun z hz => h z (List.mem_cons_of_mem _ hz)
    obtain ⟨n, rfl⟩ := Int.eq_ofNat_of_zero_le (h y List.mem_cons_self)
    exact ⟨n :: l, rfl⟩
theorem natsV_ints (l : List Nat) : (l.map fun (i : Nat) => (i : Int)).map V.int = natsV l := by unfold natsV; rw [List.map_map]; rfl
theorem perm_nats {l m : List Nat} (h : (l.map fun (i : Nat) => (i : Int)).Perm (m.map fun (i : Nat) => (i : Int))) : l.Perm m := by
  have := h.map Int.toNat
  rw [List.map_map, List.map_map, List.map_congr_left (g := id) (fun _ _ => by simp), List.map_congr_left (l := m) (g := id) (fun _ _ => by simp), List.map_id, List.map_id] at this
  exact this
theorem nat_sorted_eq {a b : List Nat} (h : a.Perm b) (ha : a.Pairwise (· ≤ ·)) (hb : b.Pairwise (· ≤ ·)) : a = b := List.Perm.eq_of_pairwise (fun x y _ _ h1 h2 => by omega) ha hb h
end

section
variable {K : PySem.W.Frag} {vs : List V} {G : Hp} {M : Mem} {R : KR} {Z : KX}
theorem Frs'.keys {M' Mx : Mem} (e : M'.map (·.1) = M.map (·.1)) (h : Frs' G M Mx) : Frs' G M' Mx := by
  induction h with
  | nil => exact .nil
  | cons f _ ih => exact .cons (f.keys (by rw [List.map_append, List.map_append, e])) ih
theorem Frs'.frs {Mx : Mem} (h : Frs' G M Mx) : Frs G M Mx := by
  induction h with
  | nil => exact .nil
  | cons f _ ih => exact .cons f ih
theorem SpareInv.ex {G' : Hp} {A : ScanA} {m lim : Nat} {rows : List (List Nat)} {s : SpM} {od : Addr} {o : HO} {xs : List V} {ts : List Tch} (e : Ex G G') (h : SpareInv K G A m lim rows s od o xs ts) : SpareInv K G' A m lim rows s od o xs ts := by
  obtain ⟨tr, hx, hl⟩ := h.lay
  exact ⟨h.log.ex e, ex_l e h.ord, h.ok, ⟨tr, ex_ds e _ hx, hl⟩, h.hk, h.drs.ex e, h.rl, h.rk, h.m0, h.m1⟩
end

section
variable {K : PySem.W.Frag} {vs : List V} {G : Hp} {M : Mem} {R : KR} {Z E : KX}
theorem seen_at {w m lim made : Nat} {ts : List Tch} {a : Addr} {B : Mem} (h : Seen K w m lim made ts G a B) (hs : ∀ x, x ∈ B → x ∈ M) : ∃ (dx : Addr) (vs : List V), At G M a (Ob K w dx vs) := by
  obtain ⟨dx, dr, kp, dk, lg, o, r, h1, _⟩ := h.ex
  exact ⟨dx, _, .inl (hs _ h1)⟩
theorem seen_touches {w m lim made : Nat} {ts : List Tch} {a : Addr} {B : Mem} (h : Seen K w m lim made ts G a B) (hs : ∀ x, x ∈ B → x ∈ M) (hl : (tabM_touches K).lookup w = some (S_Store_touches K)) (hk : w ∈ storeKs) (q : ∀ (p : Addr) (vs : List V), DpAll K G vs (ts.map tchD) → Fr G M p → R (.ref p) G ((p, .lst vs) :: M)) : mcall K (tabM_touches K) a [] G M R E := by
  obtain ⟨dx, dr, kp, dk, lg, o, r, h1, h2, h3, vs, rfl, h4⟩ := h.ex
  obtain ⟨j, hj⟩ := List.getElem?_of_mem (hs _ h2)
  obtain ⟨l, hl2⟩ := List.getElem?_of_mem (hs _ h3)
  exact ⟨w, dx, _, _, .inl (hs _ h1), hl, a, w, dx, ⟨m, lim, dr, kp, made⟩, r, dk, lg, j, l, _, ts, rfl, hk, .inl (hs _ h1), ⟨hj, hl2, vs, rfl, h4⟩, fun p fp => q p vs h4 fp⟩
theorem perm_sub {B F : Mem} (h : M.Perm (F ++ B)) : ∀ x, x ∈ B → x ∈ M := fun x hx => h.mem_iff.mpr (List.mem_append.mpr (.inr hx))
theorem askV_wk {M' : Mem} {m : Int} {y : V} {b : Bool} (w : Wk G M' G M) (h : AskV K G M m y b) : AskV K G M' m y b := by
  rcases h with ⟨T, hT, h⟩ | ⟨t, xs, e, h1, h2, h3, h4, h5⟩
  · exact .inl ⟨T, fun H hv => hT H (w H hv), h⟩
  · refine .inr ⟨t, xs, e, h1, h2, fun x hx => ?_, fun x hx => ?_, h5⟩
    · obtain ⟨T, q1, q2⟩ := h3 x hx
      exact ⟨T, fun H hv => q1 H (w H hv), q2⟩
    · have := h4 x hx
      cases x <;> first | exact this | (rcases this with ⟨d, q1, q2⟩ | q; exact .inl ⟨d, fun H hv => q1 H (w H hv), q2⟩; exact .inr q)
end

/-! ### the words that a shuffled shelf holds -/
theorem snoc_ind {α : Type} {P : List α → Prop} (h0 : P []) (h1 : ∀ l x, P l → P (l ++ [x])) : ∀ l, P l := fun l => by
  have : ∀ l : List α, P l.reverse := fun l => by
    induction l with
    | nil => exact h0
    | cons x l ih => rw [List.reverse_cons]; exact h1 _ _ ih
  have := this l.reverse
  rw [List.reverse_reverse] at this
  exact this

section
variable {K : PySem.W.Frag} {vs : List V} {G : Hp} {M : Mem} {R : KR} {Z E : KX}
theorem st4_seen {m lim : Nat} {rows : List (List Nat)} {ds : List Deed} {a : Addr} {B : Mem} (h : St4 K m lim rows G ds a B) : Seen K 4 m lim ds.length (spTs m rows ds) G a B := by
  obtain ⟨A, od, hd, o, xs, rfl, rfl, hi, _⟩ := h
  exact ⟨A.ds, A.dr, A.kp, A.dk, A.lg, o, _, List.mem_cons_self, List.mem_cons_of_mem _ List.mem_cons_self, List.mem_cons_of_mem _ (List.mem_cons_of_mem _ List.mem_cons_self), hi.log⟩
theorem St4.ex {G' : Hp} {m lim : Nat} {rows : List (List Nat)} {ds : List Deed} {a : Addr} {B : Mem} (e : Ex G G') (h : St4 K m lim rows G ds a B) : St4 K m lim rows G' ds a B := by
  obtain ⟨A, od, hd, o, xs, rfl, rfl, hi, h2⟩ := h
  exact ⟨A, od, hd, o, xs, rfl, rfl, hi.ex e, h2⟩
end

section
variable {K : PySem.W.Frag} {vs : List V} {G : Hp} {M : Mem} {R : KR} {Z E : KX}
end

section
variable {α : Type} {P : V → α → Prop}
theorem DicF.imp {P' : V → α → Prop} {n : Nat} {hv : List (Key × V)} {f : Nat → Option α} (h : DicF P n hv f) (e : ∀ v a, P v a → P' v a) : DicF P' n hv f :=
  ⟨h.nd, h.key, h.non, fun c p hc => by obtain ⟨v, h1, h2⟩ := h.val c p hc; exact ⟨v, h1, e _ _ h2⟩⟩
theorem DicF.nil {n : Nat} : DicF P n [] (fun _ => none) := ⟨List.nodup_nil, fun _ z => (nomatch z), fun _ _ => rfl, fun _ _ z => nomatch z⟩
theorem dic_ne {a b : Nat} (h : ¬ a = b) : ¬ ((Sum.inl (a : Int) : Key) = Sum.inl (b : Int)) := fun z => h (by have := Sum.inl.inj z; omega)
theorem dic_keys (hv : List (Key × V)) (k : Key) (v : V) : (putK hv k v).map (·.1) = if (valV hv k).isSome = true then hv.map (·.1) else hv.map (·.1) ++ [k] := by
  unfold putK
  rw [valV_any]
  by_cases z : (valV hv k).isSome = true
  · rw [if_pos z, if_pos z, List.map_map]
    refine List.map_congr_left fun p _ => ?_
    show (if p.1 = k then (p.1, v) else p).1 = p.1
    split <;> rfl
  · rw [if_neg z, if_neg z, List.map_append]; rfl
theorem DicF.put {n : Nat} {hv : List (Key × V)} {f : Nat → Option α} {c : Nat} {a : α} {v : V} (h : DicF P n hv f) (hc : c < n) (hp : P v a) : DicF P n (putK hv (Sum.inl (c : Int)) v) (putF f c a) := by
  refine ⟨?_, fun q hq => ?_, fun x hx => ?_, fun x q hx => ?_⟩
  · rw [dic_keys]
    split
    · exact h.nd
    · rename_i z
      rw [List.nodup_append]
      refine ⟨h.nd, (List.nodup_cons.mpr ⟨fun z => (nomatch z), List.nodup_nil⟩), fun a ha b hb e => ?_⟩
      have hb : b = Sum.inl (c : Int) := by simpa using hb
      subst hb
      subst e
      have : valV hv (Sum.inl (c : Int)) = none := by
        cases q : valV hv (Sum.inl (c : Int)) with
        | none => rfl
        | some w => rw [q] at z; exact absurd rfl z
      exact valV_not this ha
  · have : q.1 ∈ (putK hv (Sum.inl (c : Int)) v).map (·.1) := List.mem_map.mpr ⟨q, hq, rfl⟩
    rw [dic_keys] at this
    split at this
    · obtain ⟨r, hr, e⟩ := List.mem_map.mp this
      obtain ⟨d, h1, h2⟩ := h.key r hr
      exact ⟨d, h1, by rw [← e]; exact h2⟩
    · rcases List.mem_append.mp this with this | this
      · obtain ⟨r, hr, e⟩ := List.mem_map.mp this
        obtain ⟨d, h1, h2⟩ := h.key r hr
        exact ⟨d, h1, by rw [← e]; exact h2⟩
      · exact ⟨c, hc, by simpa using this⟩
  · rw [valV_put]
    unfold putF at hx
    by_cases e : x = c
    · rw [if_pos e] at hx; cases hx
    · rw [if_neg e] at hx
      rw [if_neg (dic_ne e)]
      exact h.non x hx
  · rw [valV_put]
    unfold putF at hx
    by_cases e : x = c
    · rw [if_pos e] at hx
      cases hx
      rw [e, if_pos rfl]
      exact ⟨v, rfl, hp⟩
    · rw [if_neg e] at hx
      rw [if_neg (dic_ne e)]
      exact h.val x q hx
theorem dic_drop (k j : Key) : ∀ hv : List (Key × V), valV (dropK hv k) j = if j = k then none else valV hv j
  | [] => by unfold dropK; rw [List.filter_nil, valV_nil]; split <;> rfl
  | p :: hv => by
    by_cases e : p.1 = k
    · rw [dropK_pos e, dic_drop k j hv]
      by_cases z : j = k
      · rw [if_pos z, if_pos z]
      · rw [if_neg z, if_neg z, valV_neg (fun y => z (by rw [← y, e]))]
    · rw [dropK_neg e]
      by_cases y : p.1 = j
      · rw [valV_pos y, if_neg (fun z => e (by rw [y, z])), valV_pos y]
      · rw [valV_neg y, valV_neg y, dic_drop k j hv]
theorem DicF.drop {n : Nat} {hv : List (Key × V)} {f : Nat → Option α} {c : Nat} (h : DicF P n hv f) : DicF P n (dropK hv (Sum.inl (c : Int))) (dropF f c) := by
  refine ⟨?_, fun q hq => h.key q (List.mem_filter.mp hq).1, fun x hx => ?_, fun x q hx => ?_⟩
  · exact h.nd.sublist ((List.filter_sublist).map _)
  · rw [dic_drop]
    unfold dropF at hx
    by_cases e : x = c
    · rw [e, if_pos rfl]
    · rw [if_neg (dic_ne e)]
      rw [if_neg e] at hx
      exact h.non x hx
  · rw [dic_drop]
    unfold dropF at hx
    by_cases e : x = c
    · rw [if_pos e] at hx; cases hx
    · rw [if_neg (dic_ne e)]
      rw [if_neg e] at hx
      exact h.val x q hx
theorem DicF.in_ {n : Nat} {hv : List (Key × V)} {f : Nat → Option α} (h : DicF P n hv f) (c : Nat) : (valV hv (Sum.inl (c : Int))).isSome = (f c).isSome := by
  cases e : f c with
  | none => rw [h.non c e]; rfl
  | some p =>
    obtain ⟨v, h1, _⟩ := h.val c p e
    rw [h1]; rfl
/-- the keys of a dict -/
theorem DicF.keys {n : Nat} {hv : List (Key × V)} {f : Nat → Option α} (h : DicF P n hv f) : ∃ ks : List Nat, hv.map (·.1) = (ks.map fun (c : Nat) => (c : Int)).map Sum.inl ∧ ks.Nodup ∧ (∀ c, c ∈ ks → c < n) ∧ (∀ c, c ∈ ks ↔ (f c).isSome = true) ∧ ks.length ≤ n := by
  have hk : ∀ l : List (Key × V), (∀ p, p ∈ l → ∃ c : Nat, c < n ∧ p.1 = Sum.inl (c : Int)) → ∃ ks : List Nat, l.map (·.1) = (ks.map fun (c : Nat) => (c : Int)).map Sum.inl ∧ ∀ c, c ∈ ks → c < n := fun l => by
    induction l with
    | nil => exact fun _ => ⟨[], rfl, fun _ z => nomatch z⟩
    | cons p l ih =>
      intro q
      obtain ⟨ks, h1, h2⟩ := ih fun x hx => q x (List.mem_cons_of_mem _ hx)
      obtain ⟨c, h3, h4⟩ := q p List.mem_cons_self
      exact ⟨c :: ks, by rw [List.map_cons, h1, h4]; rfl, fun x hx => by rcases List.mem_cons.mp hx with rfl | hx; exact h3; exact h2 x hx⟩
  obtain ⟨ks, h1, h2⟩ := hk hv h.key
  have hn : ks.Nodup := by
    have := h.nd
    rw [h1, List.map_map] at this
    exact List.Pairwise.of_map _ (fun a b z e => z (by rw [e])) this
  have hm : ∀ c, c ∈ ks ↔ (f c).isSome = true := fun c => by
    rw [← h.in_ c]
    constructor
    · intro hc
      have : (Sum.inl (c : Int) : Key) ∈ hv.map (·.1) := by rw [h1, List.map_map]; exact List.mem_map.mpr ⟨c, hc, rfl⟩
      cases e : valV hv (Sum.inl (c : Int)) with
      | none => exact absurd this (valV_not e)
      | some v => rfl
    · intro hc
      obtain ⟨v, e⟩ := Option.isSome_iff_exists.mp hc
      have := valV_in e
      rw [h1, List.map_map] at this
      obtain ⟨d, hd, ed⟩ := List.mem_map.mp this
      have : d = c := by have : (d : Int) = (c : Int) := Sum.inl.inj ed; omega
      rw [← this]; exact hd
  exact ⟨ks, h1, hn, h2, hm, nodup_lt_len n ks hn h2⟩
theorem DicF.len {n : Nat} {hv : List (Key × V)} {f : Nat → Option α} (h : DicF P n hv f) : hv.length ≤ n := by
  obtain ⟨ks, h1, _, _, _, h5⟩ := h.keys
  have := congrArg List.length h1
  rw [List.length_map, List.length_map, List.length_map] at this
  omega
/-- the entry at a place -/
theorem DicF.at_ {n : Nat} {hv : List (Key × V)} {f : Nat → Option α} (h : DicF P n hv f) {i : Nat} {kv : Key × V} (hi : hv[i]? = some kv) : ∃ (c : Nat) (a : α), c < n ∧ kv.1 = Sum.inl (c : Int) ∧ f c = some a ∧ P kv.2 a ∧ valV hv (Sum.inl (c : Int)) = some kv.2 := by
  have hm := List.mem_of_getElem? hi
  obtain ⟨c, h1, h2⟩ := h.key kv hm
  have hv2 : valV hv (Sum.inl (c : Int)) = some kv.2 := by
    rw [← h2]
    have hn := h.nd
    clear hi h h1 h2
    induction hv with
    | nil => cases hm
    | cons p l ih =>
      rw [List.map_cons, List.nodup_cons] at hn
      rcases List.mem_cons.mp hm with rfl | hm
      · exact valV_pos rfl
      · rw [valV_neg (fun z => hn.1 (by rw [z]; exact List.mem_map.mpr ⟨kv, hm, rfl⟩))]
        exact ih hm hn.2
  cases e : f c with
  | none => rw [h.non c e] at hv2; cases hv2
  | some a =>
    obtain ⟨v, q1, q2⟩ := h.val c a e
    rw [hv2] at q1
    cases q1
    exact ⟨c, a, h1, h2, e, q2, hv2⟩
end
section
variable {K : PySem.W.Frag} {G G' : Hp}
theorem pairP.ex (e : Ex G G') {v : V} {p : Nat × Nat} (h : pairP K G v p) : pairP K G' v p := ex_d e _ h
theorem ordP.ex (e : Ex G G') {v : V} {o : List Nat} (h : ordP K G v o) : ordP K G' v o := by
  obtain ⟨a, h1, h2⟩ := h; exact ⟨a, h1, ex_l e h2⟩
theorem pairP.mk {T : Addr} {p : Nat × Nat} (s : SqT K G T [.int p.1, .int p.2]) : pairP K G (.ref T) p := .tup s (.cons (.int _) (.cons (.int _) .nil))
end

/-! ### stairs fill as figures of a number count -/
section
variable {K : PySem.W.Frag} {vs : List V} {G : Hp} {M : Mem} {R : KR} {Z : KX}
theorem ClimbI.ex {G' : Hp} {m : Nat} {s : ClM} {fv dv hov hev : List (Key × V)} (e : Ex G G') (h : ClimbI K G m s fv dv hov hev) : ClimbI K G' m s fv dv hov hev :=
  ⟨h.fu, h.dr, h.ho.imp fun _ _ z => z.ex e, h.he, h.m0, h.m1⟩
end

section
variable {K : PySem.W.Frag} {vs : List V} {G : Hp} {M : Mem} {R : KR} {Z : KX}
theorem ShelfAt.cons {x : Addr × HO} {a dx kp th : Addr} {num n i : Nat} {xs : List V} (h : ShelfAt K M a dx kp th num n i xs) : ShelfAt K (x :: M) a dx kp th num (n + 1) (i + 1) xs := ⟨h.s, h.t⟩
theorem KeepAt.cons {x : Addr × HO} {kp dk lg : Addr} {j l : Nat} {o : HO} {ts : List Tch} (h : KeepAt K G M kp dk lg j l o ts) : KeepAt K G (x :: M) kp dk lg (j + 1) (l + 1) o ts := ⟨h.k, h.l, h.c⟩
theorem StairsI.ex {G' : Hp} {A : StairsA} {m lim : Nat} {rows : List (List Nat)} {s : ClM} {hf : Nat → Option Nat} {W : Nat → Nat} {v : StV} {ts : List Tch} (e : Ex G G') (h : StairsI K G A m lim rows s hf W v ts) : StairsI K G' A m lim rows s hf W v ts :=
  ⟨h.ci.ex e, h.hd, h.od.imp fun _ _ z => z.ex e, h.wd, h.tl, h.log.ex e, h.dr.ex e, h.rk⟩
end
section
variable {K : PySem.W.Frag} {vs : List V} {G : Hp} {M : Mem} {R : KR} {Z : KX}
end
section
variable {K : PySem.W.Frag} {vs : List V} {G : Hp} {M : Mem} {R : KR} {Z : KX}
end

section
variable {K : PySem.W.Frag} {vs : List V} {G : Hp} {M : Mem} {R : KR} {Z : KX}
end
section
variable {K : PySem.W.Frag} {vs : List V} {G : Hp} {M : Mem} {R : KR} {Z : KX}
end

section
variable {K : PySem.W.Frag} {vs : List V} {G : Hp} {M : Mem} {R : KR} {Z E : KX}
theorem St5.ex {G' : Hp} {m lim : Nat} {rows : List (List Nat)} {ds : List Deed} {a : Addr} {B : Mem} (e : Ex G G') (h : St5 K m lim rows G ds a B) : St5 K m lim rows G' ds a B := by
  obtain ⟨A, v, rfl, rfl, hi, h2⟩ := h
  exact ⟨A, v, rfl, rfl, hi.ex e, h2⟩
theorem st5_seen {m lim : Nat} {rows : List (List Nat)} {ds : List Deed} {a : Addr} {B : Mem} (h : St5 K m lim rows G ds a B) : Seen K 5 m lim ds.length (srTs m rows ds) G a B := by
  obtain ⟨A, v, rfl, rfl, hi, _⟩ := h
  refine ⟨A.ds, A.dr, A.kp, A.dk, A.lg, v.o, [.ref A.cl.c, .ref A.hd, .ref A.shs, .ref A.ods], ?_, ?_, ?_, hi.log⟩
  · exact List.mem_of_getElem? (i := 7) rfl
  · exact List.mem_of_getElem? (i := 5) rfl
  · exact List.mem_of_getElem? (i := 6) rfl
end

section
variable {K : PySem.W.Frag} {vs : List V} {G : Hp} {M : Mem} {R : KR} {Z : KX}
theorem pf_node_at (h : S_node_at K vs G M R Z) : rd_node_at K (ends R Z) (sta 3 vs) G M := by
  obtain ⟨_, _, _, rfl, hg, d, l, rfl, rfl, rfl, hd, hh, q⟩ := sp3_of h
  clear h
  refine ⟨G, M, Wk.refl, ⟨by omega, by omega, by decide⟩, by show (0 : Int) ≤ (hg : Int) - (d : Int); omega, ret0 ?_⟩
  have e : (1 : Int) * 2 ^ ((d : Int)).toNat - 1 + (l : Int) / 2 ^ ((hg : Int) - (d : Int)).toNat = ((nodeN hg d l : Nat) : Int) := by
    unfold nodeN
    rw [Int.toNat_natCast, show ((hg : Int) - (d : Int)).toNat = hg - d by omega, Int.one_mul]
    have h1 : 1 ≤ 2 ^ d := Nat.one_le_two_pow
    rw [Int.natCast_add, Int.natCast_ediv, Int.natCast_sub h1]
    simp
  show R (.int ((1 : Int) * 2 ^ ((d : Int)).toNat - 1 + (l : Int) / 2 ^ ((hg : Int) - (d : Int)).toNat)) G M
  rw [e]
  exact q
theorem pf_room_of (h : S_room_of K vs G M R Z) : rd_room_of K (ends R Z) (sta 2 vs) G M := by
  obtain ⟨_, _, rfl, n, s, rfl, rfl, q⟩ := sp2_of h
  refine ⟨G, M, Wk.refl, mul_l (by decide) (by decide), ret0 ?_⟩
  have e : (2 : Int) * (n : Int) + (s : Int) = ((2 * n + s : Nat) : Int) := by omega
  show R (.int ((2 : Int) * (n : Int) + (s : Int))) G M
  rw [e]
  exact q
/-! hands -/
theorem HandF.ex {G' : Hp} {m : Nat} {hv : List (Key × V)} {f : HF} (e : Ex G G') (h : HandF K G m hv f) : HandF K G' m hv f :=
  ⟨h.nd, h.key, h.non, fun c p hc => by obtain ⟨v, h1, h2⟩ := h.val c p hc; exact ⟨v, h1, ex_d e _ h2⟩⟩
theorem HandF.nil {m : Nat} : HandF K G m [] (fun _ => none) := ⟨List.nodup_nil, fun _ z => (nomatch z), fun _ _ => rfl, fun _ _ z => nomatch z⟩
theorem inl_ne {a b : Nat} (h : ¬ a = b) : ¬ ((Sum.inl (a : Int) : Key) = Sum.inl (b : Int)) := fun z => h (by have := Sum.inl.inj z; omega)
theorem putK_keys (hv : List (Key × V)) (k : Key) (v : V) : (putK hv k v).map (·.1) = if (valV hv k).isSome = true then hv.map (·.1) else hv.map (·.1) ++ [k] := by
  unfold putK
  rw [valV_any]
  by_cases z : (valV hv k).isSome = true
  · rw [if_pos z, if_pos z, List.map_map]
    refine List.map_congr_left fun p _ => ?_
    show (if p.1 = k then (p.1, v) else p).1 = p.1
    split <;> rfl
  · rw [if_neg z, if_neg z, List.map_append]; rfl
theorem HandF.put {m : Nat} {hv : List (Key × V)} {f : HF} {c : Nat} {p : Nat × Nat} {v : V} (h : HandF K G m hv f) (hc : c < m) (hv2 : Dp K G v (.tuple [.int p.1, .int p.2])) : HandF K G m (putK hv (Sum.inl (c : Int)) v) (f.put c p) := by
  refine ⟨?_, fun q hq => ?_, fun x hx => ?_, fun x q hx => ?_⟩
  · rw [putK_keys]
    split
    · exact h.nd
    · rename_i z
      rw [List.nodup_append]
      refine ⟨h.nd, (List.nodup_cons.mpr ⟨fun z => (nomatch z), List.nodup_nil⟩), fun a ha b hb e => ?_⟩
      have hb : b = Sum.inl (c : Int) := by simpa using hb
      subst hb
      subst e
      have : valV hv (Sum.inl (c : Int)) = none := by
        cases q : valV hv (Sum.inl (c : Int)) with
        | none => rfl
        | some w => rw [q] at z; exact absurd rfl z
      exact valV_not this ha
  · have : q.1 ∈ (putK hv (Sum.inl (c : Int)) v).map (·.1) := List.mem_map.mpr ⟨q, hq, rfl⟩
    rw [putK_keys] at this
    split at this
    · obtain ⟨r, hr, e⟩ := List.mem_map.mp this
      obtain ⟨d, h1, h2⟩ := h.key r hr
      exact ⟨d, h1, by rw [← e]; exact h2⟩
    · rcases List.mem_append.mp this with this | this
      · obtain ⟨r, hr, e⟩ := List.mem_map.mp this
        obtain ⟨d, h1, h2⟩ := h.key r hr
        exact ⟨d, h1, by rw [← e]; exact h2⟩
      · exact ⟨c, hc, by simpa using this⟩
  · rw [valV_put]
    unfold HF.put at hx
    by_cases e : x = c
    · rw [if_pos e] at hx; cases hx
    · rw [if_neg e] at hx
      rw [if_neg (inl_ne e)]
      exact h.non x hx
  · rw [valV_put]
    unfold HF.put at hx
    by_cases e : x = c
    · rw [if_pos e] at hx
      cases hx
      rw [e, if_pos rfl]
      exact ⟨v, rfl, hv2⟩
    · rw [if_neg e] at hx
      rw [if_neg (inl_ne e)]
      exact h.val x q hx
theorem valV_drop (k j : Key) : ∀ hv : List (Key × V), valV (dropK hv k) j = if j = k then none else valV hv j
  | [] => by unfold dropK; rw [List.filter_nil, valV_nil]; split <;> rfl
  | p :: hv => by
    by_cases e : p.1 = k
    · rw [dropK_pos e, valV_drop k j hv]
      by_cases z : j = k
      · rw [if_pos z, if_pos z]
      · rw [if_neg z, if_neg z, valV_neg (fun y => z (by rw [← y, e]))]
    · rw [dropK_neg e]
      by_cases y : p.1 = j
      · rw [valV_pos y, if_neg (fun z => e (by rw [y, z])), valV_pos y]
      · rw [valV_neg y, valV_neg y, valV_drop k j hv]
theorem HandF.drop {m : Nat} {hv : List (Key × V)} {f : HF} {c : Nat} (h : HandF K G m hv f) : HandF K G m (dropK hv (Sum.inl (c : Int))) (fun x => if x = c then none else f x) := by
  refine ⟨?_, fun q hq => h.key q (List.mem_filter.mp hq).1, fun x hx => ?_, fun x q hx => ?_⟩
  · exact h.nd.sublist ((List.filter_sublist).map _)
  · rw [valV_drop]
    by_cases e : x = c
    · rw [e, if_pos rfl]
    · rw [if_neg (inl_ne e)]
      rw [if_neg e] at hx
      exact h.non x hx
  · rw [valV_drop]
    by_cases e : x = c
    · rw [if_pos e] at hx; cases hx
    · rw [if_neg (inl_ne e)]
      rw [if_neg e] at hx
      exact h.val x q hx
theorem HandF.in_ {m : Nat} {hv : List (Key × V)} {f : HF} (h : HandF K G m hv f) (c : Nat) : (valV hv (Sum.inl (c : Int))).isSome = (f c).isSome := by
  cases e : f c with
  | none => rw [h.non c e]; rfl
  | some p =>
    obtain ⟨v, h1, _⟩ := h.val c p e
    rw [h1]; rfl
/-- the keys of a hand, sorted -/
theorem HandF.keys {m : Nat} {hv : List (Key × V)} {f : HF} (h : HandF K G m hv f) : ∃ ks : List Nat, hv.map (·.1) = (ks.map fun (c : Nat) => (c : Int)).map Sum.inl ∧ ks.Nodup ∧ (∀ c, c ∈ ks → c < m) ∧ (∀ c, c ∈ ks ↔ (f c).isSome = true) ∧ ks.length ≤ m := by
  have hk : ∀ l : List (Key × V), (∀ p, p ∈ l → ∃ c : Nat, c < m ∧ p.1 = Sum.inl (c : Int)) → ∃ ks : List Nat, l.map (·.1) = (ks.map fun (c : Nat) => (c : Int)).map Sum.inl ∧ ∀ c, c ∈ ks → c < m := fun l => by
    induction l with
    | nil => exact fun _ => ⟨[], rfl, fun _ z => nomatch z⟩
    | cons p l ih =>
      intro q
      obtain ⟨ks, h1, h2⟩ := ih fun x hx => q x (List.mem_cons_of_mem _ hx)
      obtain ⟨c, h3, h4⟩ := q p List.mem_cons_self
      exact ⟨c :: ks, by rw [List.map_cons, h1, h4]; rfl, fun x hx => by rcases List.mem_cons.mp hx with rfl | hx; exact h3; exact h2 x hx⟩
  obtain ⟨ks, h1, h2⟩ := hk hv h.key
  have hn : ks.Nodup := by
    have := h.nd
    rw [h1, List.map_map] at this
    exact List.Pairwise.of_map _ (fun a b z e => z (by rw [e])) this
  have hm : ∀ c, c ∈ ks ↔ (f c).isSome = true := fun c => by
    rw [← h.in_ c]
    constructor
    · intro hc
      have : (Sum.inl (c : Int) : Key) ∈ hv.map (·.1) := by rw [h1, List.map_map]; exact List.mem_map.mpr ⟨c, hc, rfl⟩
      cases e : valV hv (Sum.inl (c : Int)) with
      | none => exact absurd this (valV_not e)
      | some v => rfl
    · intro hc
      obtain ⟨v, e⟩ := Option.isSome_iff_exists.mp hc
      have := valV_in e
      rw [h1, List.map_map] at this
      obtain ⟨d, hd, ed⟩ := List.mem_map.mp this
      have : d = c := by have : (d : Int) = (c : Int) := Sum.inl.inj ed; omega
      rw [← this]; exact hd
  exact ⟨ks, h1, hn, h2, hm, nodup_lt_len m ks hn h2⟩
theorem keys_sorted {m : Nat} {f : HF} {ks l : List Nat} (hn : ks.Nodup) (hm : ∀ c, c ∈ ks → c < m) (hf : ∀ c, c ∈ ks ↔ (f c).isSome = true) (hp : l.Perm ks) (hs : l.Pairwise (· ≤ ·)) : l = (List.range m).filter fun c => (f c).isSome := by
  refine nat_sorted_eq (hp.trans ?_) hs ((List.pairwise_lt_range).imp (fun h => Nat.le_of_lt h) |>.filter _)
  refine (List.perm_ext_iff_of_nodup hn (List.nodup_range.filter _)).mpr fun c => ?_
  rw [List.mem_filter, List.mem_range, hf]
  exact ⟨fun hc => ⟨hm c ((hf c).mpr hc), hc⟩, fun hc => hc.2⟩
/-- sorted(hand) -/
theorem sorted_hand {m : Nat} {hv : List (Key × V)} {f : HF} {a : Addr} {R : KR} (h : HandF K G m hv f) (ha : At G M a (.dK hv)) (hm : m ≤ 32) (q : ∀ p, Fr G M p → R (.ref p) G ((p, .lst (natsV ((List.range m).filter fun c => (f c).isSome))) :: M)) : kSortedD [.ref a] G M R := by
  obtain ⟨ks, h1, h2, h3, h4, h5⟩ := h.keys
  refine ⟨hv, ks.map fun (c : Nat) => (c : Int), ha, h1, by rw [List.length_map]; omega, fun ys p pm pw fp => ?_⟩
  obtain ⟨l, rfl⟩ := ints_nats (ys := ys) fun y hy => by
    obtain ⟨c, _, rfl⟩ := List.mem_map.mp (pm.mem_iff.mp hy)
    exact Int.natCast_nonneg _
  have e := keys_sorted h2 h3 h4 (perm_nats pm) ((List.pairwise_map.mp pw).imp fun {a b} h => by omega)
  rw [natsV_ints, e]
  exact q p fp
end
section
variable {K : PySem.W.Frag} {vs : List V} {G : Hp} {M : Mem} {R : KR} {Z : KX}
theorem BodyI.ex {G' : Hp} {A : BodyA} {m high : Nat} {fs : List Nat} {th : Th} {f : HF} {xs : List V} {hv : List (Key × V)} (e : Ex G G') (h : BodyI K G A m high fs th f xs hv) : BodyI K G' A m high fs th f xs hv :=
  ⟨ex_l e h.sf, h.fl, ex_ds e _ h.sx, h.sv.ex e, h.tl, h.tm, h.hi, h.m1⟩
theorem pf_Body_word_of (h : S_Body_word_of K vs G M R Z) : rd_Body_word_of K (ends R Z) (sta 2 vs) G M := by
  obtain ⟨_, _, rfl, A, kp, num, m, high, c, fs, th, f, xs, hv, F, rfl, rfl, hp, hi, hc, q⟩ := sp2_of h
  have wk : Wk G M G (bodyB K A kp num high xs hv ++ F) := Wk.perm hp.symm
  have wk' : Wk G (bodyB K A kp num high xs hv ++ F) G M := Wk.perm hp
  refine ⟨G, _, wk, 8, A.db, _, 3, .ref A.hd, at_n (n := 0) rfl, rfl, rfl, hv, Sum.inl (c : Int), at_n (n := 3) rfl, rfl, ?_⟩
  show if (valV hv (Sum.inl (c : Int))).isSome = true then _ else _
  rw [hi.sv.in_]
  cases e : f c with
  | none =>
    rw [e] at q
    refine ⟨G, _, Wk.refl, 8, A.db, _, 2, .ref A.fs, at_n (n := 0) rfl, rfl, rfl, natsV fs, _, lst_g hi.sf, atI_natD (by rw [hi.fl]; exact hc), retW wk' q⟩
  | some p =>
    rw [e] at q
    obtain ⟨v, h1, h2⟩ := hi.sv.val c p e
    obtain ⟨T, xs2, rfl, s, a⟩ := dp_tup_inv h2
    have e2 : xs2 = [V.int p.1, V.int p.2] := dpall_ints_inv (ns := [(p.1 : Int), p.2]) a
    subst e2
    exact ⟨G, _, Wk.refl, 8, A.db, _, 3, .ref A.hd, at_n (n := 0) rfl, rfl, rfl, hv, Sum.inl (c : Int), .ref T, at_n (n := 3) rfl, rfl, h1, _, _, .inr s, rfl, retW wk' q⟩
theorem HandF.len {m : Nat} {hv : List (Key × V)} {f : HF} (h : HandF K G m hv f) : hv.length ≤ m := by
  obtain ⟨ks, h1, _, _, _, h5⟩ := h.keys
  have := congrArg List.length h1
  rw [List.length_map, List.length_map, List.length_map] at this
  omega
theorem pf_Body_keep (h : S_Body_keep K vs G M R Z) : rd_Body_keep K (ends R Z) (sta 4 vs) G M := by
  obtain ⟨_, _, _, _, rfl, A, kp, num, m, high, c, w, l, fs, th, f, xs, hv, F, rfl, rfl, rfl, rfl, hp, hi, hc, q⟩ := sp4_of h
  have wk : Wk G M G (bodyB K A kp num high xs hv ++ F) := Wk.perm hp.symm
  have hl := hi.sv.len
  have hm := hi.m1
  refine ⟨G, _, wk, sz2, fun T fT => ⟨8, A.db, _, 3, .ref A.hd, at_n (n := 0) rfl, rfl, rfl, 3, hv, Sum.inl (c : Int), rfl, rfl, Nat.lt_of_le_of_lt (m := 32) (by omega) (by decide), ?_⟩⟩
  have x := Ex.new (o := .tup [.int (w : Int), .int (l : Int)]) fT
  have hi' := hi.ex x
  exact ret0 (q _ _ x ⟨hi'.sf, hi'.fl, hi'.sx, hi'.sv.put hc (.tup sqt_new (.cons (.int _) (.cons (.int _) .nil))), hi'.tl, hi'.tm, hi'.hi, hi'.m1⟩)
theorem pf_Body_cells_in_hand (h : S_Body_cells_in_hand K vs G M R Z) : rd_Body_cells_in_hand K (ends R Z) (sta 1 vs) G M := by
  obtain ⟨_, rfl, A, kp, num, m, high, fs, th, f, xs, hv, F, rfl, hp, hi, q⟩ := sp1_of h
  have wk : Wk G M G (bodyB K A kp num high xs hv ++ F) := Wk.perm hp.symm
  refine ⟨G, _, wk, 8, A.db, _, 3, .ref A.hd, at_n (n := 0) rfl, rfl, rfl, ?_⟩
  simp only [kNil]
  refine sorted_hand hi.sv (at_n (n := 3) rfl) hi.m1 fun p fp => ?_
  exact retW (Wk.perm (hp.cons _)) (q p ⟨fp.1, fun x hx => fp.2 x (hp.mem_iff.mp hx)⟩)
theorem filter_take_two {l : List V} : cutV l none (some 2) = l.take 2 := cut_take (k := 2)
theorem pf_Body_fitting (h : S_Body_fitting K vs G M R Z) : rd_Body_fitting K (ends R Z) (sta 5 vs) G M := by
  obtain ⟨_, _, _, rfl, A, kp, num, m, high, d, node, fs, th, f, xs, hv, F, rfl, rfl, rfl, rfl, hi, hd, q⟩ := sp3_of h
  clear h
  obtain ⟨ks, hks⟩ : ∃ ks, ks = (List.range m).filter fun c => (f c).isSome := ⟨_, rfl⟩
  have hkl : ks.length ≤ 32 := by
    have := List.length_filter_le (fun c => (f c).isSome) (List.range m)
    rw [List.length_range] at this
    have := hi.m1
    rw [hks]; omega
  refine ⟨G, _, Wk.refl, 8, A.db, _, 3, .ref A.hd, at_n (n := 0) rfl, rfl, rfl, ?_⟩
  simp only [kNil]
  refine sorted_hand hi.sv (at_n (n := 3) rfl) hi.m1 fun p fp => ?_
  rw [← hks]
  refine ⟨natsV ks, lat_0, sz (by show (natsV ks).length ≤ _; rw [natsV_len]; omega), fun i acc G' M' => G' = G ∧ M' = (p, .lst (natsV ks)) :: (bodyB K A kp num high xs hv ++ F) ∧ acc = natsV ((ks.take i).filter (fitB high d node f)), ⟨rfl, rfl, rfl⟩, ?_, ?_, ?_⟩
  · rintro i acc G' M' _ ⟨rfl, rfl, _⟩; exact lat_0
  · rintro i acc G' M' D hi2 hacc ⟨rfl, rfl, rfl⟩ fD
    have hi2 : i < (natsV ks).length := hi2
    rw [natsV_len] at hi2
    obtain ⟨c, hc⟩ : ∃ c, ks[i]? = some c := ⟨_, List.getElem?_eq_getElem hi2⟩
    have hcf : (f c).isSome = true := by
      have := List.mem_of_getElem? hc
      rw [hks, List.mem_filter] at this
      exact this.2
    obtain ⟨pp, hpp⟩ := Option.isSome_iff_exists.mp hcf
    obtain ⟨v, h1, h2⟩ := hi.sv.val c pp hpp
    obtain ⟨T, xs2, rfl, s, a⟩ := dp_tup_inv h2
    have e2 : xs2 = [V.int pp.1, V.int pp.2] := dpall_ints_inv (ns := [(pp.1 : Int), pp.2]) a
    subst e2
    refine asg_L (natsV_get hc) ⟨rfl, 8, A.db, _, 1, .int high, at_n (n := 2) rfl, rfl, rfl, 8, A.db, _, 3, .ref A.hd, at_n (n := 2) rfl, rfl, rfl, hv, Sum.inl (c : Int), .ref T, at_n (n := 5) rfl, rfl, h1, _, _, .inr s, rfl, high, d, pp.2, rfl, rfl, rfl, hd, hi.hi, ?_⟩
    have ef : fitB high d node f c = decide (nodeN high d pp.2 = node) := by unfold fitB; rw [hpp]
    have ec : decide (V.int (nodeN high d pp.2 : Nat) = V.int (node : Nat)) = fitB high d node f c := by
      rw [ef]; exact decide_eq_decide.mpr ⟨fun z => by have := V.int.inj z; omega, fun z => by rw [z]⟩
    show if decide (V.int (nodeN high d pp.2 : Nat) = V.int (node : Nat)) = true then _ else _
    rw [ec]
    have et : ks.take (i + 1) = ks.take i ++ [c] := take_succ' hc
    refine ite2' (fun e => ⟨_, _, Wk.refl, rfl, rfl, ?_⟩) (fun e => ⟨_, _, Wk.refl, rfl, rfl, ?_⟩)
    · rw [et, List.filter_append, natsV_app2, List.filter_cons_of_pos e]; rfl
    · rw [et, List.filter_append, natsV_app2, List.filter_cons_of_neg (by rw [e]; exact Bool.false_ne_true)]
      show _ = _ ++ natsV (List.filter _ [])
      rw [List.filter_nil]; exact (List.append_nil _).symm
  · rintro acc G' M' w ⟨rfl, rfl, rfl⟩ hacc fw
    refine ⟨G', _, Wk.refl, _, lat_0, fun t ft => ?_⟩
    have hk : (ks.take (srcL K p (natsV ks)).n).filter (fitB high d node f) = (List.range m).filter (fitB high d node f) := by
      have e1 : (srcL K p (natsV ks)).n = ks.length := natsV_len ks
      rw [e1, List.take_length, hks, List.filter_filter]
      refine List.filter_congr fun c _ => ?_
      unfold fitB
      cases f c <;> simp
    rw [hk, filter_take_two]
    have ht : (natsV ((List.range m).filter (fitB high d node f))).take 2 = natsV (fitsN m high d node f) := by
      unfold fitsN natsV; rw [List.map_take]
    rw [ht]
    refine retW (G' := G') (M' := (t, .lst (natsV (fitsN m high d node f))) :: (bodyB K A kp num high xs hv ++ F)) ?_ (q t ⟨ft.1, fun x hx => ft.2 x (List.mem_cons_of_mem _ (List.mem_cons_of_mem _ hx))⟩)
    exact Wk.drop1.trans Wk.drop1
theorem node_lt {high d leaf : Nat} (hd : d ≤ high) (hl : leaf < 2 ^ high) : 2 * nodeN high d leaf + 1 < 2 * (2 * 2 ^ high - 1) := by
  unfold nodeN
  have h1 : leaf / 2 ^ (high - d) < 2 ^ d := by
    rw [Nat.div_lt_iff_lt_mul (Nat.two_pow_pos _), ← Nat.pow_add, show d + (high - d) = high by omega]; exact hl
  have h2 : 2 ^ d ≤ 2 ^ high := Nat.pow_le_pow_right (by decide) hd
  have h3 : 1 ≤ 2 ^ d := Nat.one_le_two_pow
  omega
theorem ent_get {xs : List V} {th : Th} {r : Nat} (h : DpAll K G xs (th.map entD)) (hr : r < th.length) : ∃ v, xs[r]? = some v ∧ Dp K G v (entD (th.getD r none)) := by
  have e : th[r]? = some (th.getD r none) := by rw [List.getD_eq_getElem?_getD, List.getElem?_eq_getElem hr]; rfl
  exact dpall_get (d := entD (th.getD r none)) h (by rw [List.getElem?_map, e]; rfl)
theorem ent_none {v : V} (h : Dp K G v (entD none)) : v = .non := by cases h; rfl
theorem ent_some {v : V} {e : Nat × Nat × Nat} (h : Dp K G v (entD (some e))) : ∃ T, v = .ref T ∧ SqT K G T [.int e.1, .int e.2.1, .int e.2.2] := by
  obtain ⟨T, xs, rfl, s, a⟩ := dp_tup_inv h
  have e2 : xs = [V.int e.1, V.int e.2.1, V.int e.2.2] := dpall_ints_inv (ns := [(e.1 : Int), e.2.1, e.2.2]) a
  subst e2
  exact ⟨T, rfl, s⟩
theorem lookW_succ (th : Th) (high leaf : Nat) (f : HF) (k : Nat) : lookW th high leaf f (k + 1) = lookR th (lookR th (lookW th high leaf f k) (2 * nodeN high k leaf)) (2 * nodeN high k leaf + 1) := by
  unfold lookW; rw [List.range_succ, List.foldl_append]; rfl
theorem lookT_succ (num high leaf k : Nat) : lookT num high leaf (k + 1) = lookT num high leaf k ++ [⟨false, num, 2 * nodeN high k leaf⟩, ⟨false, num, 2 * nodeN high k leaf + 1⟩] := by
  unfold lookT; rw [List.range_succ, List.flatMap_append]; simp
theorem lookT_len (num high leaf k : Nat) : (lookT num high leaf k).length = 2 * k := by
  induction k with
  | zero => rfl
  | succ k ih => rw [lookT_succ, List.length_append, ih]; show 2 * k + 2 = _; omega
theorem layT_succ (num high leaf k : Nat) : layT num high leaf (k + 1) = layT num high leaf k ++ [⟨true, num, 2 * nodeN high (high - k) leaf⟩, ⟨true, num, 2 * nodeN high (high - k) leaf + 1⟩] := by
  unfold layT; rw [List.range_succ, List.flatMap_append]; simp
theorem layT_len (num high leaf k : Nat) : (layT num high leaf k).length = 2 * k := by
  induction k with
  | zero => rfl
  | succ k ih => rw [layT_succ, List.length_append, ih]; show 2 * k + 2 = _; omega
theorem layW_succ (m high leaf : Nat) (s : Th × HF) (k : Nat) : layW m high leaf s (k + 1) = layD m high leaf (layW m high leaf s k) (high - k) := by
  unfold layW; rw [List.range_succ, List.foldl_append]; rfl
/-- one look on a way -/
theorem look_step {A : BodyA} {kp dk lg : Addr} {o : HO} {ts : List Tch} {num m high leaf d sd : Nat} {fs : List Nat} {th : Th} {f : HF} {xs : List V} {hv : List (Key × V)} {F : Mem} {y4 : Option V} {D : Kd} (hi : BodyI K G A m high fs th f xs hv) (hlg : LogC K G ts o) (hl : leaf < 2 ^ high) (hd : d ≤ high) (hs : sd ≤ 1) (hts : ts.length ≤ 990000)
    (hD : ∀ G' o' hv' y, Ex G G' → LogC K G' (ts ++ [⟨false, num, 2 * nodeN high d leaf + sd⟩]) o' → BodyI K G' A m high fs th (lookR th f (2 * nodeN high d leaf + sd)) xs hv' → D.nx [some (.ref A.b), some (.int leaf), some (.int d), some (.int sd), y] G' (bodyB K A kp num high xs hv' ++ (keepB K kp dk lg o' ++ F))) :
    rd_Body_look_way_b1 K D [some (.ref A.b), some (.int leaf), some (.int d), some (.int sd), y4] G (bodyB K A kp num high xs hv ++ (keepB K kp dk lg o ++ F)) := by
  have hr : 2 * nodeN high d leaf + sd < th.length := by
    have := node_lt hd hl
    rw [hi.tl]; omega
  obtain ⟨v, hv1, hv2⟩ := ent_get hi.sx hr
  refine ⟨G, _, Wk.refl, 8, A.db, _, 0, .ref A.sh, at_n (n := 0) rfl, rfl, rfl, 2, A.dh, _, S_Shelf_look K, at_n (n := 1) rfl, rfl, 8, A.db, _, 1, .int high, at_n (n := 0) rfl, rfl, rfl, high, d, leaf, rfl, rfl, rfl, hd, hi.hi, nodeN high d leaf, sd, rfl, rfl, A.sh, A.dh, kp, A.th, num, 1, 2, xs, rfl, ⟨rfl, rfl⟩, .inr ⟨dk, lg, 4, 5, o, ts, 2 * nodeN high d leaf + sd, v, rfl, ⟨rfl, rfl, hlg⟩, by omega, hv1, by decide, fun G1 o1 ex1 ho1 => ?_⟩⟩
  have hi1 := hi.ex ex1
  unfold lookR at hD
  cases he : th.getD (2 * nodeN high d leaf + sd) none with
  | none =>
    rw [he] at hv2 hD
    have := ent_none hv2
    subst this
    refine ⟨G1, _, Wk.refl, ?_⟩
    exact hD G1 o1 hv _ ex1 ho1 hi1
  | some e =>
    rw [he] at hv2 hD
    obtain ⟨T, rfl, hT⟩ := ent_some hv2
    have hT1 := ex_t ex1 hT
    have hem : e.1 < m := hi.tm (2 * nodeN high d leaf + sd) e (by rw [List.getD_eq_getElem?_getD, List.getElem?_eq_getElem hr] at he; rw [List.getElem?_eq_getElem hr]; congr 1)
    have hl := hi.sv.len
    have hm := hi.m1
    have tt : ∀ {G' : Hp} {Mx : Mem}, Ex G1 G' → SeqAt' K G' Mx T [.int e.1, .int e.2.1, .int e.2.2] := fun x => .inr (ex_t x hT1)
    refine ⟨G1, _, Wk.refl, ?_⟩
    refine ⟨G1, _, Wk.refl, _, _, tt Ex.refl, rfl, _, _, tt Ex.refl, rfl, sz2, fun T2 f2 => ?_⟩
    have x2 := Ex.new (o := .tup [.int (e.2.1 : Int), .int (e.2.2 : Int)]) f2
    refine ⟨8, A.db, _, 3, .ref A.hd, at_n (n := 0) rfl, rfl, rfl, _, _, tt x2, rfl, 3, hv, Sum.inl (e.1 : Int), rfl, rfl, Nat.lt_of_le_of_lt (m := 32) (by omega) (by decide), ?_⟩
    have hi2 := hi1.ex x2
    exact hD _ o1 _ _ (ex1.trans x2) (ho1.ex x2) ⟨hi2.sf, hi2.fl, hi2.sx, hi2.sv.put hem (.tup sqt_new (.cons (.int _) (.cons (.int _) .nil))), hi2.tl, hi2.tm, hi2.hi, hi2.m1⟩
theorem sides_get {i : Nat} (hi : i < 2) : con_SIDES[i]? = some (.int (i : Int)) := by
  have e : i = 0 ∨ i = 1 := by omega
  rcases e with rfl | rfl <;> rfl
theorem pf_Body_look_way (h : S_Body_look_way K vs G M R Z) : rd_Body_look_way K (ends R Z) (sta 5 vs) G M := by
  obtain ⟨_, _, rfl, A, kp, dk, lg, o, ts, num, m, high, leaf, fs, th, f, xs, hv, F, rfl, rfl, hp, hi, hlg, hl, hts, q⟩ := sp2_of h
  clear h
  have hh := hi.hi
  refine ⟨G, _, Wk.perm hp.symm, 8, A.db, _, 1, .int high, at_n (n := 0) rfl, rfl, rfl, ⟨by omega, by omega⟩, fun i σ G' M' => ∃ (o' : HO) (hv' : List (Key × V)) (y2 y3 y4 : Option V), σ = [some (.ref A.b), some (.int leaf), y2, y3, y4] ∧ Ex G G' ∧ M' = bodyB K A kp num high xs hv' ++ (keepB K kp dk lg o' ++ F) ∧ LogC K G' (ts ++ lookT num high leaf i) o' ∧ BodyI K G' A m high fs th (lookW th high leaf f i) xs hv',
    ⟨o, hv, _, _, _, rfl, Ex.refl, rfl, by show LogC K G (ts ++ []) o; rw [List.append_nil]; exact hlg, hi⟩, fun _ _ _ _ _ _ => trivial, ?_, ?_⟩
  · rintro d σ G' M' hd ⟨o1, hv1, y2, y3, y4, rfl, ex, rfl, hlg1, hi1⟩
    have hd : d < ((high : Int) + 1).toNat := hd
    have hd : d ≤ high := by omega
    refine asg_R (v := (d : Int)) (by omega) ?_
    refine ⟨G', _, Wk.refl, fun hc => ⟨con_SIDES, hc G', fun i σ G2 M2 => ∃ (o' : HO) (hv' : List (Key × V)) (y3 y4 : Option V), σ = [some (.ref A.b), some (.int leaf), some (.int d), y3, y4] ∧ Ex G G2 ∧ M2 = bodyB K A kp num high xs hv' ++ (keepB K kp dk lg o' ++ F) ∧ LogC K G2 (ts ++ lookT num high leaf d ++ ([⟨false, num, 2 * nodeN high d leaf⟩, ⟨false, num, 2 * nodeN high d leaf + 1⟩] : List Tch).take i) o' ∧ BodyI K G2 A m high fs th ((List.range i).foldl (fun f s => lookR th f (2 * nodeN high d leaf + s)) (lookW th high leaf f d)) xs hv',
      ⟨o1, hv1, _, _, rfl, ex, rfl, by rw [List.take_zero, List.append_nil]; exact hlg1, hi1⟩, fun _ _ G2 _ _ _ => hc G2, ?_, ?_⟩⟩
    · rintro sd σ G2 M2 hs ⟨o2, hv2, y3, y4, rfl, ex2, rfl, hlg2, hi2⟩
      have hs : sd < 2 := hs
      refine asg_T (sides_get hs) (look_step hi2 hlg2 hl hd (by omega) ?_ fun G3 o3 hv3 y e3 hlg3 hi3 => ?_)
      · rw [List.length_append, List.length_append, lookT_len, List.length_take]; omega
      · refine ⟨G3, _, Wk.refl, o3, hv3, _, _, rfl, ex2.trans e3, rfl, ?_, ?_⟩
        · have e : ([⟨false, num, 2 * nodeN high d leaf⟩, ⟨false, num, 2 * nodeN high d leaf + 1⟩] : List Tch).take (sd + 1) = ([⟨false, num, 2 * nodeN high d leaf⟩, ⟨false, num, 2 * nodeN high d leaf + 1⟩] : List Tch).take sd ++ [⟨false, num, 2 * nodeN high d leaf + sd⟩] := by
            have e : sd = 0 ∨ sd = 1 := by omega
            rcases e with rfl | rfl <;> rfl
          rw [e, ← List.append_assoc]; exact hlg3
        · rw [List.range_succ, List.foldl_append]; exact hi3
    · rintro σ G2 M2 ⟨o2, hv2, y3, y4, rfl, ex2, rfl, hlg2, hi2⟩
      refine ⟨G2, _, Wk.refl, o2, hv2, _, _, _, rfl, ex2, rfl, ?_, ?_⟩
      · rw [lookT_succ, ← List.append_assoc]; exact hlg2
      · rw [lookW_succ]; exact hi2
  · rintro σ G' M' ⟨o1, hv1, y2, y3, y4, rfl, ex, rfl, hlg1, hi1⟩
    have en : (srcR 0 ((high : Int) + 1).toNat).n = high + 1 := by show ((high : Int) + 1).toNat = _; omega
    rw [en] at hlg1 hi1
    exact ret0 (q G' o1 hv1 ex hlg1 hi1)
def rmC (f : HF) : Option Nat → HF
  | some c => fun x => if x = c then none else f x
  | none => f
theorem dpall_setT : ∀ {vs : List V} {ds : List PyData} {i : Nat} {v : V} {d : PyData}, DpAll K G vs ds → Dp K G v d → DpAll K G (vs.set i v) (ds.set i d)
  | _, _, _, _, _, .nil, _ => .nil
  | _, _, 0, _, _, .cons _ b, h => .cons h b
  | _, _, i + 1, _, _, .cons a b, h => .cons a (dpall_setT b h)
theorem BodyI.lay {A : BodyA} {m high r : Nat} {fs : List Nat} {th : Th} {f f' : HF} {xs : List V} {hv hv' : List (Key × V)} {e : Option (Nat × Nat × Nat)} {v : V} (hi : BodyI K G A m high fs th f xs hv) (hv2 : HandF K G m hv' f') (hd : Dp K G v (entD e)) (he : ∀ x, e = some x → x.1 < m) : BodyI K G A m high fs (th.set r e) f' (xs.set r v) hv' :=
  ⟨hi.sf, hi.fl, by rw [List.map_set]; exact dpall_setT hi.sx hd, hv2, by rw [List.length_set]; exact hi.tl, fun r' x hx => by
    rw [List.getElem?_set] at hx
    split at hx
    · split at hx
      · exact he x (Option.some.inj hx)
      · cases hx
    · exact hi.tm r' x hx, hi.hi, hi.m1⟩
theorem lay_step {A : BodyA} {kp dk lg pc : Addr} {o : HO} {ts : List Tch} {num m high leaf d sd : Nat} {fs cs : List Nat} {th : Th} {f : HF} {xs : List V} {hv : List (Key × V)} {F : Mem} {y6 y7 y8 : Option V} {D : Kd} (hi : BodyI K G A m high fs th f xs hv) (hlg : LogC K G ts o) (hl : leaf < 2 ^ high) (hd : d ≤ high) (hs : sd ≤ 1) (hts : ts.length ≤ 990000) (hcl : cs.length ≤ 2)
    (hcs : ∀ c, cs[sd]? = some c → c < m ∧ (f c).isSome = true)
    (hD : ∀ G' o' xs' hv' y6 y7 y8, Ex G G' → LogC K G' (ts ++ [⟨true, num, 2 * nodeN high d leaf + sd⟩]) o' → BodyI K G' A m high fs (th.set (2 * nodeN high d leaf + sd) (takeC f cs sd)) (rmC f cs[sd]?) xs' hv' → D.nx [some (.ref A.b), some (.int leaf), some (.int d), some (.int (nodeN high d leaf : Nat)), some (.ref pc), some (.int sd), y6, y7, y8] G' ((pc, .lst (natsV cs)) :: (bodyB K A kp num high xs' hv' ++ (keepB K kp dk lg o' ++ F)))) :
    rd_Body_lay_way_b1 K D [some (.ref A.b), some (.int leaf), some (.int d), some (.int (nodeN high d leaf : Nat)), some (.ref pc), some (.int sd), y6, y7, y8] G ((pc, .lst (natsV cs)) :: (bodyB K A kp num high xs hv ++ (keepB K kp dk lg o ++ F))) := by
  have hr : 2 * nodeN high d leaf + sd < th.length := by
    have := node_lt hd hl
    rw [hi.tl]; omega
  have hxl : xs.length = th.length := by rw [dpall_len hi.sx, List.length_map]
  -- the laying
  have lay : ∀ (G1 : Hp) (hv1 : List (Key × V)) (v : V) (y7 y8 : Option V), Ex G G1 → Dp K G1 v (entD (takeC f cs sd)) → HandF K G1 m hv1 (rmC f cs[sd]?) → rd_Body_lay_way_b1_2 K D [some (.ref A.b), some (.int leaf), some (.int d), some (.int (nodeN high d leaf : Nat)), some (.ref pc), some (.int sd), some v, y7, y8] G1 ((pc, .lst (natsV cs)) :: (bodyB K A kp num high xs hv1 ++ (keepB K kp dk lg o ++ F))) := by
    intro G1 hv1 v y7 y8 e1 hdv hh
    refine ⟨G1, _, Wk.refl, 8, A.db, _, 0, .ref A.sh, at_n (n := 1) rfl, rfl, rfl, 2, A.dh, _, S_Shelf_lay K, at_n (n := 2) rfl, rfl, nodeN high d leaf, sd, rfl, rfl, A.sh, A.dh, kp, A.th, num, 2, 3, xs, rfl, ⟨rfl, rfl⟩, .inr ⟨dk, lg, 5, 6, o, ts, 2 * nodeN high d leaf + sd, rfl, ⟨rfl, rfl, hlg.ex e1⟩, by omega, by omega, by decide, by decide, fun G2 o2 ex2 ho2 => ?_⟩⟩
    refine hD G2 o2 (xs.set (2 * nodeN high d leaf + sd) v) hv1 _ _ _ (e1.trans ex2) ho2 (((hi.ex e1).lay hh hdv fun x hx => ?_).ex ex2)
    unfold takeC at hx
    cases e : cs[sd]? with
    | none => rw [e] at hx; cases hx
    | some c =>
      rw [e] at hx
      obtain ⟨p, _, rfl⟩ := Option.map_eq_some_iff.mp hx
      exact (hcs c e).1
  refine ⟨G, _, Wk.refl, ?_⟩
  refine ⟨G, _, Wk.refl, natsV cs, lst_n (n := 0) rfl, ?_⟩
  refine ite2' (c := decide ((sd : Int) < ((natsV cs).length : Int))) (fun hlt => ?_) (fun hge => ?_)
  · have hlt : sd < cs.length := by have := of_decide_eq_true hlt; rw [natsV_len] at this; omega
    obtain ⟨c, hc⟩ : ∃ c, cs[sd]? = some c := ⟨_, List.getElem?_eq_getElem hlt⟩
    obtain ⟨hcm, hcf⟩ := hcs c hc
    obtain ⟨p, hp⟩ := Option.isSome_iff_exists.mp hcf
    obtain ⟨v, h1, h2⟩ := hi.sv.val c p hp
    obtain ⟨T, xs2, rfl, s, a⟩ := dp_tup_inv h2
    have e2 : xs2 = [V.int p.1, V.int p.2] := dpall_ints_inv (ns := [(p.1 : Int), p.2]) a
    subst e2
    have hat : atI (natsV cs) (sd : Int) = some (.int (c : Int)) := atI_nat (natsV_get hc)
    refine ⟨G, _, Wk.refl, 8, A.db, _, 3, .ref A.hd, at_n (n := 1) rfl, rfl, rfl, ⟨hv, at_n (n := 4) rfl⟩, natsV cs, _, lst_n (n := 0) rfl, hat, sz2, fun T0 f0 => ?_⟩
    have x0 := Ex.new (o := .tup [.int 0, .int 0]) f0
    refine ⟨4, hv, Sum.inl (c : Int), rfl, rfl, fun u hu => ?_, fun z => by rw [h1] at z; cases z⟩
    rw [h1] at hu
    cases hu
    refine ⟨_, ex_t x0 s, ?_⟩
    refine ⟨_, _, Wk.refl, natsV cs, _, lst_n (n := 0) rfl, hat, sz3, fun T3 f3 => ?_⟩
    have x3 := Ex.new (o := .tup [.int (c : Int), .int (p.1 : Int), .int (p.2 : Int)]) f3
    refine lay _ (dropK hv (Sum.inl (c : Int))) (.ref T3) _ _ (x0.trans x3) ?_ ?_
    · unfold takeC
      rw [hc]
      simp only []
      rw [hp]
      exact .tup sqt_new (.cons (.int _) (.cons (.int _) (.cons (.int _) .nil)))
    · rw [hc]
      exact (hi.sv.ex (x0.trans x3)).drop
  · have hge : ¬ sd < cs.length := by have := of_decide_eq_false hge; rw [natsV_len] at this; omega
    have hn : cs[sd]? = none := List.getElem?_eq_none (by omega)
    refine lay G hv .non _ _ Ex.refl ?_ ?_
    · unfold takeC; rw [hn]; exact .non
    · rw [hn]; exact hi.sv
theorem fits_mem {m high d node : Nat} {f : HF} {c : Nat} (h : c ∈ fitsN m high d node f) : c < m ∧ (f c).isSome = true := by
  have := List.mem_of_mem_take h
  rw [List.mem_filter, List.mem_range] at this
  refine ⟨this.1, ?_⟩
  have h2 := this.2
  unfold fitB at h2
  cases e : f c with
  | none => rw [e] at h2; cases h2
  | some p => rfl
theorem fits_nodup {m high d node : Nat} {f : HF} : (fitsN m high d node f).Nodup := (List.nodup_range.filter _).sublist (List.take_sublist _ _)
theorem fits_len {m high d node : Nat} {f : HF} : (fitsN m high d node f).length ≤ 2 := by unfold fitsN; rw [List.length_take]; omega
theorem pf_Body_lay_way (h : S_Body_lay_way K vs G M R Z) : rd_Body_lay_way K (ends R Z) (sta 9 vs) G M := by
  obtain ⟨_, _, rfl, A, kp, dk, lg, o, ts, num, m, high, leaf, fs, th, f, xs, hv, F, rfl, rfl, hp, hi, hlg, hl, hts, q⟩ := sp2_of h
  clear h
  have hh := hi.hi
  have hr := rg_down (i := (high : Int)) (j := -1) (by omega) (by omega) (by omega) (by omega)
  have en : ((high : Int) - -1).toNat = high + 1 := by omega
  rw [en] at hr
  refine ⟨G, _, Wk.perm hp.symm, 8, A.db, _, 1, .int high, at_n (n := 0) rfl, rfl, rfl, _, hr, fun i σ G' M' => ∃ (o' : HO) (xs' : List V) (hv' : List (Key × V)) (y2 y3 y4 y5 y6 y7 y8 : Option V), σ = [some (.ref A.b), some (.int leaf), y2, y3, y4, y5, y6, y7, y8] ∧ Ex G G' ∧ M' = bodyB K A kp num high xs' hv' ++ (keepB K kp dk lg o' ++ F) ∧ LogC K G' (ts ++ layT num high leaf i) o' ∧ BodyI K G' A m high fs (layW m high leaf (th, f) i).1 (layW m high leaf (th, f) i).2 xs' hv',
    ⟨o, xs, hv, _, _, _, _, _, _, _, rfl, Ex.refl, rfl, by show LogC K G (ts ++ []) o; rw [List.append_nil]; exact hlg, hi⟩, fun _ _ _ _ _ _ => trivial, ?_, ?_⟩
  · rintro i σ G' M' hd ⟨o1, x1, hv1, y2, y3, y4, y5, y6, y7, y8, rfl, ex, rfl, hlg1, hi1⟩
    have hd : i < high + 1 := hd
    obtain ⟨d, hdd⟩ : ∃ d, d = high - i := ⟨_, rfl⟩
    have hdh : d ≤ high := by omega
    refine asg_C (v := (d : Int)) (by omega) ?_
    refine ⟨G', _, Wk.refl, 8, A.db, _, 1, .int high, at_n (n := 0) rfl, rfl, rfl, high, d, leaf, rfl, rfl, rfl, hdh, hh, ?_⟩
    obtain ⟨th1, hth1⟩ : ∃ th1, th1 = (layW m high leaf (th, f) i).1 := ⟨_, rfl⟩
    obtain ⟨f1, hf1⟩ : ∃ f1, f1 = (layW m high leaf (th, f) i).2 := ⟨_, rfl⟩
    rw [← hth1, ← hf1] at hi1
    refine ⟨G', _, Wk.refl, 8, A.db, _, S_Body_fitting K, at_n (n := 0) rfl, rfl, A, kp, num, m, high, d, nodeN high d leaf, fs, th1, f1, x1, hv1, _, rfl, rfl, rfl, rfl, hi1, hdh, fun pc fpc => ?_⟩
    obtain ⟨cs, hcs⟩ : ∃ cs, cs = fitsN m high d (nodeN high d leaf) f1 := ⟨_, rfl⟩
    rw [← hcs]
    have hcl : cs.length ≤ 2 := by rw [hcs]; exact fits_len
    have hcn : cs.Nodup := by rw [hcs]; exact fits_nodup
    have hcm : ∀ c, c ∈ cs → c < m ∧ (f1 c).isSome = true := fun c hc => by rw [hcs] at hc; exact fits_mem hc
    refine ⟨G', _, Wk.refl, fun hc => ⟨con_SIDES, hc G', fun k σ G2 M2 => ∃ (o' : HO) (xs' : List V) (hv' : List (Key × V)) (y5 y6 y7 y8 : Option V), σ = [some (.ref A.b), some (.int leaf), some (.int d), some (.int (nodeN high d leaf : Nat)), some (.ref pc), y5, y6, y7, y8] ∧ Ex G G2 ∧ M2 = (pc, .lst (natsV cs)) :: (bodyB K A kp num high xs' hv' ++ (keepB K kp dk lg o' ++ F)) ∧ LogC K G2 (ts ++ layT num high leaf i ++ ([⟨true, num, 2 * nodeN high d leaf⟩, ⟨true, num, 2 * nodeN high d leaf + 1⟩] : List Tch).take k) o' ∧
        BodyI K G2 A m high fs ((List.range k).foldl (fun th s => th.set (2 * nodeN high d leaf + s) (takeC f1 cs s)) th1) (fun x => if x ∈ cs.take k then none else f1 x) xs' hv',
      ⟨o1, x1, hv1, _, _, _, _, rfl, ex, rfl, by rw [List.take_zero, List.append_nil]; exact hlg1, by simpa using hi1⟩, fun _ _ G2 _ _ _ => hc G2, ?_, ?_⟩⟩
    · rintro sd σ G2 M2 hs ⟨o2, x2, hv2, y5, y6, y7, y8, rfl, ex2, rfl, hlg2, hi2⟩
      have hs : sd < 2 := hs
      have hnot : ∀ c, cs[sd]? = some c → c ∉ cs.take sd := fun c hc z => by
        obtain ⟨j, hj⟩ := List.getElem?_of_mem z
        have hjl : j < sd := by
          have := (List.getElem?_eq_some_iff.mp hj).1
          rw [List.length_take] at this; omega
        rw [List.getElem?_take_of_lt hjl] at hj
        have := (List.getElem?_inj (by have := (List.getElem?_eq_some_iff.mp hj).1; exact this) hcn).mp (hj.trans hc.symm)
        omega
      refine asg_T (sides_get hs) (lay_step hi2 hlg2 hl hdh (by omega) ?_ hcl (fun c hc => ?_) fun G3 o3 x3 hv3 z6 z7 z8 e3 hlg3 hi3 => ?_)
      · rw [List.length_append, List.length_append, layT_len, List.length_take]; omega
      · rw [if_neg (hnot c hc)]
        exact hcm c (List.mem_of_getElem? hc)
      · refine ⟨G3, _, Wk.refl, o3, x3, hv3, _, _, _, _, rfl, ex2.trans e3, rfl, ?_, ?_⟩
        · have e : ([⟨true, num, 2 * nodeN high d leaf⟩, ⟨true, num, 2 * nodeN high d leaf + 1⟩] : List Tch).take (sd + 1) = ([⟨true, num, 2 * nodeN high d leaf⟩, ⟨true, num, 2 * nodeN high d leaf + 1⟩] : List Tch).take sd ++ [⟨true, num, 2 * nodeN high d leaf + sd⟩] := by
            have e : sd = 0 ∨ sd = 1 := by omega
            rcases e with rfl | rfl <;> rfl
          rw [e, ← List.append_assoc]; exact hlg3
        · have e1 : takeC (fun x => if x ∈ cs.take sd then none else f1 x) cs sd = takeC f1 cs sd := by
            unfold takeC
            cases e : cs[sd]? with
            | none => rfl
            | some c => simp only []; rw [if_neg (hnot c e)]
          have e2 : rmC (fun x => if x ∈ cs.take sd then none else f1 x) cs[sd]? = fun x => if x ∈ cs.take (sd + 1) then none else f1 x := by
            cases e : cs[sd]? with
            | none =>
              have hlen : cs.length ≤ sd := by
                apply Decidable.byContradiction
                intro z
                rw [List.getElem?_eq_getElem (by omega)] at e; cases e
              rw [List.take_of_length_le (Nat.le_succ_of_le hlen)]
              show (fun x => if x ∈ cs.take sd then none else f1 x) = _
              rw [List.take_of_length_le hlen]
            | some c =>
              rw [take_succ' e]
              funext x
              show (if x = c then none else if x ∈ cs.take sd then none else f1 x) = _
              by_cases z : x = c
              · rw [if_pos z, if_pos (by rw [z]; simp)]
              · rw [if_neg z]
                by_cases y : x ∈ cs.take sd
                · rw [if_pos y, if_pos (List.mem_append.mpr (.inl y))]
                · rw [if_neg y, if_neg (by simp [z, y])]
          rw [e1, e2] at hi3
          rw [List.range_succ, List.foldl_append]
          exact hi3
    · rintro σ G2 M2 ⟨o2, x2, hv2, y5, y6, y7, y8, rfl, ex2, rfl, hlg2, hi2⟩
      refine ⟨G2, _, Wk.drop0, o2, x2, hv2, _, _, _, _, _, _, _, rfl, ex2, rfl, ?_, ?_⟩
      · rw [layT_succ, ← List.append_assoc, ← hdd]; exact hlg2
      · rw [layW_succ, ← hdd]
        have e : layD m high leaf (layW m high leaf (th, f) i) d = layD m high leaf (th1, f1) d := by rw [hth1, hf1]
        rw [e]
        unfold layD
        have hi2 : BodyI K G2 A m high fs ((th1.set (2 * nodeN high d leaf + 0) (takeC f1 cs 0)).set (2 * nodeN high d leaf + 1) (takeC f1 cs 1)) (fun x => if x ∈ cs.take 2 then none else f1 x) x2 hv2 := hi2
        rw [List.take_of_length_le hcl] at hi2
        rw [← hcs]
        exact hi2
  · rintro σ G' M' ⟨o1, x1, hv1, y2, y3, y4, y5, y6, y7, y8, rfl, ex, rfl, hlg1, hi1⟩
    exact ret0 (q G' o1 x1 hv1 ex hlg1 hi1)
end

section
variable {K : PySem.W.Frag} {vs : List V} {G : Hp} {M : Mem} {R : KR} {Z : KX}
theorem rep_nonsT (n : Nat) : (List.replicate n [V.non]).flatten = List.replicate n V.non := by
  induction n with
  | zero => rfl
  | succ n ih => rw [List.replicate_succ, List.flatten_cons, ih, List.replicate_succ]; rfl
theorem dp_nones : ∀ n : Nat, DpAll K G (List.replicate n V.non) ((List.replicate n (none : Option (Nat × Nat × Nat))).map entD)
  | 0 => .nil
  | n + 1 => by rw [List.replicate_succ, List.replicate_succ]; exact .cons .non (dp_nones n)
theorem pf_Body_init (h : S_Body_init K vs G M R Z) : rd_Body_init K (ends R Z) (sta 5 vs) G M := by
  obtain ⟨_, _, _, _, _, rfl, a, dx, kp, b, num, high, m, fs, F, rfl, rfl, rfl, rfl, rfl, rfl, hb, hfl, hm, hh, q⟩ := sp5_of h
  clear h
  have h64 : 2 ^ high ≤ 64 := Nat.pow_le_pow_right (n := 2) (by decide) hh
  have h1 : 1 ≤ 2 ^ high := Nat.one_le_two_pow
  have e0 : (2 : Int) * ((2 : Int) * 2 ^ ((high : Int)).toNat - 1) = ((2 * (2 * 2 ^ high - 1) : Nat) : Int) := by
    rw [Int.toNat_natCast]
    have : ((2 * (2 * 2 ^ high - 1) : Nat) : Int) = 2 * (2 * ((2 ^ high : Nat) : Int) - 1) := by omega
    rw [this]; simp
  refine ⟨G, _, Wk.refl, sz1, fun z fz => ?_⟩
  refine ⟨⟨by omega, by omega, by decide⟩, mul_l (by decide) (by decide), ?_⟩
  show ∃ xs, _
  rw [e0]
  refine ⟨[.non], .inl List.mem_cons_self, by omega, by omega, sz (by show 1 * _ ≤ _; rw [Int.toNat_natCast]; omega), fun p fp => ?_⟩
  rw [Int.toNat_natCast, rep_nonsT]
  refine fun sh dh fsh => ⟨sh, dh, p, 0, _, rfl, rfl, rfl, .inl ⟨1, by decide, rfl⟩, fun th fth => ⟨rfl, ?_⟩⟩
  refine ⟨4, 8, dx, [], 0, rfl, rfl, Nat.le_refl _, ?_⟩
  refine ⟨G, _, Wk.refl, 4, 8, dx, _, 1, rfl, rfl, by show 1 ≤ 1; decide, ?_⟩
  obtain ⟨M2, hM2⟩ : ∃ M2 : Mem, M2 = (th, HO.lst (List.replicate (2 * (2 * 2 ^ high - 1)) V.non)) :: (sh, Ob K 2 dh [.ref kp, .int num, .ref th]) :: (a, Ob K 8 dx [.ref sh, .int high]) :: F := ⟨_, rfl⟩
  have hb2 : LstAt K G M2 b (natsV fs) := by
    rcases hb with ⟨i, h1, h2⟩ | hb
    · obtain ⟨j, rfl⟩ : ∃ j, i = j + 1 := ⟨i - 1, by omega⟩
      have h2 : F[j]? = some (b, HO.lst (natsV fs)) := h2
      rw [hM2]
      exact .inl (List.mem_cons_of_mem _ (List.mem_cons_of_mem _ (List.mem_cons_of_mem _ (List.mem_of_getElem? h2))))
    · exact .inr hb
  refine ⟨G, M2, by rw [hM2]; exact Wk.drop [_, _] |>.trans (Wk.drop [_, _]), natsV fs, .inl hb2, fun fa ffa => ?_⟩
  subst hM2
  refine ⟨3, 8, dx, _, 2, rfl, rfl, by show 2 ≤ 2; decide, ?_⟩
  have x := Ex.new (o := .lst (natsV fs)) ffa
  refine ⟨upd G fa (.lst (natsV fs)), (th, HO.lst (List.replicate (2 * (2 * 2 ^ high - 1)) V.non)) :: (sh, Ob K 2 dh [.ref kp, .int num, .ref th]) :: (a, Ob K 8 dx [.ref sh, .int high, .ref fa]) :: F, Wk.frz0, fun hd fhd => ⟨3, 8, dx, _, 3, rfl, rfl, by show 3 ≤ 3; decide, ?_⟩⟩
  refine retW (Wk.perm ?_) (q ⟨a, dx, sh, dh, th, fa, hd⟩ _ (List.replicate (2 * (2 * 2 ^ high - 1)) V.non) rfl x ⟨sql_new, hfl, dp_nones _, HandF.nil, by rw [List.length_replicate], fun r e hr => ?_, hh, hm⟩)
  · refine List.Perm.append_right (l₁ := [(a, _), (sh, _), (th, _), (hd, _)]) (l₂ := [(hd, _), (th, _), (sh, _), (a, _)]) F ?_
    exact List.reverse_perm [(hd, _), (th, _), (sh, _), (a, _)]
  · rw [List.getElem?_replicate] at hr
    split at hr <;> cases hr
theorem drs_leaves {p : Addr} {drs : List Nat} (h : DrsG K G p (drs.map Dr.leaf)) : SqL K G p (natsV drs) := by
  obtain ⟨us, h1, h2⟩ := h
  have : ∀ (us : List V) (drs : List Nat), A2 (DrV K G []) us (drs.map Dr.leaf) → us = natsV drs := fun us => by
    induction us with
    | nil => intro drs h; cases drs with
      | nil => rfl
      | cons _ _ => cases h
    | cons u us ih => intro drs h; cases drs with
      | nil => cases h
      | cons d drs =>
        cases h with
        | cons a b =>
          have a : u = .int d := a
          rw [a, ih drs b]; rfl
  rw [← this us drs h2]; exact h1
theorem high_le5 (m : Nat) (h : m ≤ 32) : highN m ≤ 5 := by
  have : ∀ m, m < 33 → highN m ≤ 5 := by decide +kernel
  exact this m (by omega)
theorem TreeI.ex {G' : Hp} {A : TreeA} {m lim : Nat} {drs : List Nat} {s : TrM} {o : HO} {xs : List V} {hv : List (Key × V)} {ts : List Tch} (e : Ex G G') (h : TreeI K G A m lim drs s o xs hv ts) : TreeI K G' A m lim drs s o xs hv ts :=
  ⟨h.bd.ex e, h.log.ex e, ex_l e h.dr, h.dl, h.dk, h.tl, h.tk, h.m0, h.m1⟩
theorem getD_mem {l : List Nat} {i : Nat} (h : i < l.length) : l.getD i 0 ∈ l := by
  rw [List.getD_eq_getElem?_getD, List.getElem?_eq_getElem h]; exact List.getElem_mem h
end

section
variable {K : PySem.W.Frag} {vs : List V} {G : Hp} {M : Mem} {R : KR} {Z : KX}
/-! ### a tree, seen from without -/
theorem st6_seen {m lim : Nat} {drs : List Nat} {ds : List Deed} {a : Addr} {B : Mem} (h : St6 K m lim drs G ds a B) : Seen K 6 m lim ds.length (trTs m drs ds) G a B := by
  obtain ⟨A, o, xs, hv, rfl, rfl, hi, _⟩ := h
  refine ⟨A.ds, A.dr, A.kp, A.dk, A.lg, o, [.ref A.b.b, .ref A.tb], ?_, ?_, ?_, hi.log⟩
  · exact List.mem_of_getElem? (i := 6) rfl
  · exact List.mem_of_getElem? (i := 4) rfl
  · exact List.mem_of_getElem? (i := 5) rfl
theorem St6.ex {G' : Hp} {m lim : Nat} {drs : List Nat} {ds : List Deed} {a : Addr} {B : Mem} (e : Ex G G') (h : St6 K m lim drs G ds a B) : St6 K m lim drs G' ds a B := by
  obtain ⟨A, o, xs, hv, rfl, rfl, hi, h2⟩ := h
  exact ⟨A, o, xs, hv, rfl, rfl, hi.ex e, h2⟩
end

/-! ### the words that a tree holds -/
structure TI (m : Nat) (W : List Nat) (s : TrM) : Prop where
  len : s.th.length = 2 * (2 * 2 ^ highN m - 1)
  wl : W.length = m
  tl : s.tb.length = m
  tk : ∀ x, x ∈ s.tb → x < 2 ^ highN m
  i1 : ∀ (r : Nat) (e : Nat × Nat × Nat), s.th[r]? = some (some e) → e.1 < m ∧ e.2.1 = W.getD e.1 0 ∧ e.2.2 = s.tb.getD e.1 0 ∧ (∃ d, d ≤ highN m ∧ r / 2 = nodeN (highN m) d e.2.2) ∧ s.f e.1 = none ∧ ∀ (r' : Nat) (e' : Nat × Nat × Nat), s.th[r']? = some (some e') → e'.1 = e.1 → r' = r
  i2 : ∀ (c : Nat) (p : Nat × Nat), s.f c = some p → p.1 = W.getD c 0 ∧ p.2 = s.tb.getD c 0 ∧ c < m
  i3 : ∀ c, c < m → s.f c = none → (∀ (r : Nat) (e : Nat × Nat × Nat), s.th[r]? = some (some e) → e.1 ≠ c) → W.getD c 0 = 0
def WayR (high leaf k r : Nat) : Prop := ∃ d, d + k ≤ high ∧ r / 2 = nodeN high d leaf
theorem node_bounds {high d leaf : Nat} (hd : d ≤ high) (hl : leaf < 2 ^ high) : 2 ^ d ≤ nodeN high d leaf + 1 ∧ nodeN high d leaf + 1 < 2 ^ (d + 1) := by
  unfold nodeN
  have h1 : leaf / 2 ^ (high - d) < 2 ^ d := by
    rw [Nat.div_lt_iff_lt_mul (Nat.two_pow_pos _), ← Nat.pow_add, show d + (high - d) = high by omega]; exact hl
  have h3 : 1 ≤ 2 ^ d := Nat.one_le_two_pow
  rw [Nat.pow_succ]
  generalize leaf / 2 ^ (high - d) = z at h1 ⊢
  generalize 2 ^ d = y at h1 h3 ⊢
  omega
theorem node_depth {high d d' leaf leaf' : Nat} (hd : d ≤ high) (hd' : d' ≤ high) (hl : leaf < 2 ^ high) (hl' : leaf' < 2 ^ high) (e : nodeN high d leaf = nodeN high d' leaf') : d = d' := by
  obtain ⟨a1, a2⟩ := node_bounds hd hl
  obtain ⟨b1, b2⟩ := node_bounds hd' hl'
  rw [e] at a1 a2
  have h1 : 2 ^ d < 2 ^ (d' + 1) := by omega
  have h2 : 2 ^ d' < 2 ^ (d + 1) := by omega
  have h1 := (Nat.pow_lt_pow_iff_right (by decide : 1 < 2)).mp h1
  have h2 := (Nat.pow_lt_pow_iff_right (by decide : 1 < 2)).mp h2
  omega
theorem lookR_some {th : Th} {f : HF} {r x : Nat} {p : Nat × Nat} (h : lookR th f r x = some p) : f x = some p ∨ th[r]? = some (some (x, p)) := by
  unfold lookR at h
  cases e : th.getD r none with
  | none => rw [e] at h; exact .inl h
  | some q =>
    rw [e] at h
    have h : (if x = q.1 then some q.2 else f x) = some p := h
    by_cases z : x = q.1
    · rw [if_pos z] at h
      right
      have hq : q = (x, p) := by rw [z]; exact Prod.ext rfl (Option.some.inj h)
      rw [List.getD_eq_getElem?_getD] at e
      cases y : th[r]? with
      | none => rw [y] at e; cases e
      | some w => rw [y] at e; have e : w = some q := e; rw [e, hq]
    · rw [if_neg z] at h; exact .inl h
theorem lookR_none {th : Th} {f : HF} {r x : Nat} (h : lookR th f r x = none) : f x = none ∧ ∀ p, th[r]? ≠ some (some (x, p)) := by
  unfold lookR at h
  cases e : th.getD r none with
  | none =>
    rw [e] at h
    refine ⟨h, fun p hp => ?_⟩
    rw [List.getD_eq_getElem?_getD, hp] at e
    cases e
  | some q =>
    rw [e] at h
    have h : (if x = q.1 then some q.2 else f x) = none := h
    by_cases z : x = q.1
    · rw [if_pos z] at h; cases h
    · rw [if_neg z] at h
      refine ⟨h, fun p hp => ?_⟩
      rw [List.getD_eq_getElem?_getD, hp] at e
      have e : some (x, p) = some q := e
      cases e
      exact z rfl
theorem lookW_some {th : Th} {high leaf : Nat} {f : HF} {x : Nat} {p : Nat × Nat} : ∀ k, lookW th high leaf f k x = some p → f x = some p ∨ ∃ d r, d < k ∧ r / 2 = nodeN high d leaf ∧ th[r]? = some (some (x, p))
  | 0, h => .inl h
  | k + 1, h => by
    rw [lookW_succ] at h
    rcases lookR_some h with h | h
    · rcases lookR_some h with h | h
      · rcases lookW_some k h with h | ⟨d, r, h1, h2, h3⟩
        · exact .inl h
        · exact .inr ⟨d, r, by omega, h2, h3⟩
      · exact .inr ⟨k, _, by omega, by omega, h⟩
    · exact .inr ⟨k, _, by omega, by omega, h⟩
theorem lookW_none {th : Th} {high leaf : Nat} {f : HF} {x : Nat} : ∀ k, lookW th high leaf f k x = none → f x = none ∧ ∀ d r p, d < k → r / 2 = nodeN high d leaf → th[r]? ≠ some (some (x, p))
  | 0, h => ⟨h, fun d r p hd => absurd hd (Nat.not_lt_zero _)⟩
  | k + 1, h => by
    rw [lookW_succ] at h
    obtain ⟨h1, n1⟩ := lookR_none h
    obtain ⟨h2, n2⟩ := lookR_none h1
    obtain ⟨h3, n3⟩ := lookW_none k h2
    refine ⟨h3, fun d r p hd hr => ?_⟩
    by_cases e : d = k
    · subst e
      have : r = 2 * nodeN high d leaf ∨ r = 2 * nodeN high d leaf + 1 := by omega
      rcases this with rfl | rfl
      · exact n2 p
      · exact n1 p
    · exact n3 d r p (by omega) hr
/-- while a way is laid -/
structure LJ (m : Nat) (W tb : List Nat) (leaf k : Nat) (s : Th × HF) : Prop where
  len : s.1.length = 2 * (2 * 2 ^ highN m - 1)
  j1 : ∀ (r : Nat) (e : Nat × Nat × Nat), s.1[r]? = some (some e) → ¬ WayR (highN m) leaf k r → e.1 < m ∧ e.2.1 = W.getD e.1 0 ∧ e.2.2 = tb.getD e.1 0 ∧ (∃ d, d ≤ highN m ∧ r / 2 = nodeN (highN m) d e.2.2) ∧ s.2 e.1 = none ∧ ∀ (r' : Nat) (e' : Nat × Nat × Nat), s.1[r']? = some (some e') → ¬ WayR (highN m) leaf k r' → e'.1 = e.1 → r' = r
  j2 : ∀ (c : Nat) (p : Nat × Nat), s.2 c = some p → p.1 = W.getD c 0 ∧ p.2 = tb.getD c 0 ∧ c < m
  j3 : ∀ c, c < m → s.2 c = none → (∀ (r : Nat) (e : Nat × Nat × Nat), s.1[r]? = some (some e) → ¬ WayR (highN m) leaf k r → e.1 ≠ c) → W.getD c 0 = 0
theorem fits_fit {m high d node : Nat} {f : HF} {c : Nat} (h : c ∈ fitsN m high d node f) : ∃ p, f c = some p ∧ nodeN high d p.2 = node := by
  have := (List.mem_filter.mp (List.mem_of_mem_take h)).2
  unfold fitB at this
  cases e : f c with
  | none => rw [e] at this; cases this
  | some p => rw [e] at this; exact ⟨p, rfl, of_decide_eq_true this⟩
theorem takeC_some {f : HF} {cs : List Nat} {s : Nat} {e : Nat × Nat × Nat} (h : takeC f cs s = some e) : cs[s]? = some e.1 ∧ f e.1 = some e.2 := by
  unfold takeC at h
  cases q : cs[s]? with
  | none => rw [q] at h; cases h
  | some c =>
    rw [q] at h
    obtain ⟨p, hp, rfl⟩ := Option.map_eq_some_iff.mp h
    exact ⟨rfl, hp⟩
theorem setD_ne {l : List Nat} {i j v : Nat} (h : i ≠ j) : (l.set i v).getD j 0 = l.getD j 0 := by
  rw [List.getD_eq_getElem?_getD, List.getElem?_set_ne h, ← List.getD_eq_getElem?_getD]
theorem setD_self {l : List Nat} {i v : Nat} (h : i < l.length) : (l.set i v).getD i 0 = v := by
  rw [List.getD_eq_getElem?_getD, List.getElem?_set_self h]; rfl
/-! ### the words that a body holds -/
/-- while a way is laid -/
structure LG (m : Nat) (fs W tb : List Nat) (leaf k : Nat) (s : Th × HF) : Prop where
  len : s.1.length = 2 * (2 * 2 ^ highN m - 1)
  j1 : ∀ (r : Nat) (e : Nat × Nat × Nat), s.1[r]? = some (some e) → ¬ WayR (highN m) leaf k r → e.1 < m ∧ e.2.1 = W.getD e.1 0 ∧ e.2.2 = tb.getD e.1 0 ∧ (∃ d, d ≤ highN m ∧ r / 2 = nodeN (highN m) d e.2.2) ∧ s.2 e.1 = none ∧ ∀ (r' : Nat) (e' : Nat × Nat × Nat), s.1[r']? = some (some e') → ¬ WayR (highN m) leaf k r' → e'.1 = e.1 → r' = r
  j2 : ∀ (c : Nat) (p : Nat × Nat), s.2 c = some p → p.1 = W.getD c 0 ∧ p.2 = tb.getD c 0 ∧ c < m
  j3 : ∀ c, c < m → s.2 c = none → (∀ (r : Nat) (e : Nat × Nat × Nat), s.1[r]? = some (some e) → ¬ WayR (highN m) leaf k r → e.1 ≠ c) → W.getD c 0 = fs.getD c 0
theorem lay_lg {m : Nat} {fs W tb : List Nat} {leaf k : Nat} {s : Th × HF} (hl : leaf < 2 ^ highN m) (hk : k ≤ highN m) (h : LG m fs W tb leaf k s) : LG m fs W tb leaf (k + 1) (layD m (highN m) leaf s (highN m - k)) := by
  obtain ⟨d, hd⟩ : ∃ d, d = highN m - k := ⟨_, rfl⟩
  have hdh : d ≤ highN m := by omega
  rw [← hd]
  obtain ⟨n, hn⟩ : ∃ n, n = nodeN (highN m) d leaf := ⟨_, rfl⟩
  obtain ⟨cs, hcs⟩ : ∃ cs, cs = fitsN m (highN m) d n s.2 := ⟨_, rfl⟩
  have hlay : layD m (highN m) leaf s d = ((s.1.set (2 * n) (takeC s.2 cs 0)).set (2 * n + 1) (takeC s.2 cs 1), fun x => if x ∈ cs then none else s.2 x) := by unfold layD; rw [← hn, ← hcs]
  rw [hlay]
  have hlt : 2 * n + 1 < s.1.length := by rw [h.len, hn]; exact node_lt hdh hl
  have hcl : cs.length ≤ 2 := by rw [hcs]; exact fits_len
  have hcn : cs.Nodup := by rw [hcs]; exact fits_nodup
  have hcm : ∀ c, c ∈ cs → ∃ p, s.2 c = some p ∧ nodeN (highN m) d p.2 = n := fun c hc => fits_fit (by rw [← hcs]; exact hc)
  have way : ∀ r, r / 2 = n → WayR (highN m) leaf k r := fun r hr => ⟨d, by omega, by rw [hr, hn]⟩
  have way1 : ∀ r, WayR (highN m) leaf (k + 1) r → WayR (highN m) leaf k r := fun r ⟨d', h1, h2⟩ => ⟨d', by omega, h2⟩
  have way2 : ∀ r, r / 2 = n → ¬ WayR (highN m) leaf (k + 1) r := fun r hr ⟨d', h1, h2⟩ => by
    have := node_depth hdh (show d' ≤ highN m by omega) hl hl (by rw [← hn, ← hr, h2])
    omega
  have way3 : ∀ r, ¬ WayR (highN m) leaf (k + 1) r → WayR (highN m) leaf k r → r / 2 = n := fun r h1 ⟨d', h2, h3⟩ => by
    by_cases z : d' = d
    · rw [h3, z, hn]
    · exact absurd ⟨d', by omega, h3⟩ h1
  -- what lies where
  have at_n : ∀ (r : Nat) (e : Nat × Nat × Nat), r / 2 = n → ((s.1.set (2 * n) (takeC s.2 cs 0)).set (2 * n + 1) (takeC s.2 cs 1))[r]? = some (some e) → cs[r - 2 * n]? = some e.1 ∧ s.2 e.1 = some e.2 := fun r e hr he => by
    have : r = 2 * n ∨ r = 2 * n + 1 := by omega
    rcases this with rfl | rfl
    · rw [List.getElem?_set_ne (by omega), List.getElem?_set_self (by omega)] at he
      rw [Nat.sub_self]
      exact takeC_some (Option.some.inj he)
    · rw [List.getElem?_set_self (by rw [List.length_set]; omega)] at he
      rw [show 2 * n + 1 - 2 * n = 1 by omega]
      exact takeC_some (Option.some.inj he)
  have at_o : ∀ r, ¬ r / 2 = n → ((s.1.set (2 * n) (takeC s.2 cs 0)).set (2 * n + 1) (takeC s.2 cs 1))[r]? = s.1[r]? := fun r hr => by
    rw [List.getElem?_set_ne (by omega), List.getElem?_set_ne (by omega)]
  refine ⟨by rw [List.length_set, List.length_set]; exact h.len, fun r e he hw => ?_, fun c p hc => ?_, fun c hc hf hno => ?_⟩
  · by_cases hr : r / 2 = n
    · obtain ⟨h1, h2⟩ := at_n r e hr he
      have hmem := List.mem_of_getElem? h1
      obtain ⟨p, hp1, hp2⟩ := hcm _ hmem
      rw [h2] at hp1
      cases hp1
      obtain ⟨a1, a2, a3⟩ := h.j2 _ _ h2
      refine ⟨a3, a1, a2, ⟨d, hdh, by rw [hp2]; exact hr⟩, by simp only [hmem, if_true], fun r' e' he' hw' hee => ?_⟩
      by_cases hr' : r' / 2 = n
      · obtain ⟨b1, b2⟩ := at_n r' e' hr' he'
        rw [hee] at b1
        have := (List.getElem?_inj (List.getElem?_eq_some_iff.mp b1).1 hcn).mp (b1.trans h1.symm)
        omega
      · rw [at_o r' hr'] at he'
        have := (h.j1 r' e' he' (fun z => hr' (way3 r' hw' z))).2.2.2.2.1
        rw [hee, h2] at this
        cases this
    · rw [at_o r hr] at he
      have hwk : ¬ WayR (highN m) leaf k r := fun z => hr (way3 r hw z)
      obtain ⟨a1, a2, a3, a4, a5, a6⟩ := h.j1 r e he hwk
      refine ⟨a1, a2, a3, a4, ?_, fun r' e' he' hw' hee => ?_⟩
      · by_cases z : e.1 ∈ cs
        · simp only [z, if_true]
        · simp only [z, if_false]; exact a5
      · by_cases hr' : r' / 2 = n
        · obtain ⟨b1, b2⟩ := at_n r' e' hr' he'
          rw [hee, a5] at b2; cases b2
        · rw [at_o r' hr'] at he'
          exact a6 r' e' he' (fun z => hr' (way3 r' hw' z)) hee
  · have hc : (if c ∈ cs then none else s.2 c) = some p := hc
    split at hc
    · cases hc
    · exact h.j2 c p hc
  · have hf : (if c ∈ cs then none else s.2 c) = none := hf
    by_cases z : c ∈ cs
    · exfalso
      obtain ⟨i, hi⟩ := List.getElem?_of_mem z
      have hil : i < cs.length := (List.getElem?_eq_some_iff.mp hi).1
      obtain ⟨p, hp, _⟩ := hcm c z
      have ht : takeC s.2 cs i = some (c, p) := by unfold takeC; rw [hi]; simp only []; rw [hp]; rfl
      have : i = 0 ∨ i = 1 := by omega
      rcases this with rfl | rfl
      · exact hno (2 * n) (c, p) (by rw [List.getElem?_set_ne (by omega), List.getElem?_set_self (by omega), ht]) (way2 _ (by omega)) rfl
      · exact hno (2 * n + 1) (c, p) (by rw [List.getElem?_set_self (by rw [List.length_set]; omega), ht]) (way2 _ (by omega)) rfl
    · rw [if_neg z] at hf
      refine h.j3 c hc hf fun r e he hw => ?_
      have hr : ¬ r / 2 = n := fun y => hw (way r y)
      exact hno r e (by rw [at_o r hr]; exact he) (fun y => hw (way1 r y))
theorem layW_lg {m : Nat} {fs W tb : List Nat} {leaf : Nat} {s : Th × HF} (hl : leaf < 2 ^ highN m) (h : LG m fs W tb leaf 0 s) : ∀ k, k ≤ highN m + 1 → LG m fs W tb leaf k (layW m (highN m) leaf s k)
  | 0, _ => h
  | k + 1, hk => by
    rw [layW_succ]
    exact lay_lg hl (by omega) (layW_lg hl h k (by omega))
/-- what is told is what was held -/
theorem bi_told {m : Nat} {W : List Nat} {s : TrM} {fs : List Nat} {c0 : Nat} (h : BI m fs W s) (hc : c0 < m) : bTold (highN m) fs c0 s = W.getD c0 0 := by
  unfold bTold
  cases e : lookW s.th (highN m) (s.tb.getD c0 0) s.f (highN m + 1) c0 with
  | some p =>
    simp only []
    rcases lookW_some _ e with h1 | ⟨d', r, h1, h2, h3⟩
    · exact (h.i2 _ _ h1).1
    · exact (h.i1 r _ h3).2.1
  | none =>
    simp only []
    obtain ⟨h1, h2⟩ := lookW_none _ e
    refine (h.i3 _ hc h1 fun r x hx hxc => ?_).symm
    obtain ⟨_, _, a3, ⟨d', a4, a5⟩, _⟩ := h.i1 r x hx
    rw [a3, hxc] at a5
    exact h2 d' r x.2 (by omega) a5 (by rw [hx, ← hxc])
/-- ahead of the laying -/
theorem ask_g0 {m : Nat} {W : List Nat} {s : TrM} {fs : List Nat} {c0 : Nat} {w : Nat → Nat} {fresh : Nat} (h : BI m fs W s) (hc : c0 < m) : LG m fs (W.set c0 (w (W.getD c0 0))) (s.tb.set c0 fresh) (s.tb.getD c0 0) 0 (s.th, bKeep (highN m) fs c0 w fresh s) ∧ s.tb.getD c0 0 < 2 ^ highN m := by
  have htold := bi_told h hc
  obtain ⟨c, hcc⟩ : ∃ c, c = c0 := ⟨_, rfl⟩
  obtain ⟨leaf, hleaf⟩ : ∃ leaf, leaf = s.tb.getD c0 0 := ⟨_, rfl⟩
  have htl := h.tl
  have hwl := h.wl
  have hlf : leaf < 2 ^ highN m := by rw [hleaf]; exact h.tk _ (getD_mem (by omega))
  obtain ⟨f1, hf1⟩ : ∃ f1, f1 = lookW s.th (highN m) leaf s.f (highN m + 1) := ⟨_, rfl⟩
  have hput : bKeep (highN m) fs c0 w fresh s = f1.put c (w (W.getD c 0), fresh) := by
    unfold bKeep
    rw [htold, ← hleaf, ← hf1, ← hcc]
  have hW : W.set c0 (w (W.getD c0 0)) = W.set c (w (W.getD c 0)) := by
    rw [hcc]
  have hcm : c < m := by omega
  have onw : ∀ (r : Nat) (e : Nat × Nat × Nat), s.th[r]? = some (some e) → e.1 = c → WayR (highN m) leaf 0 r := fun r e he hec => by
    obtain ⟨_, _, a3, ⟨d', a4, a5⟩, _⟩ := h.i1 r e he
    refine ⟨d', by omega, ?_⟩
    rw [a5, a3, hec, hcc, hleaf]
  have f1s : ∀ x p, f1 x = some p → p.1 = W.getD x 0 ∧ p.2 = s.tb.getD x 0 ∧ x < m := fun x p hx => by
    rw [hf1] at hx
    rcases lookW_some _ hx with h1 | ⟨d', r, h1, h2, h3⟩
    · exact h.i2 x p h1
    · obtain ⟨a1, a2, a3, _⟩ := h.i1 r _ h3
      exact ⟨a2, a3, a1⟩
  have f1n : ∀ x, f1 x = none → s.f x = none ∧ ∀ (r : Nat) (e : Nat × Nat × Nat), s.th[r]? = some (some e) → WayR (highN m) leaf 0 r → e.1 ≠ x := fun x hx => by
    rw [hf1] at hx
    obtain ⟨h1, h2⟩ := lookW_none _ hx
    refine ⟨h1, fun r e he ⟨d', hd1, hd2⟩ hex => ?_⟩
    exact h2 d' r e.2 (by omega) hd2 (by rw [he, ← hex])
  have j0 : LG m fs (W.set c (w (W.getD c 0))) (s.tb.set c fresh) leaf 0 (s.th, f1.put c (w (W.getD c 0), fresh)) := by
    refine ⟨h.len, fun r e he hw => ?_, fun x p hx => ?_, fun x hx hn hno => ?_⟩
    · have he : s.th[r]? = some (some e) := he
      have hne : e.1 ≠ c := fun z => hw (onw r e he z)
      obtain ⟨a1, a2, a3, a4, a5, a6⟩ := h.i1 r e he
      refine ⟨a1, by rw [setD_ne (Ne.symm hne)]; exact a2, by rw [setD_ne (Ne.symm hne)]; exact a3, a4, ?_, fun r' e' he' _ hee => a6 r' e' he' hee⟩
      show (if e.1 = c then _ else f1 e.1) = none
      rw [if_neg hne]
      cases q : f1 e.1 with
      | none => rfl
      | some p =>
        exfalso
        rw [hf1] at q
        rcases lookW_some _ q with q | ⟨d', r', q1, q2, q3⟩
        · rw [a5] at q; cases q
        · have := a6 r' _ q3 rfl
          subst this
          exact hw ⟨d', by omega, q2⟩
    · have hx : (if x = c then some (w (W.getD c 0), fresh) else f1 x) = some p := hx
      by_cases z : x = c
      · rw [if_pos z] at hx
        cases hx
        rw [z, setD_self (by omega), setD_self (by omega)]
        exact ⟨rfl, rfl, hcm⟩
      · rw [if_neg z] at hx
        rw [setD_ne (Ne.symm z), setD_ne (Ne.symm z)]
        exact f1s x p hx
    · have hn : (if x = c then some (w (W.getD c 0), fresh) else f1 x) = none := hn
      by_cases z : x = c
      · rw [if_pos z] at hn; cases hn
      · rw [if_neg z] at hn
        rw [setD_ne (Ne.symm z)]
        obtain ⟨h1, h2⟩ := f1n x hn
        refine h.i3 x hx h1 fun r e he => ?_
        by_cases w : WayR (highN m) leaf 0 r
        · exact h2 r e he w
        · exact hno r e he w
  rw [hW, hput, ← hleaf, ← hcc]
  exact ⟨j0, hlf⟩
theorem bi_ask {m : Nat} {W : List Nat} {s : TrM} {fs : List Nat} {c0 : Nat} {w : Nat → Nat} {fresh : Nat} (h : BI m fs W s) (hc : c0 < m) (hf : fresh < 2 ^ highN m) : BI m fs (W.set c0 (w (W.getD c0 0))) (bAsk m (highN m) fs c0 w fresh s) := by
  obtain ⟨j0, hlf⟩ := ask_g0 (w := w) (fresh := fresh) h hc
  have jn := layW_lg hlf j0 (highN m + 1) (Nat.le_refl _)
  have nw : ∀ r, ¬ WayR (highN m) (s.tb.getD c0 0) (highN m + 1) r := fun r ⟨d', h1, _⟩ => by omega
  refine ⟨jn.len, by rw [List.length_set]; exact h.wl, by show (s.tb.set c0 fresh).length = m; rw [List.length_set]; exact h.tl, fun x hx => ?_, fun r e he => ?_, fun x p hx => jn.j2 x p hx, fun x hx hn hno => jn.j3 x hx hn fun r e he _ => hno r e he⟩
  · rcases List.mem_or_eq_of_mem_set hx with hx | rfl
    · exact h.tk x hx
    · exact hf
  · obtain ⟨a1, a2, a3, a4, a5, a6⟩ := jn.j1 r e he (nw r)
    exact ⟨a1, a2, a3, a4, a5, fun r' e' he' => a6 r' e' he' (nw r')⟩

/-! ### leaves packed into words: what holds of them -/
theorem wordsN_len (h : Nat) (l : List Nat) : (wordsN h l).length = (l.length + 3) / 4 := by unfold wordsN; rw [List.length_map, List.length_range]
theorem leafIn_pack {h : Nat} : ∀ (l : List Nat) (p : Nat), (∀ x, x ∈ l → x < 2 ^ h) → p < l.length → leafIn (packN h l) h p = l.getD p 0
  | [], _, _, hp => nomatch hp
  | x :: l, 0, hl, _ => by
    unfold leafIn
    show (x + 2 ^ h * packN h l) / 2 ^ (h * 0) % 2 ^ h = x
    rw [Nat.mul_zero, Nat.pow_zero, Nat.div_one, Nat.add_mul_mod_self_left, Nat.mod_eq_of_lt (hl x List.mem_cons_self)]
  | x :: l, p + 1, hl, hp => by
    have ih := leafIn_pack l p (fun y hy => hl y (List.mem_cons_of_mem _ hy)) (by simpa using hp)
    unfold leafIn at ih ⊢
    show (x + 2 ^ h * packN h l) / 2 ^ (h * (p + 1)) % 2 ^ h = l.getD p 0
    rw [← ih, Nat.mul_succ, Nat.add_comm (h * p) h, Nat.pow_add, ← Nat.div_div_eq_div_mul]
    congr 2
    rw [Nat.add_mul_div_left _ _ (Nat.two_pow_pos h), Nat.div_eq_of_lt (hl x List.mem_cons_self), Nat.zero_add]
theorem pack_set {h : Nat} : ∀ (l : List Nat) (p x : Nat), p < l.length → ((packN h (l.set p x) : Nat) : Int) = (packN h l : Nat) + ((x : Int) - (l.getD p 0 : Nat)) * 2 ^ (h * p)
  | [], _, _, hp => nomatch hp
  | y :: l, 0, x, _ => by
    show ((x + 2 ^ h * packN h l : Nat) : Int) = ((y + 2 ^ h * packN h l : Nat) : Int) + ((x : Int) - (y : Int)) * 2 ^ (h * 0)
    rw [Nat.mul_zero, Int.pow_zero, Int.mul_one]; push_cast; omega
  | y :: l, p + 1, x, hp => by
    have ih := pack_set (h := h) l p x (by simpa using hp)
    show ((y + 2 ^ h * packN h (l.set p x) : Nat) : Int) = ((y + 2 ^ h * packN h l : Nat) : Int) + ((x : Int) - (l.getD p 0 : Nat)) * 2 ^ (h * (p + 1))
    push_cast
    rw [ih, Nat.mul_succ, Nat.add_comm (h * p) h, Int.pow_add, Int.mul_add]
    have : (2 : Int) ^ h * (((x : Int) - (l.getD p 0 : Nat)) * 2 ^ (h * p)) = ((x : Int) - (l.getD p 0 : Nat)) * (2 ^ h * 2 ^ (h * p)) := by
      rw [← Int.mul_assoc, Int.mul_comm (2 ^ h), Int.mul_assoc]
    rw [this, Int.add_assoc]
theorem with_pack {h : Nat} {l : List Nat} {p x : Nat} (hl : ∀ x, x ∈ l → x < 2 ^ h) (hp : p < l.length) : withN (packN h l) h p x = packN h (l.set p x) := by
  unfold withN
  rw [leafIn_pack l p hl hp, ← pack_set l p x hp, Int.toNat_natCast]
theorem chunk_len {l : List Nat} {c : Nat} (h : c < l.length) : c % 4 < (chunk l (c / 4)).length := by
  unfold chunk
  rw [List.length_take, List.length_drop]
  have := Nat.div_add_mod c 4
  omega
theorem chunk_get {l : List Nat} {c : Nat} (h : c < l.length) : (chunk l (c / 4)).getD (c % 4) 0 = l.getD c 0 := by
  have := Nat.div_add_mod c 4
  unfold chunk
  rw [List.getD_eq_getElem?_getD, List.getElem?_take_of_lt (by omega), List.getElem?_drop, this, ← List.getD_eq_getElem?_getD]
theorem chunk_mem {l : List Nat} {i x : Nat} (h : x ∈ chunk l i) : x ∈ l := List.mem_of_mem_drop (List.mem_of_mem_take h)
theorem chunk_set {l : List Nat} {c x i : Nat} : chunk (l.set c x) i = if i = c / 4 then (chunk l i).set (c % 4) x else chunk l i := by
  have hc := Nat.div_add_mod c 4
  unfold chunk
  apply List.ext_getElem?
  intro j
  by_cases hj : j < 4
  · rw [List.getElem?_take_of_lt hj, List.getElem?_drop, List.getElem?_set]
    split
    · rename_i e
      have e1 : i = c / 4 := by omega
      have e2 : c % 4 = j := by omega
      rw [if_pos e1, List.getElem?_set, if_pos e2, List.length_take, List.length_drop]
      by_cases z : c < l.length
      · rw [if_pos z, if_pos (by omega)]
      · rw [if_neg z, if_neg (by omega)]
    · rename_i e
      split
      · rename_i e1
        rw [List.getElem?_set_ne (by omega), List.getElem?_take_of_lt hj, List.getElem?_drop]
      · rw [List.getElem?_take_of_lt hj, List.getElem?_drop]
  · rw [List.getElem?_take_eq_none (by omega)]
    split
    · rw [List.getElem?_eq_none (by rw [List.length_set, List.length_take]; omega)]
    · rw [List.getElem?_take_eq_none (by omega)]
theorem words_get {h : Nat} {l : List Nat} {i : Nat} (hi : i < (l.length + 3) / 4) : (wordsN h l).getD i 0 = packN h (chunk l i) := by
  rw [getD_lt (by rw [wordsN_len]; exact hi)]
  unfold wordsN
  rw [List.getElem_map, List.getElem_range]
/-- the leaf that a lesser tree's word tells -/
theorem words_leaf {h : Nat} {l : List Nat} {c : Nat} (hl : ∀ x, x ∈ l → x < 2 ^ h) (hc : c < l.length) : leafIn ((wordsN h l).getD (c / 4) 0) h (c % 4) = l.getD c 0 := by
  rw [words_get (by omega), leafIn_pack _ _ (fun x hx => hl x (chunk_mem hx)) (chunk_len hc), chunk_get hc]
theorem words_set {h : Nat} {l : List Nat} {c x : Nat} (hl : ∀ x, x ∈ l → x < 2 ^ h) (hc : c < l.length) : wordsN h (l.set c x) = (wordsN h l).set (c / 4) (withN ((wordsN h l).getD (c / 4) 0) h (c % 4) x) := by
  rw [words_get (by omega), with_pack (fun y hy => hl y (chunk_mem hy)) (chunk_len hc)]
  refine ext_getD (by rw [List.length_set, wordsN_len, wordsN_len, List.length_set]) fun i hi => ?_
  rw [wordsN_len, List.length_set] at hi
  rw [getD_set (by rw [wordsN_len]; omega), words_get (by rw [List.length_set]; exact hi), words_get hi, chunk_set]
  by_cases e : i = c / 4
  · rw [if_pos e, if_pos e, e]
  · rw [if_neg e, if_neg e]

section
variable {K : PySem.W.Frag} {vs : List V} {G : Hp} {M : Mem} {R : KR} {Z : KX}
theorem pack_snoc {h : Nat} : ∀ (l : List Nat) (x : Nat), packN h (l ++ [x]) = packN h l + x * 2 ^ (h * l.length)
  | [], x => by show x + 2 ^ h * 0 = 0 + x * 2 ^ (h * 0); simp
  | y :: l, x => by
    show y + 2 ^ h * packN h (l ++ [x]) = y + 2 ^ h * packN h l + x * 2 ^ (h * (l.length + 1))
    rw [pack_snoc l x, Nat.mul_add, Nat.mul_succ, Nat.pow_add, ← Nat.add_assoc]
    congr 1
    rw [Nat.mul_left_comm, Nat.mul_comm (2 ^ h) (2 ^ (h * l.length))]
theorem shl_ok {i j : Int} (h0 : -(2 ^ 64) < i) (h1 : i < 2 ^ 64) (j0 : 0 ≤ j) (j1 : j ≤ 1000000) : CShl i j := ⟨j0, by have := intBits_le_64 h0 h1; omega⟩
theorem pf_packed (hS : S_packed K vs G M R Z) : rd_packed K (ends R Z) (sta 5 vs) G M := by
  obtain ⟨_, _, rfl, a, l, h, rfl, rfl, ha, hl, hh, hlt, q⟩ := sp2_of hS
  have h64 : 2 ^ h ≤ 64 := Nat.pow_le_pow_right (n := 2) (by decide) hh
  refine ⟨G, M, Wk.refl, ?_⟩
  refine ⟨G, M, Wk.refl, natsV l, ha, fun i σ G' M' => ∃ y3 y4 : Option V, σ = [some (.ref a), some (.int h), some (.int (packN h (l.take i))), y3, y4] ∧ G' = G ∧ M' = M, ⟨none, none, rfl, rfl, rfl⟩, ?_, ?_, ?_⟩
  · rintro i σ G' M' _ ⟨y3, y4, rfl, rfl, rfl⟩; exact ha
  · rintro i σ G' M' hi ⟨y3, y4, rfl, rfl, rfl⟩
    have hi : i < (natsV l).length := hi
    rw [natsV_len] at hi
    obtain ⟨x, hx⟩ : ∃ x, l[i]? = some x := ⟨_, List.getElem?_eq_getElem hi⟩
    have hxl := hlt x (List.mem_of_getElem? hx)
    have e : (h : Int) * (i : Int) = ((h * i : Nat) : Int) := by push_cast; rfl
    have hi3 : h * i ≤ 6 * 4 := Nat.mul_le_mul hh (by omega)
    refine asg_E (natsV_get hx) ⟨G', M', Wk.refl, mul_l (by omega) (by omega), shl_ok (by omega) (by omega) (by rw [e]; omega) (by rw [e]; omega), ?_⟩
    refine ⟨G', M', Wk.refl, some (.int (i : Int)), some (.int (x : Int)), ?_, rfl, rfl⟩
    show [some (V.ref a), some (V.int h), some (V.int ((packN h (l.take i) : Int) + (x : Int) * 2 ^ ((h : Int) * (i : Int)).toNat)), some (V.int (i : Int)), some (V.int (x : Int))] = _
    rw [e, Int.toNat_natCast, take_succ' hx, pack_snoc, List.length_take, Nat.min_eq_left (by omega)]
    push_cast; rfl
  · rintro σ G' M' ⟨y3, y4, rfl, rfl, rfl⟩
    have en : (srcE K a (natsV l)).n = l.length := natsV_len l
    rw [en, List.take_length]
    exact ⟨_, _, Wk.refl, ret0 q⟩
theorem cut_chunk {l : List Nat} {i : Nat} : cutV (natsV l) (some ((4 * i : Nat) : Int)) (some ((4 * i + 4 : Nat) : Int)) = natsV (chunk l i) := by
  unfold cutV chunk
  rw [HT.sIx_nat, HT.sIx_nat, natsV_len]
  unfold natsV
  rw [← List.map_drop, ← List.map_take]
  congr 1
  by_cases z : 4 * i ≤ l.length
  · rw [Nat.min_eq_left z]
    by_cases y : 4 * i + 4 ≤ l.length
    · rw [Nat.min_eq_left y, Nat.add_sub_cancel_left]
    · rw [Nat.min_eq_right (by omega), List.take_of_length_le (by rw [List.length_drop]; exact Nat.le_refl _), List.take_of_length_le (by rw [List.length_drop]; omega)]
  · rw [Nat.min_eq_right (a := 4 * i) (by omega), List.drop_length, List.take_nil, List.drop_of_length_le (by omega), List.take_nil]
theorem pf_words_of (hS : S_words_of K vs G M R Z) : rd_words_of K (ends R Z) (sta 3 vs) G M := by
  obtain ⟨_, _, rfl, a, l, h, rfl, rfl, ha, hl, hh, hlt, q⟩ := sp2_of hS
  have rg := rg_up (i := 0) (j := (l.length : Int)) (c := 4) (by decide) (by decide) (by decide) (by decide) (by omega) (by omega)
  have en : (if (0 : Int) < (l.length : Int) then (((l.length : Int) - 0 - 1) / 4 + 1).toNat else 0) = (l.length + 3) / 4 := by
    split
    · omega
    · omega
  rw [en] at rg
  refine ⟨G, M, Wk.refl, _, .inl ha, ?_⟩
  rw [natsV_len]
  refine ⟨(l.length + 3) / 4, rg, sz (by show (l.length + 3) / 4 ≤ _; omega), fun i acc G' M' => G' = G ∧ M' = M ∧ acc = natsV ((List.range i).map fun i => packN h (chunk l i)), ⟨rfl, rfl, rfl⟩, fun _ _ _ _ _ _ => trivial, ?_, ?_⟩
  · rintro i acc G' M' D hi _ ⟨rfl, rfl, rfl⟩ fD
    show (kgName 2).val (.int ((0 : Int) + (i : Nat) * 4)) _ _ _ _
    have e : (0 : Int) + (i : Nat) * 4 = ((4 * i : Nat) : Int) := by omega
    rw [e]
    refine ⟨rfl, natsV l, lat_cons ha, fun p fp => ?_⟩
    have e2 : ((4 * i : Nat) : Int) + 4 = ((4 * i + 4 : Nat) : Int) := by omega
    rw [e2, cut_chunk]
    refine ⟨p, chunk l i, h, rfl, rfl, lat_0, by unfold chunk; rw [List.length_take]; omega, hh, fun x hx => hlt x (chunk_mem hx), ?_⟩
    exact ⟨_, _, Wk.drop0, rfl, rfl, by rw [List.range_succ, List.map_append, natsV_app2]; rfl⟩
  · rintro acc G' M' p ⟨rfl, rfl, rfl⟩ _ fp
    exact ret0 (q p fp)
theorem pf_leaf_in (hS : S_leaf_in K vs G M R Z) : rd_leaf_in K (ends R Z) (sta 3 vs) G M := by
  obtain ⟨_, _, _, rfl, w, h, p, rfl, rfl, rfl, hh, hp, q⟩ := sp3_of hS
  have e : (h : Int) * (p : Int) = ((h * p : Nat) : Int) := by push_cast; rfl
  refine ⟨G, M, Wk.refl, mul_l (by omega) (by omega), by show (0 : Int) ≤ (h : Int) * (p : Int); rw [e]; omega, ⟨by omega, by omega, by decide⟩, by show (0 : Int) < 1 * 2 ^ (h : Int).toNat; rw [Int.one_mul]; exact Int.pow_pos (by decide), ?_⟩
  have e2 : ((w : Int) / 2 ^ ((h : Int) * (p : Int)).toNat) % (1 * 2 ^ (h : Int).toNat) = ((leafIn w h p : Nat) : Int) := by
    unfold leafIn
    rw [e, Int.toNat_natCast, Int.toNat_natCast, Int.one_mul]; push_cast; rfl
  show (ends R Z).rt (.int (((w : Int) / 2 ^ ((h : Int) * (p : Int)).toNat) % (1 * 2 ^ (h : Int).toNat))) G M
  rw [e2]
  exact ret0 q
theorem pf_with_leaf (hS : S_with_leaf K vs G M R Z) : rd_with_leaf K (ends R Z) (sta 4 vs) G M := by
  obtain ⟨_, _, _, _, rfl, w, h, p, l, rfl, rfl, rfl, rfl, hh, hp, hl, h0, q⟩ := sp4_of hS
  have e : (h : Int) * (p : Int) = ((h * p : Nat) : Int) := by push_cast; rfl
  have hlt : leafIn w h p < 64 := by
    unfold leafIn
    have h1 : w / 2 ^ (h * p) % 2 ^ h < 2 ^ h := Nat.mod_lt _ (Nat.two_pow_pos h)
    have h64 : 2 ^ h ≤ 64 := Nat.pow_le_pow_right (n := 2) (by decide) hh
    omega
  have h3 : h * p ≤ 6 * 3 := Nat.mul_le_mul hh hp
  refine ⟨G, M, Wk.refl, w, h, p, rfl, rfl, rfl, hh, hp, mul_l (by omega) (by omega), shl_ok (by omega) (by omega) (by rw [e]; omega) (by rw [e]; omega), ?_⟩
  show (ends R Z).rt (.int ((w : Int) + ((l : Int) - (leafIn w h p : Int)) * 2 ^ ((h : Int) * (p : Int)).toNat)) G M
  rw [e, Int.toNat_natCast]
  have e2 : (w : Int) + ((l : Int) - (leafIn w h p : Int)) * 2 ^ (h * p) = ((withN w h p l : Nat) : Int) := by unfold withN; rw [Int.toNat_of_nonneg h0]
  rw [e2]
  exact ret0 q
theorem pf_Grove_fresh (h : S_Grove_fresh K vs G M R Z) : rd_Grove_fresh K (ends R Z) (sta 2 vs) G M := by
  obtain ⟨_, _, rfl, A, m, lim, made, i, ms, drs, vs, rfl, rfl, hat, hdr, hbs, hvl, hgd, hi, h3, hml, hl60, q⟩ := sp2_of h
  have hlen := hgd.len
  have e : (ms.sum : Int) + (made : Int) * (ms.length : Int) + (i : Int) = ((ms.sum + made * ms.length + i : Nat) : Int) := by push_cast; rfl
  have hmk : made * ms.length + ms.length ≤ lim * ms.length := by
    have : (made + 1) * ms.length ≤ lim * ms.length := Nat.mul_le_mul_right _ hml
    rw [Nat.succ_mul] at this; exact this
  refine ⟨G, M, Wk.refl, 7, A.ds, _, 2, .ref A.dr, hat, rfl, rfl, 7, A.ds, _, 7, .int ms.sum, hat, rfl, rfl, 7, A.ds, _, 4, .int made, hat, rfl, rfl, 7, A.ds, _, 6, .ref A.bs, hat, rfl, rfl, vs, lst_g hbs, ?_⟩
  rw [hvl]
  refine ⟨mul_l (by omega) (by omega), natsV drs, .int (freshN ms drs made i), lst_g hdr, ?_, ret0 q⟩
  rw [e]
  exact atI_natD (by omega)
theorem fl_put {β : Type} {g : Nat → List β} {i : Nat} : ∀ l : List Nat, l.Nodup → i ∈ l → (l.flatMap g).Perm (g i ++ l.flatMap fun j => if j = i then [] else g j)
  | [], _, h => nomatch h
  | x :: l, hn, h => by
    rw [List.nodup_cons] at hn
    rw [List.flatMap_cons, List.flatMap_cons]
    by_cases e : x = i
    · subst e
      rw [if_pos rfl, List.nil_append]
      have : (l.flatMap fun j => if j = x then [] else g j) = l.flatMap g := by
        have : ∀ l : List Nat, x ∉ l → (l.flatMap fun j => if j = x then [] else g j) = l.flatMap g := fun l => by
          induction l with
          | nil => intro _; rfl
          | cons y l ih =>
            intro hy
            rw [List.flatMap_cons, List.flatMap_cons, if_neg (fun z => hy (by rw [z]; exact List.mem_cons_self)), ih fun z => hy (List.mem_cons_of_mem _ z)]
        exact this l hn.1
      rw [this]
    · rw [if_neg e]
      have hm : i ∈ l := by
        rcases List.mem_cons.mp h with h | h
        · exact absurd h.symm e
        · exact h
      have ih := fl_put (g := g) l hn.2 hm
      refine (ih.append_left (g x)).trans ?_
      rw [← List.append_assoc, ← List.append_assoc]
      exact (List.perm_append_comm).append_right _
theorem bods_put {A : GroveA} {ms : List Nat} {v : GrV} {i : Nat} (hi : i < ms.length) : (bodsB K A ms v).Perm (bodG K A ms v i ++ (List.range ms.length).flatMap fun j => if j = i then [] else bodG K A ms v j) := fl_put (List.range ms.length) List.nodup_range (List.mem_range.mpr hi)
def setV (v : GrV) (i : Nat) (o : HO) (x : List V) (h : List (Key × V)) : GrV := ⟨o, fun j => if j = i then x else v.xs j, fun j => if j = i then h else v.hv j⟩
theorem bods_rest {A : GroveA} {ms : List Nat} {v : GrV} {i : Nat} {o : HO} {x : List V} {h : List (Key × V)} : ((List.range ms.length).flatMap fun j => if j = i then [] else bodG K A ms (setV v i o x h) j) = (List.range ms.length).flatMap fun j => if j = i then [] else bodG K A ms v j := by
  congr 1
  funext j
  by_cases e : j = i
  · rw [if_pos e, if_pos e]
  · rw [if_neg e, if_neg e]
    unfold bodG setV
    simp only [e, if_false]
/-- what stands beside one body -/
def besG (K : PySem.W.Frag) (A : GroveA) (m lim made : Nat) (ms : List Nat) (v : GrV) (tb : List Nat) (i : Nat) (F : Mem) : Mem :=
  (A.s, Ob K 7 A.ds (StoreF.vs ⟨m, lim, A.dr, A.kp, made⟩ ++ [.ref A.hs, .ref A.bs, .int ms.sum, .ref A.tb])) :: (A.tb, .lst (natsV tb)) :: (((List.range ms.length).flatMap fun j => if j = i then [] else bodG K A ms v j) ++ F)
theorem grove_perm {A : GroveA} {m lim made : Nat} {ms : List Nat} {v : GrV} {tb : List Nat} {i : Nat} {F : Mem} (hi : i < ms.length) : (groveB K A m lim made ms v tb ++ F).Perm (bodyB K (A.b i) A.kp i (highN (msN ms i)) (v.xs i) (v.hv i) ++ (keepB K A.kp A.dk A.lg v.o ++ besG K A m lim made ms v tb i F)) := by
  have h := bods_put (K := K) (A := A) (v := v) hi
  unfold groveB besG
  refine List.Perm.trans (l₂ := keepB K A.kp A.dk A.lg v.o ++ ((A.s, Ob K 7 A.ds (StoreF.vs ⟨m, lim, A.dr, A.kp, made⟩ ++ [.ref A.hs, .ref A.bs, .int ms.sum, .ref A.tb])) :: (A.tb, .lst (natsV tb)) :: ((bodG K A ms v i ++ (List.range ms.length).flatMap fun j => if j = i then [] else bodG K A ms v j) ++ F))) ?_ ?_
  · rw [List.append_assoc]
    exact List.Perm.append_left _ (.cons _ (.cons _ (h.append_right F)))
  · show List.Perm _ (bodG K A ms v i ++ _)
    generalize bodG K A ms v i = X
    generalize ((List.range ms.length).flatMap fun j => if j = i then [] else bodG K A ms v j) = Y
    generalize keepB K A.kp A.dk A.lg v.o = W
    (classical (rw [List.perm_iff_count]; intro x; simp only [List.set_cons_zero, List.set_cons_succ, List.cons_append, List.nil_append, List.append_assoc, List.append_eq, List.count_append, List.count_cons, List.count_nil] <;> omega))
theorem grove_back {A : GroveA} {m lim made : Nat} {ms : List Nat} {v : GrV} {tb : List Nat} {i : Nat} {F : Mem} {o : HO} {x : List V} {h : List (Key × V)} (hi : i < ms.length) : (groveB K A m lim made ms (setV v i o x h) tb ++ F).Perm (bodyB K (A.b i) A.kp i (highN (msN ms i)) x h ++ (keepB K A.kp A.dk A.lg o ++ besG K A m lim made ms v tb i F)) := by
  have := grove_perm (K := K) (A := A) (m := m) (lim := lim) (made := made) (v := setV v i o x h) (tb := tb) (F := F) hi
  unfold besG at this ⊢
  rw [bods_rest] at this
  have e1 : (setV v i o x h).xs i = x := if_pos rfl
  have e2 : (setV v i o x h).hv i = h := if_pos rfl
  rw [e1, e2] at this
  exact this
theorem cellI_succ (c j : Nat) : cellI c (j + 1) = cellI c j / 4 := by
  unfold cellI
  rw [Nat.mul_succ, Nat.pow_add, ← Nat.div_div_eq_div_mul]
theorem with_nonneg {h : Nat} {l : List Nat} {c x : Nat} (hl : ∀ x, x ∈ l → x < 2 ^ h) (hc : c < l.length) : (0 : Int) ≤ ((wordsN h l).getD (c / 4) 0 : Nat) + ((x : Int) - (leafIn ((wordsN h l).getD (c / 4) 0) h (c % 4) : Int)) * 2 ^ (h * (c % 4)) := by
  rw [words_get (by omega), leafIn_pack _ _ (fun y hy => hl y (chunk_mem hy)) (chunk_len hc), ← pack_set _ _ _ (chunk_len hc)]
  omega
theorem cellI_lt {ms : List Nat} {m c : Nat} (h : MsOk ms m) (hc : c < m) : ∀ i, i < ms.length → cellI c i < msN ms i
  | 0, _ => by
    unfold cellI
    rw [h.hd, Nat.mul_zero, Nat.pow_zero, Nat.div_one]; exact hc
  | i + 1, hi => by
    have := cellI_lt h hc i (by omega)
    rw [cellI_succ, h.nx i hi]; omega
theorem bes_at {A : GroveA} {m lim made : Nat} {ms : List Nat} {v : GrV} {tb : List Nat} {i : Nat} {F X : Mem} : At G (X ++ besG K A m lim made ms v tb i F) A.s (Ob K 7 A.ds (StoreF.vs ⟨m, lim, A.dr, A.kp, made⟩ ++ [.ref A.hs, .ref A.bs, .int ms.sum, .ref A.tb])) := .inl (List.mem_append.mpr (.inr List.mem_cons_self))
theorem high5 {ms : List Nat} {m i : Nat} (h : MsOk ms m) (hi : i < ms.length) : highN (msN ms i) ≤ 5 := high_le _ (by have := (h.ok i hi).2; omega)
theorem hi_get {ms : List Nat} {i : Nat} (hi : i < ms.length) : atI (natsV (ms.map highN)) (i : Int) = some (.int (highN (msN ms i))) := by
  refine atI_nats ?_
  rw [List.getElem?_map, List.getElem?_eq_getElem hi]
  unfold msN
  rw [getD_lt hi]; rfl
theorem bs_get {A : GroveA} {ms : List Nat} {i : Nat} (hi : i < ms.length) : atI ((List.range ms.length).map fun i => V.ref (A.b i).b) (i : Int) = some (.ref (A.b i).b) := atI_nat (by rw [List.getElem?_map, List.getElem?_range hi]; rfl)
theorem shr_nat (c k : Nat) : (c : Int) / 2 ^ ((2 : Int) * (k : Int)).toNat = ((cellI c k : Nat) : Int) := by
  unfold cellI
  rw [show ((2 : Int) * (k : Int)).toNat = 2 * k by omega]; push_cast; rfl
theorem pf_Grove_passed (h : S_Grove_passed K vs G M R Z) : rd_Grove_passed K (ends R Z) (sta 9 vs) G M := by
  obtain ⟨_, _, _, _, rfl, A, m, lim, made, j, ms, drs, fs, W, tb, s, v, ts, d, F, rfl, rfl, rfl, rfl, rfl, hbd, hbi, htl, htk, hlog, hdr, hgd, hhs, hbs, hmo, hj, hok, hml, hl60, hts, q⟩ := sp4_of h
  clear h
  have hjl : j < ms.length := by omega
  have h5 := high5 hmo hj
  have h5' := high5 hmo hjl
  have hc := cellI_lt hmo hok.1 (j + 1) hj
  have hcj := cellI_lt hmo hok.1 j hjl
  obtain ⟨i, hi⟩ : ∃ i, i = j + 1 := ⟨_, rfl⟩
  obtain ⟨leaf, hleaf⟩ : ∃ leaf, leaf = (s (j + 1)).tb.getD (cellI d.cell (j + 1)) 0 := ⟨_, rfl⟩
  rw [← hleaf]
  have hlf : leaf < 2 ^ highN (msN ms (j + 1)) := by rw [hleaf]; exact hbi.tk _ (getD_mem (by rw [hbi.tl]; exact hc))
  have hvl : ((List.range ms.length).map fun i => V.ref (A.b i).b).length = ms.length := by rw [List.length_map, List.length_range]
  obtain ⟨M0, hM0⟩ : ∃ M0, M0 = groveB K A m lim made ms v tb ++ F := ⟨_, rfl⟩
  have hat : At G M0 A.s (Ob K 7 A.ds (StoreF.vs ⟨m, lim, A.dr, A.kp, made⟩ ++ [.ref A.hs, .ref A.bs, .int ms.sum, .ref A.tb])) := by
    rw [hM0]; exact at_n (n := 2) rfl
  rw [← hM0]
  have ej : (((j + 1 : Nat) : Int) - 1) = (j : Int) := by omega
  refine ⟨G, M0, Wk.refl, mul_l (by decide) (by decide), by show (0 : Int) ≤ 2 * ((j + 1 : Nat) : Int); omega, ?_⟩
  show rd_Grove_passed_1 K (ends R Z) [some (.ref A.s), some (.int (j + 1 : Nat)), some (.int d.cell), some (.int (leaf : Nat)), some (.int ((d.cell : Int) / 2 ^ ((2 : Int) * ((j + 1 : Nat) : Int)).toNat)), none, none, none, none] G M0
  rw [shr_nat]
  refine ⟨G, M0, Wk.refl, mul_l (by decide) (by decide), by show (0 : Int) ≤ 2 * ((j + 1 : Nat) : Int) - 2; omega, by show (0 : Int) < 4; decide, ?_⟩
  have e2 : ((d.cell : Int) / 2 ^ ((2 : Int) * ((j + 1 : Nat) : Int) - 2).toNat) % 4 = ((cellI d.cell j % 4 : Nat) : Int) := by
    rw [show ((2 : Int) * ((j + 1 : Nat) : Int) - 2) = 2 * (j : Int) by omega, shr_nat]; omega
  show rd_Grove_passed_2 K (ends R Z) [some (.ref A.s), some (.int (j + 1 : Nat)), some (.int d.cell), some (.int (leaf : Nat)), some (.int (cellI d.cell (j + 1) : Nat)), some (.int (((d.cell : Int) / 2 ^ ((2 : Int) * ((j + 1 : Nat) : Int) - 2).toNat) % 4)), none, none, none] G M0
  rw [e2]
  refine ⟨G, M0, Wk.refl, 7, A.ds, _, 5, .ref A.hs, hat, rfl, rfl, natsV (ms.map highN), _, lst_g hhs, by rw [ej]; exact hi_get hjl, ?_⟩
  refine ⟨G, M0, Wk.refl, 7, A.ds, _, 6, .ref A.bs, hat, rfl, rfl, _, _, lst_g hbs, bs_get hj, ?_⟩
  -- looks
  obtain ⟨S, hS⟩ : ∃ S, S = besG K A m lim made ms v tb (j + 1) F := ⟨_, rfl⟩
  have hp0 := grove_perm (K := K) (A := A) (m := m) (lim := lim) (made := made) (v := v) (tb := tb) (F := F) hj
  rw [← hM0, ← hS] at hp0
  refine ⟨G, M0, Wk.refl, 8, (A.b (j + 1)).db, _, S_Body_look_way K, .inl (hp0.mem_iff.mpr List.mem_cons_self), rfl, A.b (j + 1), A.kp, A.dk, A.lg, v.o, ts, j + 1, msN ms (j + 1), highN (msN ms (j + 1)), leaf, fs (j + 1), (s (j + 1)).th, (s (j + 1)).f, v.xs (j + 1), v.hv (j + 1), S, rfl, rfl, hp0, hbd _ hj, hlog, hlf, by omega, fun G1 o1 hv1 ex1 ho1 hb1 => ?_⟩
  obtain ⟨f1, hf1⟩ : ∃ f1, f1 = lookW (s (j + 1)).th (highN (msN ms (j + 1))) leaf (s (j + 1)).f (highN (msN ms (j + 1)) + 1) := ⟨_, rfl⟩
  rw [← hf1] at hb1
  obtain ⟨own, hown⟩ : ∃ own, own = cellI d.cell (j + 1) := ⟨_, rfl⟩
  have howl : own < msN ms (j + 1) := by rw [hown]; exact hc
  rw [← hown]
  refine ⟨G1, _, Wk.refl, 8, (A.b (j + 1)).db, _, S_Body_word_of K, at_n (n := 0) rfl, rfl, A.b (j + 1), A.kp, j + 1, msN ms (j + 1), highN (msN ms (j + 1)), own, fs (j + 1), (s (j + 1)).th, f1, v.xs (j + 1), hv1, _, rfl, rfl, .refl _, hb1, howl, ?_⟩
  obtain ⟨old, hold⟩ : ∃ old, old = bTold (highN (msN ms (j + 1))) (fs (j + 1)) (cellI d.cell (j + 1)) (s (j + 1)) := ⟨_, rfl⟩
  have et : (match f1 own with | some p => p.1 | none => (fs (j + 1)).getD own 0 : Nat) = old := by
    rw [hold, hown]; unfold bTold; rw [← hleaf, ← hf1]; try (cases f1 (cellI d.cell (j + 1)) <;> rfl)
  show rd_Grove_passed_6 K (ends R Z) [some (.ref A.s), some (.int (j + 1 : Nat)), some (.int d.cell), some (.int (leaf : Nat)), some (.int (own : Nat)), some (.int (cellI d.cell j % 4 : Nat)), some (.int (highN (msN ms j))), some (.ref (A.b (j + 1)).b), some (.int ((match f1 own with | some p => p.1 | none => (fs (j + 1)).getD own 0 : Nat) : Int))] G1 _
  rw [et]
  have hold2 : old = (wordsN (highN (msN ms j)) (s j).tb).getD (cellI d.cell j / 4) 0 := by
    rw [hold, bi_told hbi hc, cellI_succ]
  have hat1 : ∀ {G' : Hp} {X : Mem}, At G' (X ++ S) A.s (Ob K 7 A.ds (StoreF.vs ⟨m, lim, A.dr, A.kp, made⟩ ++ [.ref A.hs, .ref A.bs, .int ms.sum, .ref A.tb])) := by rw [hS]; exact bes_at
  have fr1 := hgd.ask j made hjl hml
  have p5 : 2 ^ highN (msN ms j) ≤ 2 ^ 5 := Nat.pow_le_pow_right (by decide) h5'
  have hd1 := ex_l ex1 hdr
  have hb1' := ex_l ex1 hbs
  have asc : ∀ {X Y : Mem}, X ++ (Y ++ S) = (X ++ Y) ++ S := (List.append_assoc _ _ _).symm
  refine ⟨G1, _, Wk.refl, 8, (A.b (j + 1)).db, _, S_Body_keep K, at_n (n := 0) rfl, rfl, 7, A.ds, _, S_Grove_fresh K, by rw [asc]; exact hat1, rfl, A, m, lim, made, j, ms, drs, _, rfl, by show V.int (((j + 1 : Nat) : Int) - 1) = _; rw [ej], by rw [asc]; exact hat1, hd1, hb1', hvl, hgd, hjl, hmo.l3, hml, hl60, ?_⟩
  refine ⟨old, highN (msN ms j), cellI d.cell j % 4, freshN ms drs made j, rfl, rfl, rfl, rfl, by omega, by omega, by omega, by rw [hold2]; exact with_nonneg htk (by rw [htl]; exact hcj), ?_⟩
  refine ⟨7, A.ds, _, S_Grove_fresh K, by rw [asc]; exact hat1, rfl, A, m, lim, made, j + 1, ms, drs, _, rfl, rfl, by rw [asc]; exact hat1, hd1, hb1', hvl, hgd, hj, hmo.l3, hml, hl60, ?_⟩
  refine ⟨A.b (j + 1), A.kp, j + 1, msN ms (j + 1), highN (msN ms (j + 1)), own, withN old (highN (msN ms j)) (cellI d.cell j % 4) (freshN ms drs made j), freshN ms drs made (j + 1), fs (j + 1), (s (j + 1)).th, f1, v.xs (j + 1), hv1, _, rfl, rfl, rfl, rfl, .refl _, hb1, howl, fun G2 hv2 ex2 hb2 => ?_⟩
  refine ⟨G2, _, Wk.refl, 8, (A.b (j + 1)).db, _, S_Body_lay_way K, at_n (n := 0) rfl, rfl, A.b (j + 1), A.kp, A.dk, A.lg, o1, _, j + 1, msN ms (j + 1), highN (msN ms (j + 1)), leaf, fs (j + 1), (s (j + 1)).th, _, v.xs (j + 1), hv2, S, rfl, rfl, .refl _, hb2, ho1.ex ex2, hlf, by rw [List.length_append, lookT_len]; omega, fun G3 o3 x3 hv3 ex3 ho3 hb3 => ?_⟩
  refine ⟨G3, _, Wk.refl, old, highN (msN ms j), cellI d.cell j % 4, rfl, rfl, rfl, by omega, by omega, ?_⟩
  have elf : leafIn old (highN (msN ms j)) (cellI d.cell j % 4) = (s j).tb.getD (cellI d.cell j) 0 := by rw [hold2]; exact words_leaf htk (by rw [htl]; exact hcj)
  rw [elf]
  have ex := (ex1.trans ex2).trans ex3
  have ek : f1.put own (withN old (highN (msN ms j)) (cellI d.cell j % 4) (freshN ms drs made j), freshN ms drs made (j + 1)) = bKeep (highN (msN ms (j + 1))) (fs (j + 1)) (cellI d.cell (j + 1)) (newW ms d (freshN ms drs made) (j + 1)) (freshN ms drs made (j + 1)) (s (j + 1)) := by
    unfold bKeep
    rw [← hold, ← hleaf, ← hf1, ← hown]; rfl
  rw [ek, hleaf] at hb3
  refine retW (G' := G3) (Wk.perm (M' := groveB K A m lim made ms (setV v (j + 1) o3 x3 hv3) tb ++ F) ?_) (q G3 (setV v (j + 1) o3 x3 hv3) ex (fun i hi => ?_) ?_)
  · have := grove_back (K := K) (A := A) (m := m) (lim := lim) (made := made) (v := v) (tb := tb) (F := F) (o := o3) (x := x3) (h := hv3) hj
    rw [← hS] at this
    exact this
  · by_cases z : i = j + 1
    · subst z
      rw [if_pos rfl, if_pos rfl]
      have e1 : (setV v (j + 1) o3 x3 hv3).xs (j + 1) = x3 := if_pos rfl
      have e2 : (setV v (j + 1) o3 x3 hv3).hv (j + 1) = hv3 := if_pos rfl
      rw [e1, e2]
      exact hb3
    · rw [if_neg z, if_neg z]
      have e1 : (setV v (j + 1) o3 x3 hv3).xs i = v.xs i := if_neg z
      have e2 : (setV v (j + 1) o3 x3 hv3).hv i = v.hv i := if_neg z
      rw [e1, e2]
      exact (hbd i hi).ex ex
  · show LogC K G3 (ts ++ grWayT ms d s (j + 1)) o3
    unfold grWayT wayT
    rw [← hleaf, ← List.append_assoc]
    exact ho3
theorem way_len (num high leaf : Nat) : (wayT num high leaf).length = 4 * (high + 1) := by unfold wayT; rw [List.length_append, lookT_len, layT_len]; omega
/-- all trees behind an ask hold what they should -/
theorem gr_bi {ms drs : List Nat} {m lim made : Nat} {fs : Nat → List Nat} {W : List Nat} {s : GrM} {d : Deed} (hmo : MsOk ms m) (hgd : GrD ms drs lim) (hok : DeedOk m d) (hml : made < lim) (h : ∀ i, i < ms.length → BI (msN ms i) (fs i) (wordG ms W s i) (s i)) : ∀ i, i < ms.length → BI (msN ms i) (fs i) (wordG ms (d.upd W) (grAsk ms fs d (freshN ms drs made) s) i) (grAsk ms fs d (freshN ms drs made) s i) := fun i hi => by
  have hb := bi_ask (w := newW ms d (freshN ms drs made) i) (fresh := freshN ms drs made i) (h i hi) (cellI_lt hmo hok.1 i hi) (hgd.ask i made hi hml)
  have e : wordG ms (d.upd W) (grAsk ms fs d (freshN ms drs made) s) i = (wordG ms W s i).set (cellI d.cell i) (newW ms d (freshN ms drs made) i ((wordG ms W s i).getD (cellI d.cell i) 0)) := by
    cases i with
    | zero =>
      have hc0 : cellI d.cell 0 = d.cell := by unfold cellI; rw [Nat.mul_zero, Nat.pow_zero, Nat.div_one]
      have hwl := (h 0 hi).wl
      rw [hmo.hd] at hwl
      have hwl : W.length = m := hwl
      rw [hc0]
      show d.upd W = W.set d.cell (d.put (W.getD d.cell 0))
      cases d with
      | read x =>
        have hc : x < m := hok.1
        show W = W.set x (W.getD x 0)
        exact (set_self (by rw [List.getElem?_eq_getElem (by omega), List.getD_eq_getElem?_getD, List.getElem?_eq_getElem (by omega)]; rfl)).symm
      | write x w => rfl
    | succ j =>
      have hj : j < ms.length := by omega
      have hbj := h j hj
      show wordsN (highN (msN ms j)) ((s j).tb.set (cellI d.cell j) (freshN ms drs made j)) = (wordsN (highN (msN ms j)) (s j).tb).set (cellI d.cell (j + 1)) (withN ((wordsN (highN (msN ms j)) (s j).tb).getD (cellI d.cell (j + 1)) 0) (highN (msN ms j)) (cellI d.cell j % 4) (freshN ms drs made j))
      rw [cellI_succ]
      exact words_set hbj.tk (by rw [hbj.tl]; exact cellI_lt hmo hok.1 j hj)
  rw [e]
  exact hb
theorem pf_Grove_answered (h : S_Grove_answered K vs G M R Z) : rd_Grove_answered K (ends R Z) (sta 9 vs) G M := by
  obtain ⟨_, _, _, rfl, A, m, lim, made, ms, drs, fs, W, s, v, ts, d, F, rfl, rfl, rfl, rfl, hi, hok, hml, hl60, hts, q⟩ := sp3_of h
  clear h
  have hmo := hi.mo
  have h3 := hmo.l3
  have h1 := hmo.l0
  obtain ⟨k, hk⟩ : ∃ k, ms.length = k + 1 := ⟨ms.length - 1, by omega⟩
  have ek : ms.length - 1 = k := by omega
  rw [ek] at q ⊢
  have hvl : ((List.range ms.length).map fun i => V.ref (A.b i).b).length = ms.length := by rw [List.length_map, List.length_range]
  obtain ⟨fr, hfr⟩ : ∃ fr, fr = freshN ms drs made := ⟨_, rfl⟩
  have hbi' := gr_bi hmo hi.dd hok hml hi.bi
  rw [← hfr] at q hbi'
  have hkl : k < ms.length := by omega
  have hck := cellI_lt hmo hok.1 k hkl
  have hbk := hi.bi k hkl
  have hat : ∀ {G' : Hp} {v : GrV} {tb : List Nat}, At G' (groveB K A m lim made ms v tb ++ F) A.s (Ob K 7 A.ds (StoreF.vs ⟨m, lim, A.dr, A.kp, made⟩ ++ [.ref A.hs, .ref A.bs, .int ms.sum, .ref A.tb])) := at_n (n := 2) rfl
  refine ⟨G, _, Wk.refl, 7, A.ds, _, 6, .ref A.bs, hat, rfl, rfl, _, lst_g hi.bs, ?_⟩
  rw [hvl]
  have e1 : (ms.length : Int) - 1 = (k : Int) := by omega
  show rd_Grove_answered_1 K (ends R Z) [some (.ref A.s), some (.int d.cell), some d.word, some (.int ((ms.length : Int) - 1)), none, none, none, none, none] G _
  rw [e1]
  refine ⟨G, _, Wk.refl, mul_l (by decide) (by decide), by show (0 : Int) ≤ 2 * (k : Int); omega, ?_⟩
  show rd_Grove_answered_2 K (ends R Z) [some (.ref A.s), some (.int d.cell), some d.word, some (.int (k : Int)), some (.int ((d.cell : Int) / 2 ^ ((2 : Int) * (k : Int)).toNat)), none, none, none, none] G _
  rw [shr_nat]
  refine ⟨G, _, Wk.refl, 7, A.ds, _, 8, .ref A.tb, hat, rfl, rfl, natsV (s k).tb, _, lst_n (n := 3) rfl, atI_natD (by rw [hbk.tl]; exact hck), ?_⟩
  refine ⟨G, _, Wk.refl, 7, A.ds, _, S_Grove_fresh K, hat, rfl, A, m, lim, made, k, ms, drs, _, rfl, rfl, hat, hi.dr, hi.bs, hvl, hi.dd, hkl, h3, hml, hl60, 7, A.ds, _, 8, .ref A.tb, hat, rfl, rfl, 3, natsV (s k).tb, cellI d.cell k, rfl, ixN_nat (by rw [natsV_len, hbk.tl]; exact hck), ?_⟩
  rw [natsV_set, ← hfr]
  obtain ⟨tb, htb⟩ : ∃ tb, tb = (s k).tb.set (cellI d.cell k) (fr k) := ⟨_, rfl⟩
  rw [← htb]
  -- the lesser trees
  have rg := rg_down (i := (k : Int)) (j := 0) (by omega) (by omega) (by omega) (by omega)
  have ekn : ((k : Int) - 0).toNat = k := by omega
  rw [ekn] at rg
  refine ⟨G, groveB K A m lim made ms v tb ++ F, Wk.refl, k, rg, fun n σ G' M' => ∃ (v' : GrV) (y6 : Option V), σ = [some (.ref A.s), some (.int d.cell), some d.word, some (.int (k : Int)), some (.int (cellI d.cell k : Nat)), some (.int ((s (k - n)).tb.getD (cellI d.cell (k - n)) 0 : Nat)), y6, none, none] ∧ Ex G G' ∧ M' = groveB K A m lim made ms v' tb ++ F ∧
      (∀ i, i < ms.length → BodyI K G' (A.b i) (msN ms i) (highN (msN ms i)) (fs i) (if k - n < i then (grStep ms fs d fr i (s i)).th else (s i).th) (if k - n < i then (grStep ms fs d fr i (s i)).f else (s i).f) (v'.xs i) (v'.hv i)) ∧ LogC K G' (ts ++ ((List.range ms.length).reverse.take n).flatMap (grWayT ms d s)) v'.o,
    ⟨v, none, rfl, Ex.refl, rfl, fun i hil => ?_, ?_⟩, fun _ _ _ _ _ _ => trivial, ?_, ?_⟩
  · rw [if_neg (by omega), if_neg (by omega)]; exact hi.bd i hil
  · rw [List.take_zero]; show LogC K G (ts ++ []) v.o; rw [List.append_nil]; exact hi.log
  · rintro n σ G' M' hn ⟨v', y6, rfl, ex, rfl, hbd, hlog⟩
    have hn : n < k := hn
    obtain ⟨j, hj⟩ : ∃ j, k - n = j + 1 := ⟨k - n - 1, by omega⟩
    have en : (k : Int) + (n : Nat) * (-1) = ((j + 1 : Nat) : Int) := by omega
    show asg _ (.inl (.int ((k : Int) + (n : Nat) * (-1)))) _ _ _ _
    rw [en, hj]
    have hjl : j + 1 < ms.length := by omega
    have hbj := hi.bi j (by omega)
    obtain ⟨s', hs'⟩ : ∃ s' : GrM, s' = fun i => if k - n < i then grStep ms fs d fr i (s i) else s i := ⟨_, rfl⟩
    have es1 : s' (j + 1) = s (j + 1) := by rw [hs']; exact if_neg (by omega)
    have es0 : s' j = s j := by rw [hs']; exact if_neg (by omega)
    have etl : (ts ++ ((List.range ms.length).reverse.take n).flatMap (grWayT ms d s)).length ≤ 500000 := by
      have h1 : ∀ l : List Nat, (∀ i, i ∈ l → i < ms.length) → (l.flatMap (grWayT ms d s)).length ≤ 24 * l.length := fun l => by
        induction l with
        | nil => intro _; exact Nat.le_refl _
        | cons x l ih =>
          intro hx
          have := ih fun t ht => hx t (List.mem_cons_of_mem _ ht)
          have h5 := high5 hmo (hx x List.mem_cons_self)
          rw [List.flatMap_cons, List.length_append, List.length_cons]
          unfold grWayT at this ⊢
          rw [way_len]; omega
      have := h1 ((List.range ms.length).reverse.take n) fun i hi => List.mem_range.mp (List.mem_reverse.mp (List.mem_of_mem_take hi))
      rw [List.length_take, List.length_reverse, List.length_range] at this
      rw [List.length_append]; omega
    refine ⟨G', _, Wk.refl, 7, A.ds, _, S_Grove_passed K, hat, rfl, A, m, lim, made, j, ms, drs, fs, W, tb, s', v', _, d, F, rfl, rfl, rfl, by rw [es1], rfl, fun i hil => ?_, ?_, by rw [es0]; exact hbj.tl, by rw [es0]; exact hbj.tk, hlog, ex_l ex hi.dr, hi.dd, ex_l ex hi.hs, ex_l ex hi.bs, hmo, hjl, hok, hml, hl60, etl, fun G2 v2 ex2 hbd2 hlog2 => ?_⟩
    · have := hbd i hil
      rw [hs']
      by_cases z : k - n < i
      · simp only [z, if_true] at this ⊢; exact this
      · simp only [z, if_false] at this ⊢; exact this
    · rw [es1, es0]; exact hi.bi (j + 1) hjl
    · rw [es0]
      refine ⟨G2, _, Wk.refl, v2, some (.int (j + 1 : Nat)), ?_, ex.trans ex2, rfl, fun i hil => ?_, ?_⟩
      · rw [show k - (n + 1) = j by omega]; rfl
      · have := hbd2 i hil
        rw [show k - (n + 1) = j by omega]
        by_cases z : i = j + 1
        · subst z
          rw [if_pos rfl, if_pos rfl, es1, ← hfr] at this
          rw [if_pos (by omega), if_pos (by omega)]; exact this
        · rw [if_neg z, if_neg z, hs'] at this
          by_cases y : k - n < i
          · simp only [y, if_true] at this
            rw [if_pos (by omega), if_pos (by omega)]; exact this
          · simp only [y, if_false] at this
            rw [if_neg (by omega), if_neg (by omega)]; exact this
      · have eg : (List.range ms.length).reverse[n]? = some (j + 1) := by
          rw [rev_get (by rw [List.length_range]; omega), List.length_range, List.getElem?_range (by omega)]; congr 1; omega
        rw [take_succ' eg, List.flatMap_append, List.flatMap_cons, List.flatMap_nil, List.append_nil, ← List.append_assoc]
        have : grWayT ms d s' (j + 1) = grWayT ms d s (j + 1) := by unfold grWayT; rw [es1]
        rw [this] at hlog2
        exact hlog2
  rintro σ G1 M' ⟨v1, y6, rfl, ex1, rfl, hbd, hlog⟩
  have en : (srcC (k : Int) (-1) k).n = k := rfl
  rw [en] at hlog
  rw [en, Nat.sub_self] at hbd ⊢
  have hc0 : cellI d.cell 0 = d.cell := by unfold cellI; rw [Nat.mul_zero, Nat.pow_zero, Nat.div_one]
  have h0l : 0 < ms.length := by omega
  have hb0 := hi.bi 0 h0l
  have hm0 := hmo.hd
  have hc := hok.1
  obtain ⟨leaf, hleaf⟩ : ∃ leaf, leaf = (s 0).tb.getD (cellI d.cell 0) 0 := ⟨_, rfl⟩
  rw [← hleaf]
  have hlf : leaf < 2 ^ highN (msN ms 0) := by rw [hleaf]; exact hb0.tk _ (getD_mem (by rw [hb0.tl, hc0, hm0]; exact hc))
  refine ⟨G1, _, Wk.refl, 7, A.ds, _, 6, .ref A.bs, hat, rfl, rfl, _, _, lst_g (ex_l ex1 hi.bs), bs_get (i := 0) h0l, ?_⟩
  obtain ⟨S, hS⟩ : ∃ S, S = besG K A m lim made ms v1 tb 0 F := ⟨_, rfl⟩
  have hp0 := grove_perm (K := K) (A := A) (m := m) (lim := lim) (made := made) (v := v1) (tb := tb) (F := F) h0l
  rw [← hS] at hp0
  have hbd0 := hbd 0 h0l
  rw [if_neg (Nat.lt_irrefl 0), if_neg (Nat.lt_irrefl 0)] at hbd0
  obtain ⟨ts1, hts1⟩ : ∃ ts1, ts1 = ts ++ ((List.range ms.length).reverse.take k).flatMap (grWayT ms d s) := ⟨_, rfl⟩
  have hl1 : ts1.length ≤ 500000 := by
    have h1 : ∀ l : List Nat, (∀ i, i ∈ l → i < ms.length) → (l.flatMap (grWayT ms d s)).length ≤ 24 * l.length := fun l => by
      induction l with
      | nil => intro _; exact Nat.le_refl _
      | cons x l ih =>
        intro hx
        have := ih fun t ht => hx t (List.mem_cons_of_mem _ ht)
        have h5 := high5 hmo (hx x List.mem_cons_self)
        rw [List.flatMap_cons, List.length_append, List.length_cons]
        unfold grWayT at this ⊢
        rw [way_len]; omega
    have := h1 ((List.range ms.length).reverse.take k) fun i hi => List.mem_range.mp (List.mem_reverse.mp (List.mem_of_mem_take hi))
    rw [List.length_take, List.length_reverse, List.length_range] at this
    rw [hts1, List.length_append]; omega
  rw [← hts1] at hlog
  have h5 := high5 hmo h0l
  refine ⟨G1, _, Wk.refl, 8, (A.b 0).db, _, S_Body_look_way K, .inl (hp0.mem_iff.mpr List.mem_cons_self), rfl, A.b 0, A.kp, A.dk, A.lg, v1.o, ts1, 0, msN ms 0, highN (msN ms 0), leaf, fs 0, (s 0).th, (s 0).f, v1.xs 0, v1.hv 0, S, rfl, rfl, hp0, hbd0, hlog, hlf, by omega, fun G2 o2 hv2 ex2 ho2 hb2 => ?_⟩
  obtain ⟨f1, hf1⟩ : ∃ f1, f1 = lookW (s 0).th (highN (msN ms 0)) leaf (s 0).f (highN (msN ms 0) + 1) := ⟨_, rfl⟩
  rw [← hf1] at hb2
  refine ⟨G2, _, Wk.refl, 8, (A.b 0).db, _, S_Body_word_of K, at_n (n := 0) rfl, rfl, A.b 0, A.kp, 0, msN ms 0, highN (msN ms 0), d.cell, fs 0, (s 0).th, f1, v1.xs 0, hv2, _, rfl, rfl, .refl _, hb2, by rw [hm0]; exact hc, ?_⟩
  obtain ⟨told, htold⟩ : ∃ told, told = bTold (highN (msN ms 0)) (fs 0) (cellI d.cell 0) (s 0) := ⟨_, rfl⟩
  have et : (match f1 d.cell with | some p => p.1 | none => (fs 0).getD d.cell 0 : Nat) = told := by
    rw [htold]; unfold bTold; rw [← hleaf, ← hf1, hc0]; try (cases f1 d.cell <;> rfl)
  have htW : told = W.getD d.cell 0 := by
    rw [htold, bi_told hb0 (by rw [hc0, hm0]; exact hc), hc0]; rfl
  show rd_Grove_answered_8 K (ends R Z) [some (.ref A.s), some (.int d.cell), some d.word, some (.int (k : Int)), some (.int (cellI d.cell k : Nat)), some (.int (leaf : Nat)), y6, some (.ref (A.b 0).b), some (.int ((match f1 d.cell with | some p => p.1 | none => (fs 0).getD d.cell 0 : Nat) : Int))] G2 _
  rw [et]
  have hat1 : ∀ {G' : Hp} {X : Mem}, At G' (X ++ S) A.s (Ob K 7 A.ds (StoreF.vs ⟨m, lim, A.dr, A.kp, made⟩ ++ [.ref A.hs, .ref A.bs, .int ms.sum, .ref A.tb])) := by rw [hS]; exact bes_at
  have asc : ∀ {X Y : Mem}, X ++ (Y ++ S) = (X ++ Y) ++ S := (List.append_assoc _ _ _).symm
  have ex12 := ex1.trans ex2
  have keep : ∀ (w : Nat), w = d.put told → (∀ (R : KR) (E : KX), R (.int w) G2 (bodyB K (A.b 0) A.kp 0 (highN (msN ms 0)) (v1.xs 0) hv2 ++ (keepB K A.kp A.dk A.lg o2 ++ S)) → kIte (kT (kBin (kIs2 false) (kVar 2) (kC .non))) (kVar 8) (kVar 2) [some (.ref A.s), some (.int d.cell), some d.word, some (.int (k : Int)), some (.int (cellI d.cell k : Nat)), some (.int (leaf : Nat)), y6, some (.ref (A.b 0).b), some (.int (told : Nat))] G2 (bodyB K (A.b 0) A.kp 0 (highN (msN ms 0)) (v1.xs 0) hv2 ++ (keepB K A.kp A.dk A.lg o2 ++ S)) R E) →
      rd_Grove_answered_8 K (ends R Z) [some (.ref A.s), some (.int d.cell), some d.word, some (.int (k : Int)), some (.int (cellI d.cell k : Nat)), some (.int (leaf : Nat)), y6, some (.ref (A.b 0).b), some (.int (told : Nat))] G2 (bodyB K (A.b 0) A.kp 0 (highN (msN ms 0)) (v1.xs 0) hv2 ++ (keepB K A.kp A.dk A.lg o2 ++ S)) := by
    intro w hw hite
    refine ⟨G2, _, Wk.refl, 8, (A.b 0).db, _, S_Body_keep K, at_n (n := 0) rfl, rfl, hite _ _ ⟨7, A.ds, _, S_Grove_fresh K, by rw [asc]; exact hat1, rfl, A, m, lim, made, 0, ms, drs, _, rfl, rfl, by rw [asc]; exact hat1, ex_l ex12 hi.dr, ex_l ex12 hi.bs, hvl, hi.dd, h0l, h3, hml, hl60, A.b 0, A.kp, 0, msN ms 0, highN (msN ms 0), d.cell, w, freshN ms drs made 0, fs 0, (s 0).th, f1, v1.xs 0, hv2, _, rfl, rfl, rfl, rfl, .refl _, hb2, by rw [hm0]; exact hc, fun G3 hv3 ex3 hb3 => ?_⟩⟩
    refine ⟨G3, _, Wk.refl, 8, (A.b 0).db, _, S_Body_lay_way K, at_n (n := 0) rfl, rfl, A.b 0, A.kp, A.dk, A.lg, o2, _, 0, msN ms 0, highN (msN ms 0), leaf, fs 0, (s 0).th, _, v1.xs 0, hv3, S, rfl, rfl, .refl _, hb3, ho2.ex ex3, hlf, by rw [List.length_append, lookT_len]; omega, fun G4 o4 x4 hv4 ex4 ho4 hb4 => ?_⟩
    refine ⟨G4, _, Wk.refl, ?_⟩
    have ex := (ex12.trans ex3).trans ex4
    have ekp : f1.put d.cell (w, freshN ms drs made 0) = bKeep (highN (msN ms 0)) (fs 0) (cellI d.cell 0) (newW ms d fr 0) (fr 0) (s 0) := by
      unfold bKeep
      rw [← htold, ← hleaf, ← hf1, hc0, hw, hfr]; rfl
    rw [ekp, hleaf] at hb4
    rw [htW]
    refine retW (G' := G4) (Wk.perm (M' := groveB K A m lim made ms (setV v1 0 o4 x4 hv4) (grAsk ms fs d fr s k).tb ++ F) ?_) (q G4 (setV v1 0 o4 x4 hv4) ex ⟨fun i hil => ?_, hbi', ?_, ex_l ex hi.dr, hi.dd, ex_l ex hi.hs, ex_l ex hi.bs, hmo⟩)
    · have := grove_back (K := K) (A := A) (m := m) (lim := lim) (made := made) (v := v1) (tb := tb) (F := F) (o := o4) (x := x4) (h := hv4) h0l
      rw [← hS] at this
      have etb : (grAsk ms fs d fr s k).tb = tb := by rw [htb]; rfl
      rw [etb]; exact this
    · by_cases z : i = 0
      · subst z
        have e1 : (setV v1 0 o4 x4 hv4).xs 0 = x4 := rfl
        have e2 : (setV v1 0 o4 x4 hv4).hv 0 = hv4 := rfl
        rw [e1, e2]
        exact hb4
      · have e1 : (setV v1 0 o4 x4 hv4).xs i = v1.xs i := if_neg z
        have e2 : (setV v1 0 o4 x4 hv4).hv i = v1.hv i := if_neg z
        rw [e1, e2]
        have := hbd i hil
        rw [if_pos (by omega), if_pos (by omega)] at this
        exact this.ex ((ex2.trans ex3).trans ex4)
    · show LogC K G4 (ts ++ grAskT ms d s) o4
      have e : grAskT ms d s = ((List.range ms.length).reverse.take k).flatMap (grWayT ms d s) ++ grWayT ms d s 0 := by
        unfold grAskT
        have eg : (List.range ms.length).reverse[k]? = some 0 := by
          rw [rev_get (by rw [List.length_range]; omega), List.length_range, List.getElem?_range (by omega)]; congr 1; omega
        have : (List.range ms.length).reverse = (List.range ms.length).reverse.take (k + 1) := by rw [List.take_of_length_le (by rw [List.length_reverse, List.length_range]; omega)]
        rw [this, take_succ' eg, List.flatMap_append, List.flatMap_cons, List.flatMap_nil, List.append_nil]
        congr 1
        rw [List.take_append_of_le_length (by rw [List.length_take, List.length_reverse, List.length_range]; omega), List.take_take, Nat.min_self]
      rw [e, ← List.append_assoc, ← hts1]
      unfold grWayT wayT
      rw [← hleaf, ← List.append_assoc]
      exact ho4
  cases d with
  | read c => exact keep told rfl fun R E q => q
  | write c w => exact keep w rfl fun R E q => q
end

section
variable {K : PySem.W.Frag} {vs : List V} {G : Hp} {M : Mem} {R : KR} {Z : KX}
theorem msOk_trees {m : Nat} (m0 : 1 ≤ m) (m1 : m ≤ 32) : MsOk (treesN m) m := by
  have k1 : ∀ m, m < 33 → 1 ≤ m → 1 ≤ (treesN m).length ∧ (treesN m).length ≤ 3 ∧ msN (treesN m) 0 = m := by decide +kernel
  have k2 : ∀ m, m < 33 → 1 ≤ m → ∀ i, i < 3 → i < (treesN m).length → 1 ≤ msN (treesN m) i ∧ msN (treesN m) i ≤ 32 := by decide +kernel
  have k3 : ∀ m, m < 33 → 1 ≤ m → ∀ i, i < 3 → i + 1 < (treesN m).length → msN (treesN m) (i + 1) = (msN (treesN m) i + 3) / 4 := by decide +kernel
  obtain ⟨a1, a2, a3⟩ := k1 m (by omega) m0
  exact ⟨a1, a2, a3, fun i hi => k2 m (by omega) m0 i (by omega) hi, fun i hi => k3 m (by omega) m0 i (by omega) hi⟩
theorem trees_sum {m : Nat} (m1 : m ≤ 32) : (treesN m).sum ≤ 100 ∧ ∀ i, i < 4 → startG (treesN m) i ≤ 100 := by
  have k : ∀ m, m < 33 → (treesN m).sum ≤ 100 ∧ ∀ i, i < 4 → startG (treesN m) i ≤ 100 := by decide +kernel
  exact k m (by omega)
theorem start_succ {ms : List Nat} {i : Nat} (h : i < ms.length) : startG ms (i + 1) = startG ms i + msN ms i := by
  unfold startG msN
  rw [take_succ' (List.getElem?_eq_getElem h), List.sum_append, getD_lt h]; simp
theorem start_all (ms : List Nat) : startG ms ms.length = ms.sum := by unfold startG; rw [List.take_length]
theorem start_le (ms : List Nat) (i : Nat) : startG ms i ≤ ms.sum := by
  have : ms.sum = (ms.take i).sum + (ms.drop i).sum := by rw [← List.sum_append, List.take_append_drop]
  unfold startG; omega
theorem a2_leaf_of : ∀ {ks : List Kn} {drs : List Nat}, (∀ k, k ∈ ks → k.leaf = true) → drs.length = ks.length → (∀ i, i < ks.length → drs.getD i 0 < 2 ^ (ks.getD i ⟨true, 0⟩).n) → A2 DrOk ks (drs.map Dr.leaf)
  | [], [], _, _, _ => .nil
  | k :: ks, x :: drs, hl, he, h => .cons ⟨hl k List.mem_cons_self, by have := h 0 (Nat.zero_lt_succ _); simpa using this⟩ (a2_leaf_of (fun k hk => hl k (List.mem_cons_of_mem _ hk)) (Nat.succ.inj he) fun i hi => by have := h (i + 1) (Nat.succ_lt_succ hi); simpa using this)
theorem groveK_leaf {ts : List Nat} {q : Nat} : ∀ k, k ∈ groveK ts q → k.leaf = true := fun k hk => by
  unfold groveK at hk
  rcases List.mem_append.mp hk with hk | hk
  · obtain ⟨m, _, hk⟩ := List.mem_flatMap.mp hk
    rw [(List.mem_replicate.mp hk).2]
  · obtain ⟨l, hl, hk⟩ := List.mem_flatten.mp hk
    rw [(List.mem_replicate.mp hl).2] at hk
    obtain ⟨m, _, rfl⟩ := List.mem_map.mp hk
    rfl
theorem firsts_len (ts : List Nat) : (ts.flatMap fun m => List.replicate m (⟨true, highN m⟩ : Kn)).length = ts.sum := by
  induction ts with
  | nil => rfl
  | cons t ts ih => rw [List.flatMap_cons, List.length_append, ih, List.length_replicate, List.sum_cons]
theorem rounds_len {α : Type} (l : List α) (q : Nat) : (List.replicate q l).flatten.length = q * l.length := by
  induction q with
  | zero => simp
  | succ q ih => rw [List.replicate_succ, List.flatten_cons, List.length_append, ih, Nat.succ_mul, Nat.add_comm]
theorem groveK_len (ts : List Nat) (q : Nat) : (groveK ts q).length = ts.sum + q * ts.length := by
  unfold groveK; rw [List.length_append, firsts_len, rounds_len, List.length_map]
theorem firsts_get : ∀ (ts : List Nat) (i j : Nat), i < ts.length → j < msN ts i → (ts.flatMap fun m => List.replicate m (⟨true, highN m⟩ : Kn))[startG ts i + j]? = some ⟨true, highN (msN ts i)⟩
  | t :: ts, 0, j, _, hj => by
    have hj : j < t := hj
    rw [List.flatMap_cons, List.getElem?_append_left (by rw [List.length_replicate]; show 0 + j < t; omega), List.getElem?_replicate, if_pos (by show 0 + j < t; omega)]; rfl
  | t :: ts, i + 1, j, hi, hj => by
    have e : startG (t :: ts) (i + 1) = t + startG ts i := by unfold startG; rw [List.take_succ_cons, List.sum_cons]
    rw [List.flatMap_cons, List.getElem?_append_right (by rw [List.length_replicate, e]; omega), List.length_replicate, e, show t + startG ts i + j - t = startG ts i + j by omega]
    exact firsts_get ts i j (Nat.lt_of_succ_lt_succ hi) hj
theorem rounds_get {α : Type} (l : List α) : ∀ (q n i : Nat), n < q → i < l.length → (List.replicate q l).flatten[n * l.length + i]? = l[i]?
  | q + 1, 0, i, _, hi => by rw [List.replicate_succ, List.flatten_cons, Nat.zero_mul, Nat.zero_add, List.getElem?_append_left hi]
  | q + 1, n + 1, i, hn, hi => by
    rw [List.replicate_succ, List.flatten_cons, List.getElem?_append_right (by rw [Nat.succ_mul]; omega), show (n + 1) * l.length + i - l.length = n * l.length + i by rw [Nat.succ_mul]; omega]
    exact rounds_get l q n i (by omega) hi
theorem groveK_fst {ts : List Nat} {q i j : Nat} (hi : i < ts.length) (hj : j < msN ts i) : (groveK ts q)[startG ts i + j]? = some ⟨true, highN (msN ts i)⟩ := by
  unfold groveK
  have hb : startG ts i + j < ts.sum := by have := start_succ hi; have := start_le ts (i + 1); omega
  rw [List.getElem?_append_left (by rw [firsts_len]; exact hb)]
  exact firsts_get ts i j hi hj
theorem groveK_ask {ts : List Nat} {q n i : Nat} (hi : i < ts.length) (hn : n < q) : (groveK ts q)[ts.sum + n * ts.length + i]? = some ⟨true, highN (msN ts i)⟩ := by
  unfold groveK
  rw [List.getElem?_append_right (by rw [firsts_len]; omega), firsts_len, show ts.sum + n * ts.length + i - ts.sum = n * ts.length + i by omega]
  have := rounds_get (ts.map fun m => (⟨true, highN m⟩ : Kn)) q n i hn (by rw [List.length_map]; exact hi)
  rw [List.length_map] at this
  rw [this, List.getElem?_map, List.getElem?_eq_getElem hi]
  unfold msN
  rw [getD_lt hi]; rfl
theorem find_start : ∀ (ts : List Nat) (k : Nat), k < ts.sum → ∃ i j, i < ts.length ∧ j < msN ts i ∧ k = startG ts i + j
  | [], k, h => by simp at h
  | t :: ts, k, h => by
    rw [List.sum_cons] at h
    by_cases z : k < t
    · exact ⟨0, k, Nat.zero_lt_succ _, z, (Nat.zero_add k).symm⟩
    · obtain ⟨i, j, hi, hj, e⟩ := find_start ts (k - t) (by omega)
      refine ⟨i + 1, j, Nat.succ_lt_succ hi, hj, ?_⟩
      have e2 : startG (t :: ts) (i + 1) = t + startG ts i := by unfold startG; rw [List.take_succ_cons, List.sum_cons]
      rw [e2]; omega
theorem getD_some {α : Type} {l : List α} {i : Nat} {x d : α} (h : l[i]? = some x) : l.getD i d = x := by rw [List.getD_eq_getElem?_getD, h]; rfl
theorem grD_a2 {ts drs : List Nat} {q : Nat} (h0 : 1 ≤ ts.length) (h : GrD ts drs q) : A2 DrOk (groveK ts q) (drs.map Dr.leaf) := by
  refine a2_leaf_of groveK_leaf (by rw [groveK_len]; exact h.len) fun k hk => ?_
  rw [groveK_len] at hk
  by_cases z : k < ts.sum
  · obtain ⟨i, j, hi, hj, e⟩ := find_start ts k z
    rw [e, getD_some (groveK_fst hi hj)]
    have hlen := h.len
    have hmem : drs.getD (startG ts i + j) 0 ∈ (drs.drop (startG ts i)).take (msN ts i) := by
      refine List.mem_of_getElem? (i := j) ?_
      rw [List.getElem?_take, if_pos hj, List.getElem?_drop, getD_lt (by omega), List.getElem?_eq_getElem (by omega)]
    exact h.fst i hi _ hmem
  · obtain ⟨n, i, hi, e⟩ : ∃ n i, i < ts.length ∧ k = ts.sum + n * ts.length + i := ⟨(k - ts.sum) / ts.length, (k - ts.sum) % ts.length, Nat.mod_lt _ h0, by
      have := Nat.div_add_mod (k - ts.sum) ts.length
      rw [Nat.mul_comm] at this; omega⟩
    have hn : n < q := by
      apply Decidable.byContradiction
      intro hn
      have : q * ts.length ≤ n * ts.length := Nat.mul_le_mul_right _ (by omega)
      omega
    rw [e, getD_some (groveK_ask hi hn)]
    exact h.ask i n hi hn
theorem kinds_grove (m q : Nat) : kindsK "grove" m q = groveK (treesN m) q := rfl
theorem fs0_len {m : Nat} {drs : List Nat} {q i : Nat} (m0 : 1 ≤ m) (m1 : m ≤ 32) (hd : GrD (treesN m) drs q) (hi : i < (treesN m).length) : (fs0 (treesN m) drs m i).length = msN (treesN m) i := by
  have hmo := msOk_trees m0 m1
  cases i with
  | zero => show (List.replicate m 0).length = _; rw [List.length_replicate, hmo.hd]
  | succ j =>
    show (wordsN _ (tab0 (treesN m) drs j)).length = _
    unfold wordsN tab0
    have := start_succ (ms := treesN m) (i := j) (by omega)
    have := start_le (treesN m) (j + 1)
    have hlen := hd.len
    rw [List.length_map, List.length_range, List.length_take, List.length_drop, hmo.nx j hi, Nat.min_eq_left (by omega)]
theorem tab0_len {m : Nat} {drs : List Nat} {q i : Nat} (hd : GrD (treesN m) drs q) (hi : i < (treesN m).length) : (tab0 (treesN m) drs i).length = msN (treesN m) i := by
  unfold tab0
  have := start_succ (ms := treesN m) hi
  have := start_le (treesN m) (i + 1)
  have hlen := hd.len
  rw [List.length_take, List.length_drop, Nat.min_eq_left (by omega)]
theorem bi_first {m : Nat} {drs : List Nat} {q i : Nat} (m0 : 1 ≤ m) (m1 : m ≤ 32) (hd : GrD (treesN m) drs q) (hi : i < (treesN m).length) : BI (msN (treesN m) i) (fs0 (treesN m) drs m i) (wordG (treesN m) (List.replicate m 0) (grFirst (treesN m) drs) i) (grFirst (treesN m) drs i) := by
  have ew : wordG (treesN m) (List.replicate m 0) (grFirst (treesN m) drs) i = fs0 (treesN m) drs m i := by
    cases i <;> rfl
  rw [ew]
  refine ⟨List.length_replicate, fs0_len m0 m1 hd hi, tab0_len hd hi, hd.fst i hi, fun r e hr => ?_, (fun _ _ z => nomatch z), fun _ _ _ _ => rfl⟩
  have hr : (List.replicate (2 * (2 * 2 ^ highN (msN (treesN m) i) - 1)) (none : Option (Nat × Nat × Nat)))[r]? = some (some e) := hr
  rw [List.getElem?_replicate] at hr
  split at hr <;> cases hr
theorem cut_nats {l : List Nat} {i j : Nat} : cutV (natsV l) (some ((i : Nat) : Int)) (some ((i + j : Nat) : Int)) = natsV ((l.drop i).take j) := by
  unfold cutV
  rw [HT.sIx_nat, HT.sIx_nat, natsV_len]
  unfold natsV
  rw [← List.map_drop, ← List.map_take]
  congr 1
  by_cases z : i ≤ l.length
  · rw [Nat.min_eq_left z]
    by_cases y : i + j ≤ l.length
    · rw [Nat.min_eq_left y, Nat.add_sub_cancel_left]
    · rw [Nat.min_eq_right (by omega), List.take_of_length_le (by rw [List.length_drop]; exact Nat.le_refl _), List.take_of_length_le (by rw [List.length_drop]; omega)]
  · rw [Nat.min_eq_right (a := i) (by omega), List.drop_length, List.take_nil, List.drop_of_length_le (by omega), List.take_nil]
theorem pf_Grove_init (h : S_Grove_init K vs G M R Z) : rd_Grove_init K (ends R Z) (sta 7 vs) G M := by
  obtain ⟨_, _, _, _, rfl, a, dx, b, m, lim, drs, F, rfl, rfl, ⟨rfl, m0, m1⟩, ⟨rfl, c0, c1⟩, rfl, hb, hgd, q⟩ := sp4_of h
  clear h
  have hmo := msOk_trees m0 m1
  obtain ⟨hsum, hst⟩ := trees_sum (m := m) m1
  have hl3 := hmo.l3
  have hl0 := hmo.l0
  obtain ⟨ms, hms⟩ : ∃ ms, ms = treesN m := ⟨_, rfl⟩
  have hql : lim * ms.length ≤ 60 * 3 := Nat.mul_le_mul c1 (by rw [hms]; exact hl3)
  refine ⟨G, _, Wk.refl, a, dx, b, 0, 7, "grove", m, lim, drs.map Dr.leaf, rfl, by decide, rfl, rfl, ⟨rfl, m0, m1⟩, ⟨rfl, c0, c1⟩, rfl, hb, by rw [kinds_grove]; exact grD_a2 hl0 hgd, fun kn hkn => ?_, by rw [kinds_grove, groveK_len, ← hms]; rw [← hms] at hsum; omega, fun dr kp dk lg G1 ex1 hdr => ?_⟩
  · have hlf := groveK_leaf kn hkn
    rw [kinds_grove] at hkn
    have : ∃ t, t ∈ treesN m ∧ kn = ⟨true, highN t⟩ := by
      unfold groveK at hkn
      rcases List.mem_append.mp hkn with hk | hk
      · obtain ⟨t, ht, hk⟩ := List.mem_flatMap.mp hk
        exact ⟨t, ht, (List.mem_replicate.mp hk).2⟩
      · obtain ⟨l, hl, hk⟩ := List.mem_flatten.mp hk
        rw [(List.mem_replicate.mp hl).2] at hk
        obtain ⟨t, ht, rfl⟩ := List.mem_map.mp hk
        exact ⟨t, ht, rfl⟩
    obtain ⟨t, ht, rfl⟩ := this
    have h5 := high_le5 t ((trees_ok m0 m1).1 t ht).2
    exact ⟨by show highN t ≤ 64; omega, fun _ => by show highN t ≤ 6; omega, fun z => nomatch z⟩
  rw [← hms] at hgd hmo hsum hst hl3 hl0 q
  have htr := (trees_ok m0 m1).1
  rw [← hms] at htr
  have hd1 := drs_leaves hdr
  -- self.highs
  refine ⟨G1, _, Wk.refl, m, ⟨rfl, m0, m1⟩, fun te fte => ?_⟩
  rw [← hms]
  refine ⟨natsV ms, lat_0, sz (by show (natsV ms).length ≤ _; rw [natsV_len]; omega), fun i acc G' M' => G' = G1 ∧ M' = (te, .lst (natsV ms)) :: ((lg, .lst []) :: (kp, Ob K 1 dk [.ref lg]) :: (a, Ob K 7 dx (StoreF.vs ⟨m, lim, dr, kp, 0⟩)) :: F) ∧ acc = natsV ((ms.map highN).take i), ⟨rfl, rfl, rfl⟩, ?_, ?_, ?_⟩
  · rintro i acc G' M' _ ⟨rfl, rfl, rfl⟩; exact lat_0
  · rintro i acc G' M' D hi _ ⟨rfl, rfl, rfl⟩ fD
    have hi : i < (natsV ms).length := hi
    rw [natsV_len] at hi
    have hx : ms[i]? = some ms[i] := List.getElem?_eq_getElem hi
    obtain ⟨t0, t1⟩ := htr _ (List.getElem_mem hi)
    refine asg_L (natsV_get hx) ⟨rfl, ms[i], ⟨rfl, t0, t1⟩, G', _, Wk.refl, rfl, rfl, ?_⟩
    rw [take_succ' (x := highN ms[i]) (by rw [List.getElem?_map, hx]; rfl), natsV_app2]; rfl
  rintro acc G' M' hs ⟨rfl, rfl, rfl⟩ _ fhs
  have en : (srcL K te (natsV ms)).n = ms.length := natsV_len ms
  rw [en, List.take_of_length_le (by rw [List.length_map]; exact Nat.le_refl _)]
  refine ⟨4, 7, dx, _, 5, rfl, rfl, by show 5 ≤ 5; decide, ?_⟩
  refine ⟨G', _, Wk.refl, sz0, fun bs fbs => ⟨5, 7, dx, _, 6, rfl, rfl, by show 6 ≤ 6; decide, ?_⟩⟩
  refine ⟨G', _, Wk.refl, 5, 7, dx, _, 7, rfl, rfl, by show 7 ≤ 7; decide, ?_⟩
  refine ⟨G', _, Wk.refl, sz1, fun z fz => ⟨_, .inl List.mem_cons_self, by omega, by omega, sz (by show 1 * (m : Int).toNat ≤ _; omega), fun fa ffa => ?_⟩⟩
  rw [Int.toNat_natCast, rep_zeros]
  refine ⟨G', _, Wk.refl, sz0, fun ta fta => ⟨8, 7, dx, _, 8, rfl, rfl, by show 8 ≤ 8; decide, ?_⟩⟩
  -- what is known from here on
  have fhs' : Fr G' [] hs := ⟨fhs.1, fun _ z => nomatch z⟩
  have ex2 := Ex.new (o := .lst (natsV (ms.map highN))) fhs'
  obtain ⟨G2, hG2⟩ : ∃ G2, G2 = upd G' hs (.lst (natsV (ms.map highN))) := ⟨_, rfl⟩
  rw [← hG2] at ex2
  have hhs : SqL K G2 hs (natsV (ms.map highN)) := by rw [hG2]; exact sql_new
  obtain ⟨obS, hobS⟩ : ∃ obS : Nat → Addr → HO, obS = fun st ta => Ob K 7 dx (StoreF.vs ⟨m, lim, dr, kp, 0⟩ ++ [.ref hs, .ref bs, .int (st : Nat), .ref ta]) := ⟨_, rfl⟩
  obtain ⟨Y, hY⟩ : ∃ Y : Mem, Y = (lg, .lst []) :: (kp, Ob K 1 dk [.ref lg]) :: F := ⟨_, rfl⟩
  refine ⟨G2, (fa, .lst (natsV (List.replicate m 0))) :: (bs, .lst []) :: (a, obS 0 ta) :: (ta, .lst []) :: Y, ?_, m, ⟨rfl, m0, m1⟩, fun te2 fte2 => ?_⟩
  · rw [hG2]
    refine Wk.trans (Wk.perm (M' := (hs, .lst (natsV (ms.map highN))) :: ([(z, .lst [.int 0]), (te, .lst (natsV ms))] ++ ((fa, .lst (natsV (List.replicate m 0))) :: (bs, .lst []) :: (a, obS 0 ta) :: (ta, .lst []) :: Y))) ?_) (Wk.trans Wk.frz0 (Wk.dropP _))
    have ep : putV 8 (V.ref ta) (putV 7 (V.int 0) (putV 6 (V.ref bs) (putV 5 (V.ref hs) (StoreF.vs ⟨m, lim, dr, kp, 0⟩)))) = StoreF.vs ⟨m, lim, dr, kp, 0⟩ ++ [.ref hs, .ref bs, .int (0 : Nat), .ref ta] := rfl
    rw [hY, hobS]
    simp only [List.set_cons_zero, List.set_cons_succ, List.cons_append, List.nil_append, ep]
    (classical (rw [List.perm_iff_count]; intro x; simp only [List.set_cons_zero, List.set_cons_succ, List.cons_append, List.nil_append, List.append_assoc, List.append_eq, List.count_append, List.count_cons, List.count_nil] <;> omega))
  rw [← hms]
  have fte2' : Fr G2 [] te2 := ⟨fte2.1, fun _ z => nomatch z⟩
  have ex3 := Ex.new (o := .lst (natsV ms)) fte2'
  obtain ⟨G3, hG3⟩ : ∃ G3, G3 = upd G2 te2 (.lst (natsV ms)) := ⟨_, rfl⟩
  rw [← hG3] at ex3
  have hte : SqL K G3 te2 (natsV ms) := by rw [hG3]; exact sql_new
  have hgets : ∀ i, i < ms.length → ms[i]? = some (msN ms i) := fun i hi => by unfold msN; rw [getD_lt hi, List.getElem?_eq_getElem hi]
  refine ⟨natsV ms, lat_0, G3, (fa, .lst (natsV (List.replicate m 0))) :: (bs, .lst []) :: (a, obS 0 ta) :: (ta, .lst []) :: Y, by rw [hG3]; exact Wk.frz0,
    fun i σ G' M' => ∃ (A : GroveA) (v : GrV) (fa ta : Addr) (tb : List Nat) (y4 y6 : Option V), σ = [some (.ref a), some (.int m), some (.int lim), some (.ref b), y4, some (.ref fa), y6] ∧ Ex G3 G' ∧ A.kp = kp ∧ M' = (fa, .lst (natsV (fs0 ms drs m i))) :: (bs, .lst ((List.range i).map fun j => .ref (A.b j).b)) :: (a, obS (startG ms i) ta) :: (ta, .lst (natsV tb)) :: ((List.range i).flatMap (bodG K A ms v) ++ Y) ∧ (0 < i → tb = tab0 ms drs (i - 1)) ∧
      ∀ j, j < i → BodyI K G' (A.b j) (msN ms j) (highN (msN ms j)) (fs0 ms drs m j) (grFirst ms drs j).th (grFirst ms drs j).f (v.xs j) (v.hv j),
    ⟨⟨a, dx, dr, kp, dk, lg, hs, bs, ta, fun _ => ⟨a, a, a, a, a, a, a⟩⟩, ⟨.lst [], fun _ => [], fun _ => []⟩, fa, ta, [], none, none, rfl, Ex.refl, rfl, rfl, (fun z => nomatch z), fun j hj => nomatch hj⟩, ?_, ?_, ?_⟩
  · rintro i σ G' M' _ ⟨A, v, fa, ta, tb, y4, y6, rfl, ex, _, rfl, _⟩; exact .inr (ex_l ex hte)
  · rintro i σ G4 M' hi ⟨A, v, fa, ta, tb, y4, y6, rfl, ex4, hkp, rfl, htb, hbd⟩
    have hi : i < (natsV ms).length := hi
    rw [natsV_len] at hi
    obtain ⟨t0, t1⟩ := hmo.ok i hi
    have h5 := high5 hmo hi
    have hfl : (fs0 ms drs m i).length = msN ms i := by rw [hms] at hgd hi ⊢; exact fs0_len m0 m1 hgd hi
    have hfld : ∀ {G' : Hp} {X : Mem} {st : Nat} {ta : Addr} {w1 w2 : Addr × HO}, At G' (w1 :: w2 :: (a, obS st ta) :: X) a (Ob K 7 dx (StoreF.vs ⟨m, lim, dr, kp, 0⟩ ++ [.ref hs, .ref bs, .int (st : Nat), .ref ta])) := by
      intro G' X st ta w1 w2
      rw [hobS]; exact at_n (n := 2) rfl
    refine asg_E (natsV_get (hgets i hi)) ⟨G4, _, Wk.refl, 7, dx, _, 6, .ref bs, hfld, rfl, rfl, tyl_n (n := 1) rfl, 7, dx, _, 3, .ref kp, hfld, rfl, rfl, 7, dx, _, 5, .ref hs, hfld, rfl, rfl, natsV (ms.map highN), _, lst_g (ex_l (ex3.trans ex4) hhs), hi_get hi, fun x dx2 fx => ⟨x, dx2, kp, fa, i, highN (msN ms i), msN ms i, fs0 ms drs m i, _, rfl, rfl, rfl, rfl, rfl, rfl, .inl ⟨1, by decide, rfl⟩, hfl, t1, by omega, fun Ab G5 xs hA ex5 hib => ⟨rfl, 5, _, rfl, Nat.lt_of_le_of_lt (m := 32) (by rw [List.length_map, List.length_range]; omega) (by decide), ?_⟩⟩⟩
    subst hA
    -- self.table
    have hfl2 : ∀ {G' : Hp} {X : Mem} {st : Nat} {ta : Addr} {w0 w1 w2 w3 w4 w5 : Addr × HO}, At G' (w0 :: w1 :: w2 :: w3 :: w4 :: w5 :: (a, obS st ta) :: X) a (Ob K 7 dx (StoreF.vs ⟨m, lim, dr, kp, 0⟩ ++ [.ref hs, .ref bs, .int (st : Nat), .ref ta])) := by
      intro G' X st ta w0 w1 w2 w3 w4 w5
      rw [hobS]; exact at_n (n := 6) rfl
    refine ⟨G5, _, Wk.refl, 7, dx, _, 2, .ref dr, hfl2, rfl, rfl, 7, dx, _, 7, .int (startG ms i : Nat), hfl2, rfl, rfl, 7, dx, _, 7, .int (startG ms i : Nat), hfl2, rfl, rfl, natsV drs, lat_g (ex_l (((ex2.trans ex3).trans ex4).trans ex5) hd1), fun ta2 fta2 => ?_⟩
    have ecut : cutV (natsV drs) (some ((startG ms i : Nat) : Int)) (some (((startG ms i : Nat) : Int) + ((msN ms i : Nat) : Int))) = natsV (tab0 ms drs i) := by
      rw [show ((startG ms i : Nat) : Int) + ((msN ms i : Nat) : Int) = ((startG ms i + msN ms i : Nat) : Int) by push_cast; rfl, cut_nats]; rfl
    rw [ecut]
    refine ⟨7, 7, dx, StoreF.vs ⟨m, lim, dr, kp, 0⟩ ++ [.ref hs, .ref bs, .int (startG ms i : Nat), .ref ta], 8, by rw [hobS]; rfl, rfl, by show 8 ≤ 9; decide, ?_⟩
    have ep1 : putV 8 (V.ref ta2) (StoreF.vs ⟨m, lim, dr, kp, 0⟩ ++ [.ref hs, .ref bs, .int (startG ms i : Nat), .ref ta]) = StoreF.vs ⟨m, lim, dr, kp, 0⟩ ++ [.ref hs, .ref bs, .int (startG ms i : Nat), .ref ta2] := rfl
    rw [ep1]
    have ht2 : ∀ x, x ∈ tab0 ms drs i → x < 2 ^ highN (msN ms i) := hgd.fst i hi
    have htl : (tab0 ms drs i).length ≤ 32 := by rw [hms] at hgd hi ⊢; rw [tab0_len hgd hi, ← hms]; exact t1
    refine ⟨G5, _, Wk.refl, 7, dx, _, 8, .ref ta2, at_n (n := 7) rfl, rfl, rfl, 7, dx, _, 5, .ref hs, at_n (n := 7) rfl, rfl, rfl, natsV (ms.map highN), _, lst_g (ex_l ((ex3.trans ex4).trans ex5) hhs), hi_get hi, ta2, tab0 ms drs i, highN (msN ms i), rfl, rfl, lat_0, htl, by omega, ht2, fun fa2 ffa2 => ?_⟩
    refine ⟨G5, _, Wk.refl, 7, dx, _, 7, .int (startG ms i : Nat), at_n (n := 8) rfl, rfl, rfl, 8, 7, dx, _, 7, rfl, rfl, by show 7 ≤ 9; decide, ?_⟩
    have ep2 : putV 7 (V.int (((startG ms i : Nat) : Int) + ((msN ms i : Nat) : Int))) (StoreF.vs ⟨m, lim, dr, kp, 0⟩ ++ [.ref hs, .ref bs, .int (startG ms i : Nat), .ref ta2]) = StoreF.vs ⟨m, lim, dr, kp, 0⟩ ++ [.ref hs, .ref bs, .int (startG ms (i + 1) : Nat), .ref ta2] := by
      rw [start_succ hi]; push_cast; rfl
    obtain ⟨A2, hA2⟩ : ∃ A2 : GroveA, A2 = { A with b := fun j => if j = i then Ab else A.b j } := ⟨_, rfl⟩
    obtain ⟨v2, hv2⟩ : ∃ v2 : GrV, v2 = setV v i v.o xs [] := ⟨_, rfl⟩
    have eb : ∀ j, j < i → A2.b j = A.b j ∧ v2.xs j = v.xs j ∧ v2.hv j = v.hv j := fun j hj => by
      have hj : ¬ j = i := by omega
      rw [hA2, hv2]
      exact ⟨if_neg hj, if_neg hj, if_neg hj⟩
    have ei : A2.b i = Ab ∧ v2.xs i = xs ∧ v2.hv i = [] := by
      rw [hA2, hv2]
      exact ⟨if_pos rfl, if_pos rfl, if_pos rfl⟩
    have ekp : A2.kp = kp := by rw [hA2]; exact hkp
    have el : ((List.range i).map fun j => V.ref (A.b j).b) ++ [V.ref Ab.b] = (List.range (i + 1)).map fun j => V.ref (A2.b j).b := by
      rw [List.range_succ, List.map_append]
      congr 1
      · refine List.map_congr_left fun j hj => ?_
        rw [(eb j (List.mem_range.mp hj)).1]
      · rw [List.map_cons, List.map_nil, ei.1]
    have ef : (List.range (i + 1)).flatMap (bodG K A2 ms v2) = (List.range i).flatMap (bodG K A ms v) ++ bodyB K Ab kp i (highN (msN ms i)) xs [] := by
      rw [List.range_succ, List.flatMap_append, List.flatMap_cons, List.flatMap_nil, List.append_nil]
      congr 1
      · have : ∀ l : List Nat, (∀ j, j ∈ l → j < i) → l.flatMap (bodG K A2 ms v2) = l.flatMap (bodG K A ms v) := fun l => by
          induction l with
          | nil => intro _; rfl
          | cons y l ih =>
            intro hy
            obtain ⟨e1, e2, e3⟩ := eb y (hy y List.mem_cons_self)
            rw [List.flatMap_cons, List.flatMap_cons, ih fun j hj => hy j (List.mem_cons_of_mem _ hj)]
            unfold bodG
            rw [e1, e2, e3, ekp, hkp]
        exact this _ fun j hj => List.mem_range.mp hj
      · unfold bodG
        rw [ei.1, ei.2.1, ei.2.2, ekp]
    refine ⟨G5, (fa2, .lst (natsV (fs0 ms drs m (i + 1)))) :: (bs, .lst ((List.range (i + 1)).map fun j => .ref (A2.b j).b)) :: (a, obS (startG ms (i + 1)) ta2) :: (ta2, .lst (natsV (tab0 ms drs i))) :: ((List.range (i + 1)).flatMap (bodG K A2 ms v2) ++ Y), ?_, A2, v2, fa2, ta2, tab0 ms drs i, _, _, rfl, ex4.trans ex5, ekp, rfl, fun _ => rfl, fun j hj => ?_⟩
    · refine Wk.trans (Wk.perm (M' := [(fa, .lst (natsV (fs0 ms drs m i))), (ta, .lst (natsV tb))] ++ ((fa2, .lst (natsV (fs0 ms drs m (i + 1)))) :: (bs, .lst ((List.range (i + 1)).map fun j => .ref (A2.b j).b)) :: (a, obS (startG ms (i + 1)) ta2) :: (ta2, .lst (natsV (tab0 ms drs i))) :: ((List.range (i + 1)).flatMap (bodG K A2 ms v2) ++ Y))) ?_) (Wk.dropP _)
      rw [ef, ← el, hobS]
      unfold bodyB
      generalize (List.range i).flatMap (bodG K A ms v) = X
      simp only [List.set_cons_zero, List.set_cons_succ, List.cons_append, List.nil_append, ep2, List.append_assoc]
      show List.Perm _ ((fa2, HO.lst (natsV (wordsN (highN (msN ms i)) (tab0 ms drs i)))) :: (ta2, _) :: _)
      have efs : fs0 ms drs m (i + 1) = wordsN (highN (msN ms i)) (tab0 ms drs i) := rfl
      rw [efs]
      (classical (rw [List.perm_iff_count]; intro x; simp only [List.set_cons_zero, List.set_cons_succ, List.cons_append, List.nil_append, List.append_assoc, List.append_eq, List.count_append, List.count_cons, List.count_nil] <;> omega))
    · by_cases z : j = i
      · subst z
        rw [ei.1, ei.2.1, ei.2.2]; exact hib
      · obtain ⟨e1, e2, e3⟩ := eb j (by omega)
        rw [e1, e2, e3]; exact (hbd j (by omega)).ex ex5
  · rintro σ G4 M' ⟨A, v, fa, ta, tb, y4, y6, rfl, ex4, hkp, rfl, htb, hbd⟩
    have en : (srcE K te2 (natsV ms)).n = ms.length := natsV_len ms
    rw [en] at htb hbd ⊢
    have htb := htb (by omega)
    subst htb
    obtain ⟨G5, hG5⟩ : ∃ G5, G5 = upd G4 bs (.lst ((List.range ms.length).map fun j => .ref (A.b j).b)) := ⟨_, rfl⟩
    obtain ⟨A2, hA2⟩ : ∃ A2 : GroveA, A2 = ⟨a, dx, dr, kp, dk, lg, hs, bs, ta, A.b⟩ := ⟨_, rfl⟩
    obtain ⟨v2, hv2⟩ : ∃ v2 : GrV, v2 = ⟨.lst [], v.xs, v.hv⟩ := ⟨_, rfl⟩
    show wkR R .non G4 _
    intro H hvH
    have hbn : G4 bs = none := hvH.dj (bs, _) (List.mem_cons_of_mem _ List.mem_cons_self)
    have ex5 : Ex G4 G5 := by rw [hG5]; exact Ex.new' hbn
    have hbs : SqL K G5 bs ((List.range ms.length).map fun j => .ref (A.b j).b) := by rw [hG5]; exact sql_new
    have exA : Ex G' G5 := ((ex2.trans ex3).trans ex4).trans ex5
    refine ⟨G5, _, Wk.perm (M := (a, obS (startG ms ms.length) ta) :: (ta, .lst (natsV (tab0 ms drs (ms.length - 1)))) :: ((List.range ms.length).flatMap (bodG K A ms v) ++ Y)) (M' := groveB K A2 m lim 0 ms v2 (tab0 ms drs (ms.length - 1)) ++ F) ?_ H ((Wk.dropP [(fa, .lst (natsV (fs0 ms drs m ms.length)))]) H (?_)), q A2 G5 v2 (by rw [hA2]) (ex1.trans exA) ⟨fun j hj => ?_, fun j hj => ?_, by rw [hv2]; exact ⟨[], rfl, .nil⟩, by rw [hA2]; exact ex_l exA hd1, hgd, by rw [hA2]; exact ex_l ((ex3.trans ex4).trans ex5) hhs, by rw [hA2]; exact hbs, hmo⟩⟩
    · rw [hY, hobS, start_all]
      unfold groveB bodsB keepB
      have eb : ∀ l : List Nat, l.flatMap (bodG K A2 ms v2) = l.flatMap (bodG K A ms v) := fun l => by
        congr 1; funext j; unfold bodG; rw [hA2, hv2, hkp]
      rw [eb, hA2, hv2]
      generalize (List.range ms.length).flatMap (bodG K A ms v) = X
      simp only [List.cons_append, List.nil_append, List.append_assoc]
      (classical (rw [List.perm_iff_count]; intro x; simp only [List.set_cons_zero, List.set_cons_succ, List.cons_append, List.nil_append, List.append_assoc, List.append_eq, List.count_append, List.count_cons, List.count_nil] <;> omega))
    · have := Wk.frz (G := G4) (p := bs) (o := .lst ((List.range ms.length).map fun j => .ref (A.b j).b)) [(fa, .lst (natsV (fs0 ms drs m ms.length)))] H hvH
      rw [hG5]; exact this
    · rw [hA2, hv2]; exact (hbd j hj).ex ex5
    · rw [hms] at hgd hj ⊢; exact bi_first m0 m1 hgd hj
theorem pf_Grove_pocket (h : S_Grove_pocket K vs G M R Z) : rd_Grove_pocket K (ends R Z) (sta 2 vs) G M := by
  obtain ⟨_, rfl, A, m, lim, made, ms, drs, fs, W, s, v, ts, F, rfl, hp, hi, q⟩ := sp1_of h
  clear h
  have hmo := hi.mo
  have hl3 := hmo.l3
  have hp' : M.Perm (groveB K A m lim made ms v (s (ms.length - 1)).tb ++ F) := hp.trans List.perm_append_comm
  have hvl : ((List.range ms.length).map fun i => V.ref (A.b i).b).length = ms.length := by rw [List.length_map, List.length_range]
  refine ⟨G, M, Wk.refl, 7, A.ds, _, 6, .ref A.bs, .inl (hp'.mem_iff.mpr (List.mem_of_getElem? (i := 2) rfl)), rfl, rfl, _, lat_g hi.bs, sz (by show ((List.range ms.length).map fun i => V.ref (A.b i).b).length ≤ _; rw [hvl]; omega), fun i acc G' M' => ∃ rs : List (Addr × List Nat), G' = G ∧ M' = rs.reverse.map rcell ++ M ∧ acc = (rs.map fun x => .ref x.1) ∧ rs.map (·.2) = (List.range i).map (pocketG ms s) ∧ Frs' G M (rs.reverse.map rcell),
    ⟨[], rfl, rfl, rfl, rfl, .nil⟩, ?_, ?_, ?_⟩
  · rintro i acc G' M' _ ⟨rs, rfl, rfl, rfl, _⟩; exact lat_g hi.bs
  · rintro i acc G' M' D hil _ ⟨rs, rfl, rfl, rfl, hrs, hfr⟩ fD
    have hil : i < ((List.range ms.length).map fun i => V.ref (A.b i).b).length := hil
    rw [hvl] at hil
    have hpi := hp'.trans (grove_perm (K := K) (A := A) (m := m) (lim := lim) (made := made) (v := v) (tb := (s (ms.length - 1)).tb) (F := F) hil)
    have hp2 : ((D, HO.lst (rs.map fun x => V.ref x.1)) :: (rs.reverse.map rcell ++ M)).Perm (bodyB K (A.b i) A.kp i (highN (msN ms i)) (v.xs i) (v.hv i) ++ ((keepB K A.kp A.dk A.lg v.o ++ besG K A m lim made ms v (s (ms.length - 1)).tb i F) ++ ((D, HO.lst (rs.map fun x => V.ref x.1)) :: rs.reverse.map rcell))) := by
      rw [← List.append_assoc]
      exact (List.perm_append_comm (l₁ := (D, HO.lst (rs.map fun x => V.ref x.1)) :: rs.reverse.map rcell) (l₂ := M)).trans (hpi.append_right _)
    refine asg_L (v := .ref (A.b i).b) (by rw [List.getElem?_map, List.getElem?_range hil]; rfl) ⟨rfl, 8, (A.b i).db, _, S_Body_cells_in_hand K, .inl (hp2.mem_iff.mpr List.mem_cons_self), rfl, A.b i, A.kp, i, msN ms i, highN (msN ms i), fs i, (s i).th, (s i).f, v.xs i, v.hv i, _, rfl, hp2, hi.bd i hil, fun p fp => ?_⟩
    refine ⟨G', (p, .lst (natsV (pocketG ms s i))) :: (rs.reverse.map rcell ++ M), Wk.swap, rs ++ [(p, pocketG ms s i)], rfl, by rw [List.reverse_append]; rfl, by rw [List.map_append]; rfl, by rw [List.map_append, hrs, List.range_succ, List.map_append]; rfl, ?_⟩
    rw [List.reverse_append]
    exact .cons fp.cons hfr
  · rintro acc G' M' p ⟨rs, rfl, rfl, rfl, hrs, hfr⟩ _ fp
    have en : (srcL K A.bs ((List.range ms.length).map fun i => V.ref (A.b i).b)).n = ms.length := hvl
    rw [en] at hrs
    exact ret0 (q p rs hrs hfr fp)
end

section
variable {K : PySem.W.Frag} {vs : List V} {G : Hp} {M : Mem} {R : KR} {Z : KX}
theorem pf_law_pool (h : S_law_pool K vs G M R Z) : rd_law_pool K (ends R Z) (sta 4 vs) G M := by
  obtain ⟨_, _, rfl, a, ns, k, rfl, rfl, hS, k0, k1, hl, q⟩ := sp2_of h
  have rest : ∀ cell : Int, rd_law_pool_2 K (ends R Z) [some (.ref a), some (.int k), some (.int cell), none] G M := fun cell => by
    refine ⟨G, M, Wk.refl, (by show (0 : Int) < _; decide), mul_l (by decide) (by decide), mul_r (by omega) (by omega), mul_r (by decide) (by decide), (by show (0 : Int) < _; decide), ?_⟩
    refine ⟨G, M, Wk.refl, pow10_18, ite2' (fun e => ?_) (fun e => ?_)⟩
    · exact ⟨G, M, Wk.refl, G, M, Wk.refl, sz2, fun p fp => ret0 (q p _ _ fp ⟨Int.emod_nonneg _ (by decide), Int.emod_lt_of_pos _ (by decide)⟩)⟩
    · exact ⟨G, M, Wk.refl, sz2, fun p fp => ret0 (q p _ _ fp ⟨Int.emod_nonneg _ (by decide), Int.emod_lt_of_pos _ (by decide)⟩)⟩
  refine ⟨G, M, Wk.refl, ?_⟩
  refine ⟨G, M, Wk.refl, _, lst_g hS, ite2' (fun e => ?_) (fun e => rest _)⟩
  have e1 : k < ((ns.map V.int).length : Int) := of_decide_eq_true e
  rw [List.length_map] at e1
  exact ⟨G, M, Wk.refl, _, _, lst_g hS, atI_int k0 e1, rest _⟩
end

section
variable {K : PySem.W.Frag} {vs : List V} {G : Hp} {M : Mem} {R : KR} {Z E : KX}
theorem hall_snoc {m : Nat} {ds : List Deed} {d : Deed} (hok : ∀ d, d ∈ ds → DeedOk m d) (hd : DeedOk m d) : ∀ e, e ∈ ds ++ [d] → DeedOk m e := fun e he => by
  rcases List.mem_append.mp he with he | he
  · exact hok e he
  · have : e = d := by simpa using he
    subst this; exact hd
theorem grGo_snoc {m : Nat} {drs : List Nat} {d : Deed} : ∀ (ds : List Deed) (i : Nat) (s : GrM), grGo m drs i (ds ++ [d]) s = grAsk (treesN m) (fs0 (treesN m) drs m) d (freshN (treesN m) drs (i + ds.length)) (grGo m drs i ds s)
  | [], i, s => rfl
  | e :: ds, i, s => by
    show grGo m drs (i + 1) (ds ++ [d]) _ = _
    rw [grGo_snoc ds (i + 1), show i + 1 + ds.length = i + (e :: ds).length by rw [List.length_cons]; omega]; rfl
theorem grGoT_snoc {m : Nat} {drs : List Nat} {d : Deed} : ∀ (ds : List Deed) (i : Nat) (s : GrM), grGoT m drs i (ds ++ [d]) s = grGoT m drs i ds s ++ grAskT (treesN m) d (grGo m drs i ds s)
  | [], i, s => by show grAskT (treesN m) d s ++ [] = _; rw [List.append_nil]; rfl
  | e :: ds, i, s => by
    show grAskT (treesN m) e s ++ grGoT m drs (i + 1) (ds ++ [d]) _ = _
    rw [grGoT_snoc ds (i + 1), ← List.append_assoc]; rfl
theorem grS_snoc {m : Nat} {drs : List Nat} {ds : List Deed} {d : Deed} : grS m drs (ds ++ [d]) = grAsk (treesN m) (fs0 (treesN m) drs m) d (freshN (treesN m) drs ds.length) (grS m drs ds) := by
  unfold grS; rw [grGo_snoc, Nat.zero_add]
theorem grTs_snoc {m : Nat} {drs : List Nat} {ds : List Deed} {d : Deed} : grTs m drs (ds ++ [d]) = grTs m drs ds ++ grAskT (treesN m) d (grS m drs ds) := by
  unfold grTs grS; rw [grGoT_snoc]
theorem grAskT_len {m : Nat} {d : Deed} {s : GrM} (m0 : 1 ≤ m) (m1 : m ≤ 32) : (grAskT (treesN m) d s).length ≤ 72 := by
  have hmo := msOk_trees m0 m1
  have h1 : ∀ l : List Nat, (∀ i, i ∈ l → i < (treesN m).length) → (l.flatMap (grWayT (treesN m) d s)).length ≤ 24 * l.length := fun l => by
    induction l with
    | nil => intro _; exact Nat.le_refl _
    | cons x l ih =>
      intro hx
      have := ih fun t ht => hx t (List.mem_cons_of_mem _ ht)
      have h5 := high5 hmo (hx x List.mem_cons_self)
      rw [List.flatMap_cons, List.length_append, List.length_cons]
      unfold grWayT at this ⊢
      rw [way_len]; omega
  have := h1 (List.range (treesN m).length).reverse fun i hi => List.mem_range.mp (List.mem_reverse.mp hi)
  rw [List.length_reverse, List.length_range] at this
  have := hmo.l3
  unfold grAskT; omega
theorem grTs_len {m : Nat} {drs : List Nat} (m0 : 1 ≤ m) (m1 : m ≤ 32) : ∀ ds, (grTs m drs ds).length ≤ 72 * ds.length := snoc_ind (Nat.zero_le _) fun ds d ih => by
  rw [grTs_snoc, List.length_append, List.length_append]
  have := grAskT_len (d := d) (s := grS m drs ds) m0 m1
  show _ ≤ 72 * (ds.length + 1)
  omega
theorem GroveI.m0 {A : GroveA} {m lim : Nat} {ms drs : List Nat} {fs : Nat → List Nat} {W : List Nat} {s : GrM} {v : GrV} {ts : List Tch} (h : GroveI K G A m lim ms drs fs W s v ts) : 1 ≤ m ∧ m ≤ 32 := by
  have := h.mo.ok 0 (by have := h.mo.l0; omega)
  rw [h.mo.hd] at this; exact this
theorem GroveI.ex {G' : Hp} {A : GroveA} {m lim : Nat} {ms drs : List Nat} {fs : Nat → List Nat} {W : List Nat} {s : GrM} {v : GrV} {ts : List Tch} (e : Ex G G') (h : GroveI K G A m lim ms drs fs W s v ts) : GroveI K G' A m lim ms drs fs W s v ts :=
  ⟨fun i hi => (h.bd i hi).ex e, h.bi, h.log.ex e, ex_l e h.dr, h.dd, ex_l e h.hs, ex_l e h.bs, h.mo⟩
/-- an ask of a grove -/
theorem pf_face7 {m lim : Nat} {drs : List Nat} {a : Addr} {y : V} (h : faceAsk K (fun G ds B => St7 K m lim drs G ds a B) m lim y G M R Z) : rd_Store_ask K (ends R Z) (sta 3 [.ref a, y]) G M := by
  obtain ⟨ds, B, F, hp, ⟨A, v, rfl, rfl, hi, hdl, hl60, hok⟩, h⟩ := h
  obtain ⟨m0, m1⟩ := hi.m0
  have hp' : M.Perm (groveB K A m lim ds.length (treesN m) v (grS m drs ds ((treesN m).length - 1)).tb ++ F) := hp.trans List.perm_append_comm
  have wk : Wk G M G (groveB K A m lim ds.length (treesN m) v (grS m drs ds ((treesN m).length - 1)).tb ++ F) := Wk.perm hp'.symm
  have wk' : Wk G (groveB K A m lim ds.length (treesN m) v (grS m drs ds ((treesN m).length - 1)).tb ++ F) G M := Wk.perm hp'
  rcases h with ⟨hy, z⟩ | ⟨d, hd2, hok2, h⟩
  · exact ⟨G, _, wk, 7, A.ds, _, 0, .int m, at_n (n := 2) rfl, rfl, rfl, m, false, rfl, askV_wk wk' hy, (fun z => nomatch z), fun _ => ⟨G, M, wk', z⟩⟩
  have hv2 := askV_wk wk' (deed_askV (M := M) hd2 hok2)
  refine ⟨G, _, wk, 7, A.ds, _, 0, .int m, at_n (n := 2) rfl, rfl, rfl, m, true, rfl, hv2, fun _ => ?_, (fun z => nomatch z)⟩
  refine ⟨G, _, Wk.refl, 7, A.ds, _, S_Store_left K, at_n (n := 2) rfl, rfl, A.s, 7, A.ds, ⟨m, lim, A.dr, A.kp, ds.length⟩, _, rfl, by decide, at_n (n := 2) rfl, ?_⟩
  rcases h with ⟨hl, z⟩ | ⟨hl, q⟩
  · refine ite2' (c := decide (((lim : Int) - ds.length) < 1)) (fun _ => ⟨G, _, Wk.refl, G, M, wk', z⟩) (fun e => absurd (of_decide_eq_false e) (by omega))
  refine ite2' (c := decide (((lim : Int) - ds.length) < 1)) (fun e => absurd (of_decide_eq_true e) (by omega)) (fun _ => ?_)
  obtain ⟨t, rfl, ht⟩ := hd2
  obtain ⟨t1, a1⟩ := deed_1 (M := groveB K A m lim ds.length (treesN m) v (grS m drs ds ((treesN m).length - 1)).tb ++ F) ht
  have hts := grTs_len (drs := drs) m0 m1 ds
  refine ⟨G, _, Wk.refl, 7, A.ds, _, S_Grove_answered K, at_n (n := 2) rfl, rfl, _, _, t1, a1, d, ⟨t, rfl, ht⟩, A, m, lim, ds.length, treesN m, drs, fs0 (treesN m) drs m, plainW m ds, grS m drs ds, v, grTs m drs ds, d, F, rfl, rfl, rfl, rfl, hi, hok2, hl, hl60, by omega, fun G1 v1 ex1 hi1 => ?_⟩
  rw [← grS_snoc, ← grTs_snoc, ← plainW_snoc] at hi1
  rw [← grS_snoc]
  refine ⟨G1, _, Wk.refl, 7, A.ds, _, 4, .int ds.length, at_n (n := 2) rfl, rfl, rfl, 2, 7, A.ds, _, 4, rfl, rfl, by show 4 ≤ 9; decide, ?_⟩
  refine ⟨G1, groveB K A m lim (ds.length + 1) (treesN m) v1 (grS m drs (ds ++ [d]) ((treesN m).length - 1)).tb ++ F, Wk.refl, retW (G' := G1) (Wk.perm List.perm_append_comm) (q G1 (groveB K A m lim (ds.length + 1) (treesN m) v1 (grS m drs (ds ++ [d]) ((treesN m).length - 1)).tb) ex1 ⟨A, v1, rfl, ?_, hi1, by rw [List.length_append]; exact hl, hl60, hall_snoc hok hok2⟩)⟩
  rw [List.length_append]; rfl
theorem st3_seen {m lim : Nat} {ds : List Deed} {a : Addr} {B : Mem} (h : St3 K m lim G ds a B) : Seen K 3 m lim ds.length (scTs m ds.length) G a B := by
  obtain ⟨A, o, rfl, rfl, hlog, _⟩ := h
  exact ⟨A.ds, A.dr, A.kp, A.dk, A.lg, o, _, List.mem_cons_self, List.mem_cons_of_mem _ List.mem_cons_self, List.mem_cons_of_mem _ (List.mem_cons_of_mem _ List.mem_cons_self), hlog⟩
theorem st7_seen {m lim : Nat} {drs : List Nat} {ds : List Deed} {a : Addr} {B : Mem} (h : St7 K m lim drs G ds a B) : Seen K 7 m lim ds.length (grTs m drs ds) G a B := by
  obtain ⟨A, v, rfl, rfl, hi, _⟩ := h
  refine ⟨A.ds, A.dr, A.kp, A.dk, A.lg, v.o, [.ref A.hs, .ref A.bs, .int (treesN m).sum, .ref A.tb], ?_, ?_, ?_, hi.log⟩
  · exact List.mem_of_getElem? (i := 2) rfl
  · exact List.mem_of_getElem? (i := 0) rfl
  · exact List.mem_of_getElem? (i := 1) rfl
theorem stA_seen {w : Wy} {m lim : Nat} {drs : List Dr} {ds : List Deed} {a : Addr} {B : Mem} (h : StA K w m lim drs G ds a B) : Seen K w.num m lim ds.length (tchA w m drs ds) G a B := by
  cases w with
  | scan => exact st3_seen h
  | spare => exact st4_seen h
  | stairs => exact st5_seen h
  | tree => exact st6_seen h
  | grove => exact st7_seen h
theorem StA.ex {G' : Hp} {w : Wy} {m lim : Nat} {drs : List Dr} {ds : List Deed} {a : Addr} {B : Mem} (e : Ex G G') (h : StA K w m lim drs G ds a B) : StA K w m lim drs G' ds a B := by
  cases w with
  | scan =>
    obtain ⟨A, o, h1, h2, h3, h4⟩ := h
    exact ⟨A, o, h1, h2, h3.ex e, h4⟩
  | spare => exact St4.ex e h
  | stairs => exact St5.ex e h
  | tree => exact St6.ex e h
  | grove =>
    obtain ⟨A, v, h1, h2, h3, h4⟩ := h
    exact ⟨A, v, h1, h2, h3.ex e, h4⟩
theorem stA_len {w : Wy} {m lim : Nat} {drs : List Dr} {ds : List Deed} {a : Addr} {B : Mem} (h : StA K w m lim drs G ds a B) : ds.length ≤ lim ∧ lim ≤ 60 ∧ ∀ d, d ∈ ds → DeedOk m d := by
  cases w with
  | scan => obtain ⟨A, o, _, _, _, _, _, h⟩ := h; exact h
  | spare => obtain ⟨A, _, _, _, _, _, _, _, h⟩ := h; exact h
  | stairs => obtain ⟨A, _, _, _, _, _, _, h⟩ := h; exact h
  | tree => obtain ⟨A, _, _, _, _, _, _, h⟩ := h; exact h
  | grove => obtain ⟨A, _, _, _, _, h⟩ := h; exact h
end

section
variable {K : PySem.W.Frag} {vs : List V} {G : Hp} {M : Mem} {R : KR} {Z E : KX}
theorem leafsOf_map (l : List Nat) : leafsOf (l.map Dr.leaf) = l := by
  unfold leafsOf
  rw [List.map_map]
  exact List.map_id' l
end

section
variable {K : PySem.W.Frag} {vs : List V} {G : Hp} {M : Mem} {R : KR} {Z : KX}
theorem stA_m {w : Wy} {m lim : Nat} {drs : List Dr} {ds : List Deed} {a : Addr} {B : Mem} (h : StA K w m lim drs G ds a B) : 1 ≤ m ∧ m ≤ 32 := by
  cases w with
  | scan => obtain ⟨A, o, _, _, _, h1, h2, _⟩ := h; exact ⟨h1, h2⟩
  | spare => obtain ⟨A, _, _, _, _, _, _, hi, _⟩ := h; exact ⟨hi.m0, hi.m1⟩
  | stairs => obtain ⟨A, _, _, _, _, h1, h2, _⟩ := h; exact ⟨h1, h2⟩
  | tree => obtain ⟨A, _, _, _, _, _, hi, _⟩ := h; exact ⟨hi.m0, hi.m1⟩
  | grove => obtain ⟨A, _, _, _, hi, _⟩ := h; exact hi.m0
theorem drm_rows {Mx : Mem} : ∀ rs : List (Addr × List Nat), (∀ x, x ∈ rs → rcell x ∈ Mx) → A2 (DrM Mx) (rs.map fun x => V.ref x.1) ((rs.map (·.2)).map Dr.row)
  | [], _ => .nil
  | x :: rs, h => .cons ⟨x.1, rfl, h x List.mem_cons_self⟩ (drm_rows rs fun y hy => h y (List.mem_cons_of_mem _ hy))
theorem range_filter_len {n : Nat} {f : Nat → Bool} : ((List.range n).filter f).length ≤ n := Nat.le_trans (List.length_filter_le _ _) (by rw [List.length_range]; exact Nat.le_refl _)
def drD : Dr → PyData
  | .leaf n => .int n
  | .row l => .list (natsD l)
theorem drm_dat {Mn Mx : Mem} (hs : ∀ x, x ∈ Mn → x ∈ Mx) : ∀ {vs : List V} {ds : List Dr}, A2 (DrM Mn) vs ds → DatAll K G Mx vs (ds.map drD)
  | _, _, .nil => dats_nil
  | v :: _, d :: _, .cons h1 h2 => dats_cons (by
      cases d with
      | leaf n =>
        obtain rfl : v = .int n := h1
        exact dat_int
      | row l =>
        obtain ⟨b, rfl, hb⟩ := h1
        exact dat_nats (.inl (hs _ hb))) (drm_dat hs h2)
theorem shp_drs (ds : List Dr) : Shp 2 (.list (ds.map drD)) := .list fun d hd => by
  obtain ⟨x, _, rfl⟩ := List.mem_map.mp hd
  cases x with
  | leaf n => exact .int
  | row l => exact shp_nats (n := 0) l
/-! many stores -/
theorem A2.put {α β : Type} {r : α → β → Prop} : ∀ {as : List α} {bs : List β} (i : Nat) {a : α} {b : β}, A2 r as bs → r a b → A2 r (as.set i a) (bs.set i b)
  | _, _, _, _, _, .nil, _ => .nil
  | _, _, 0, _, _, .cons _ t, h => .cons h t
  | _, _, i + 1, _, _, .cons x t, h => .cons x (A2.put i t h)
theorem StsA.ex {G' : Hp} {lim : Nat} {dt : List SD} {la : List (Addr × Mem)} (e : Ex G G') (h : StsA K lim G dt la) : StsA K lim G' dt la := A2.mono (fun _ _ q => q.ex e) h
end

section
variable {K : PySem.W.Frag} {vs : List V} {G : Hp} {M : Mem} {R : KR} {Z : KX}
theorem pf_law_many (h : S_law_many K vs G M R Z) : rd_law_many K (ends R Z) (sta 1 vs) G M := by
  obtain ⟨_, rfl, p, n, c, s, rfl, hn, hs, q⟩ := sp1_of h
  refine ⟨G, M, Wk.refl, pick (l := [V.int 4, .int 9, .int 32]) hn hs (by decide) (by decide) fun y c1 s1 d hy hs1 fd => ?_⟩
  obtain ⟨z, rfl, z0, z1⟩ : ∃ z : Int, y = .int z ∧ 1 ≤ z ∧ z ≤ 32 := by
    simp only [List.mem_cons, List.not_mem_nil, or_false] at hy
    rcases hy with rfl | rfl | rfl <;> exact ⟨_, rfl, by decide, by decide⟩
  refine ⟨p, z, n + 1, c1, s1, rfl, rfl, set_n hn, hs1, by omega, by omega, fun r c2 s2 r0 r1 hs2 => ?_⟩
  refine retW (G' := G) (M' := M.set n (p, pool c2 s2)) (by simp only [List.set_cons_succ, List.set_set]; exact Wk.drop0) ?_
  obtain ⟨k, hk⟩ := Int.eq_ofNat_of_zero_le (show 0 ≤ 1 + r by omega)
  rw [hk]
  exact q k c2 s2 (by omega) (by omega) hs2
theorem pf_law_word (h : S_law_word K vs G M R Z) : rd_law_word K (ends R Z) (sta 1 vs) G M := by
  obtain ⟨_, rfl, p, n, c, s, rfl, hn, hs, q⟩ := sp1_of h
  have p9 : CPow 10 9 := ⟨by decide, by decide, by decide⟩
  have e9 : (10 : Int) ^ (9 : Int).toNat = 1000000000 := by decide
  have e18 : (10 : Int) ^ (18 : Int).toNat - 1 = 999999999999999999 := by decide
  refine ⟨G, M, Wk.refl, pow10_18, p9, p, _, n, c, s, rfl, rfl, hn, hs, by decide, by decide, fun r c1 s1 r0 r1 hs1 => ⟨p9, mul_r (by decide) (by decide), p9, p, _, n, c1, s1, rfl, rfl, set_n hn, hs1, by decide, by decide, fun r2 c2 s2 r20 r21 hs2 => ⟨sz4, fun d fd => ⟨p, 8, n + 1, c2, s2, rfl, rfl, ?_, hs2, by decide, by decide, fun r3 c3 s3 r30 r31 hs3 => ⟨(by show (0 : Int) < _; decide), ?_⟩⟩⟩⟩⟩
  · show ((M.set n _).set n _)[n]? = _
    exact set_n (set_n hn)
  obtain ⟨y, hy, hym⟩ := at_mem (l := [V.int 0, .int 1, .int (10 ^ (18 : Int).toNat - 1), .int (r * 10 ^ (9 : Int).toNat + r2)]) (r := r3 % 4) (Int.emod_nonneg _ (by decide)) (by have := Int.emod_lt_of_pos r3 (show (0 : Int) < 4 by decide); exact this)
  refine ⟨_, y, lst_n (n := 0) rfl, hy, ?_⟩
  refine retW (G' := G) (M' := M.set n (p, pool c3 s3)) (by simp only [List.set_cons_succ, List.set_set]; exact Wk.drop0) ?_
  rw [e9] at hym r1 r21
  rw [e18] at hym
  obtain ⟨w, rfl, hw⟩ : ∃ w : Nat, y = .int w ∧ w ≤ 999999999999999999 := by
    simp only [List.mem_cons, List.not_mem_nil, or_false] at hym
    rcases hym with rfl | rfl | rfl | rfl
    · exact ⟨0, rfl, by decide⟩
    · exact ⟨1, rfl, by decide⟩
    · exact ⟨999999999999999999, rfl, by decide⟩
    · obtain ⟨w, hw⟩ := Int.eq_ofNat_of_zero_le (show 0 ≤ r * 1000000000 + r2 by omega)
      exact ⟨w, by rw [hw], by omega⟩
  exact q w c3 s3 hw hs3
theorem pf_law_ask (h : S_law_ask K vs G M R Z) : rd_law_ask K (ends R Z) (sta 3 vs) G M := by
  obtain ⟨_, _, rfl, p, n, c, s, m, rfl, rfl, hn, hs, m0, m1, q⟩ := sp2_of h
  refine ⟨G, M, Wk.refl, sz2, fun d fd => ⟨p, 4, n + 1, c, s, rfl, rfl, hn, hs, by decide, by decide, fun r c1 s1 r0 r1 hs1 => ⟨divW (by decide) (by decide) _, ?_⟩⟩⟩
  obtain ⟨y, hy, hym⟩ := at_mem (l := [V.int (m : Int), .int (min (m : Int) 2)]) (r := r / 3) (Int.ediv_nonneg r0 (by decide)) (by show r / 3 < 2; omega)
  obtain ⟨z, rfl, z0, z1⟩ : ∃ z : Int, y = .int z ∧ 1 ≤ z ∧ z ≤ m := by
    simp only [List.mem_cons, List.not_mem_nil, or_false] at hym
    rcases hym with rfl | rfl
    · exact ⟨_, rfl, by omega, by omega⟩
    · exact ⟨_, rfl, by omega, by omega⟩
  refine ⟨_, .int z, lst_n (n := 0) rfl, hy, p, z, n + 1, c1, s1, rfl, rfl, set_n hn, hs1, by omega, by omega, fun r2 c2 s2 r20 r21 hs2 => ?_⟩
  obtain ⟨e, rfl⟩ := Int.eq_ofNat_of_zero_le r20
  have he : e < m := by omega
  refine ⟨G, M.set n (p, pool c2 s2), by simp only [List.set_cons_succ, List.set_set]; exact Wk.drop0, p, 2, n, c2, s2, rfl, rfl, set_n hn, hs2, by decide, by decide, fun r3 c3 s3 r30 r31 hs3 => ?_⟩
  rw [List.set_set]
  refine ite2' (c := decide (V.int r3 = .int 0)) (fun _ => ?_) (fun _ => ?_)
  · exact ⟨G, _, Wk.refl, sz2, fun t ft => ret0 (q t (.read e) c3 s3 _ (Ex.new ft) sqt_new ⟨he, trivial⟩ hs3)⟩
  · refine ⟨G, _, Wk.refl, p, n, c3, s3, rfl, set_n hn, hs3, fun w c4 s4 hw hs4 => ⟨sz3, fun t ft => ?_⟩⟩
    rw [List.set_set]
    exact ret0 (q t (.write e w) c4 s4 _ (Ex.new ft) sqt_new ⟨he, hw⟩ hs4)
end

section
variable {K : PySem.W.Frag} {vs : List V} {G : Hp} {M : Mem} {R : KR} {Z : KX}
theorem node_parent {high d leaf : Nat} (h0 : 1 ≤ d) (hd : d ≤ high) : (nodeN high d leaf - 1) / 2 = nodeN high (d - 1) leaf := by
  unfold nodeN
  have e1 : 2 ^ d = 2 * 2 ^ (d - 1) := by rw [← Nat.pow_succ', show (d - 1).succ = d by omega]
  have e2 : leaf / 2 ^ (high - (d - 1)) = leaf / 2 ^ (high - d) / 2 := by
    rw [Nat.div_div_eq_div_mul, ← Nat.pow_succ, show (high - d).succ = high - (d - 1) by omega]
  have h1 : 1 ≤ 2 ^ (d - 1) := Nat.one_le_two_pow
  rw [e1, e2]
  generalize leaf / 2 ^ (high - d) = z
  generalize 2 ^ (d - 1) = y at h1 ⊢
  omega
theorem node_root {high leaf : Nat} (h : leaf < 2 ^ high) : nodeN high 0 leaf = 0 := by
  unfold nodeN
  rw [Nat.sub_zero, Nat.div_eq_of_lt h]
theorem node_pos {high d leaf : Nat} (h0 : 1 ≤ d) : 0 < nodeN high d leaf := by
  unfold nodeN
  have : 2 ^ 1 ≤ 2 ^ d := Nat.pow_le_pow_right (by decide) h0
  generalize leaf / 2 ^ (high - d) = z
  omega
theorem range_from (high j leaf : Nat) (hj : j ≤ high) (h1 : 1 ≤ j) : (List.range (high + 1 - (j - 1))).map (fun i => nodeN high (j - 1 + i) leaf) = nodeN high (j - 1) leaf :: (List.range (high + 1 - j)).map (fun i => nodeN high (j + i) leaf) := by
  rw [show high + 1 - (j - 1) = (high + 1 - j) + 1 by omega, List.range_succ_eq_map, List.map_cons, List.map_map]
  congr 1
  refine List.map_congr_left fun i _ => ?_
  show nodeN high (j - 1 + (i + 1)) leaf = _
  rw [show j - 1 + (i + 1) = j + i by omega]
theorem pf_law_nodes (h : S_law_nodes K vs G M R Z) : rd_law_nodes K (ends R Z) (sta 3 vs) G M := by
  obtain ⟨_, _, rfl, high, leaf, rfl, rfl, hh, hl, q⟩ := sp2_of h
  clear h
  refine ⟨G, M, Wk.refl, ⟨by omega, by omega, by decide⟩, sz1, fun p0 f0 => ?_⟩
  have h1 : 1 ≤ 2 ^ high := Nat.one_le_two_pow
  have h64 : 2 ^ high ≤ 64 := Nat.pow_le_pow_right (n := 2) (by decide) hh
  have e0 : (1 : Int) * 2 ^ ((high : Int)).toNat - 1 + (leaf : Int) = ((nodeN high high leaf : Nat) : Int) := by
    unfold nodeN
    rw [Int.toNat_natCast, Nat.sub_self, Nat.pow_zero, Nat.div_one]
    have : ((2 ^ high - 1 + leaf : Nat) : Int) = ((2 ^ high : Nat) : Int) - 1 + leaf := by omega
    rw [this]; simp
  show rd_law_nodes_1 K (ends R Z) [some (.int high), some (.int leaf), some (.ref p0)] G ((p0, .lst [.int ((1 : Int) * 2 ^ ((high : Int)).toNat - 1 + (leaf : Int))]) :: M)
  rw [e0]
  refine ⟨G, _, Wk.refl, fun j σ G' M' => ∃ p, σ = [some (.int high), some (.int leaf), some (.ref p)] ∧ G' = G ∧ M' = (p, .lst (natsV ((List.range (high + 1 - j)).map fun i => nodeN high (j + i) leaf))) :: M ∧ Fr G M p ∧ j ≤ high, ⟨high, p0, rfl, rfl, ?_, f0, Nat.le_refl _⟩, ?_⟩
  · rw [show high + 1 - high = 1 by omega]; rfl
  · rintro j σ G' M' ⟨p, rfl, rfl, rfl, fp, hj⟩
    have hsplit : (List.range (high + 1 - j)).map (fun i => nodeN high (j + i) leaf) = nodeN high j leaf :: (List.range (high - j)).map (fun i => nodeN high (j + (i + 1)) leaf) := by
      rw [show high + 1 - j = (high - j) + 1 by omega, List.range_succ_eq_map, List.map_cons, List.map_map]; rfl
    have hat : ∀ {Mx : Mem}, SeqAt' K G' ((p, HO.lst (natsV ((List.range (high + 1 - j)).map fun i => nodeN high (j + i) leaf))) :: Mx) p (natsV ((List.range (high + 1 - j)).map fun i => nodeN high (j + i) leaf)) := seq_0
    have h0 : atI (natsV ((List.range (high + 1 - j)).map fun i => nodeN high (j + i) leaf)) 0 = some (.int (nodeN high j leaf : Nat)) := by rw [hsplit]; exact atI_nat (j := 0) rfl
    refine ⟨_, _, hat, h0, ?_⟩
    refine ite2' (c := decide ((0 : Int) < (nodeN high j leaf : Nat))) (fun e => ?_) (fun e => ?_)
    · have e := of_decide_eq_true e
      have hj1 : 1 ≤ j := by
        apply Decidable.byContradiction
        intro z
        have : j = 0 := by omega
        rw [this, node_root hl] at e
        exact absurd e (by decide)
      have ep : ((nodeN high j leaf : Nat) : Int) - 1 = ((nodeN high j leaf - 1 : Nat) : Int) := by
        have := node_pos (high := high) (leaf := leaf) hj1
        omega
      refine ⟨G', _, Wk.refl, _, _, hat, h0, divW (by decide) (by decide) _, sz1, fun z fz => ?_⟩
      refine ⟨_, _, .inl List.mem_cons_self, .inl (List.mem_cons_of_mem _ List.mem_cons_self), sz (by rw [natsV_len, List.length_map, List.length_range]; show 1 + _ ≤ _; omega), fun p2 fp2 => ?_⟩
      refine ⟨j - 1, by omega, G', (p2, .lst (natsV ((List.range (high + 1 - (j - 1))).map fun i => nodeN high (j - 1 + i) leaf))) :: M, ?_, p2, rfl, rfl, rfl, ⟨fp2.1, fun x hx => fp2.2 x (List.mem_cons_of_mem _ (List.mem_cons_of_mem _ hx))⟩, by omega⟩
      refine (Wk.drop1.trans Wk.drop1).trans (Wk.of_eq ?_)
      rw [range_from high j leaf hj hj1, ← node_parent hj1 hj]
      congr 3
      show [V.int ((((nodeN high j leaf : Nat) : Int) - 1) / 2)] ++ _ = _
      rw [ep]
      show V.int (((nodeN high j leaf - 1 : Nat) : Int) / 2) :: _ = V.int (((nodeN high j leaf - 1) / 2 : Nat) : Int) :: _
      rw [Int.natCast_ediv]; rfl
    · have e := of_decide_eq_false e
      have hj0 : j = 0 := by
        apply Decidable.byContradiction
        intro z
        exact e (by have := node_pos (high := high) (leaf := leaf) (show 1 ≤ j by omega); omega)
      subst hj0
      have el : (List.range (high + 1 - 0)).map (fun i => nodeN high (0 + i) leaf) = nodesN high leaf := by
        unfold nodesN
        rw [Nat.sub_zero]
        exact List.map_congr_left fun i _ => by rw [Nat.zero_add]
      rw [el]
      exact ⟨G', _, Wk.refl, ret0 (q p fp)⟩
end

section
variable {K : PySem.W.Frag} {vs : List V} {G : Hp} {M : Mem} {R : KR} {Z : KX}
theorem LieK.in_ {m : Nat} {hv : List (Key × V)} {L : LF} (h : LieK m hv L) (c : Nat) : (valV hv (Sum.inl (c : Int))).isSome = (L c).isSome := by
  rw [h.val]; cases L c <;> rfl
theorem LieK.nil {m : Nat} : LieK m [] (fun _ => none) := ⟨List.nodup_nil, fun _ z => (nomatch z), fun _ => rfl⟩
theorem LieK.put {m : Nat} {hv : List (Key × V)} {L : LF} {c : Nat} {v : Option Nat} (h : LieK m hv L) (hc : c < m) : LieK m (putK hv (Sum.inl (c : Int)) (lieV v)) (putL L c v) := by
  refine ⟨?_, fun q hq => ?_, fun x => ?_⟩
  · rw [putK_keys]
    split
    · exact h.nd
    · rename_i z
      rw [List.nodup_append]
      refine ⟨h.nd, (List.nodup_cons.mpr ⟨fun z => (nomatch z), List.nodup_nil⟩), fun a ha b hb e => ?_⟩
      have hb : b = Sum.inl (c : Int) := by simpa using hb
      subst hb
      subst e
      have : valV hv (Sum.inl (c : Int)) = none := by
        cases q : valV hv (Sum.inl (c : Int)) with
        | none => rfl
        | some w => rw [q] at z; exact absurd rfl z
      exact valV_not this ha
  · have : q.1 ∈ (putK hv (Sum.inl (c : Int)) (lieV v)).map (·.1) := List.mem_map.mpr ⟨q, hq, rfl⟩
    rw [putK_keys] at this
    split at this
    · obtain ⟨r, hr, e⟩ := List.mem_map.mp this
      obtain ⟨d, h1, h2⟩ := h.key r hr
      exact ⟨d, h1, by rw [← e]; exact h2⟩
    · rcases List.mem_append.mp this with this | this
      · obtain ⟨r, hr, e⟩ := List.mem_map.mp this
        obtain ⟨d, h1, h2⟩ := h.key r hr
        exact ⟨d, h1, by rw [← e]; exact h2⟩
      · exact ⟨c, hc, by simpa using this⟩
  · rw [valV_put]
    unfold putL
    by_cases e : x = c
    · rw [e, if_pos rfl, if_pos rfl]; rfl
    · rw [if_neg (inl_ne e), if_neg e]; exact h.val x
/-- keys that are cells -/
theorem keys_of {m : Nat} {hv : List (Key × V)} {S : Nat → Bool} (nd : (hv.map (·.1)).Nodup) (key : ∀ p, p ∈ hv → ∃ c : Nat, c < m ∧ p.1 = Sum.inl (c : Int)) (hin : ∀ c : Nat, (valV hv (Sum.inl (c : Int))).isSome = S c) : ∃ ks : List Nat, hv.map (·.1) = (ks.map fun (c : Nat) => (c : Int)).map Sum.inl ∧ ks.Nodup ∧ (∀ c, c ∈ ks → c < m) ∧ (∀ c, c ∈ ks ↔ S c = true) ∧ ks.length ≤ m := by
  have hk : ∀ l : List (Key × V), (∀ p, p ∈ l → ∃ c : Nat, c < m ∧ p.1 = Sum.inl (c : Int)) → ∃ ks : List Nat, l.map (·.1) = (ks.map fun (c : Nat) => (c : Int)).map Sum.inl ∧ ∀ c, c ∈ ks → c < m := fun l => by
    induction l with
    | nil => exact fun _ => ⟨[], rfl, fun _ z => nomatch z⟩
    | cons p l ih =>
      intro q
      obtain ⟨ks, h1, h2⟩ := ih fun x hx => q x (List.mem_cons_of_mem _ hx)
      obtain ⟨c, h3, h4⟩ := q p List.mem_cons_self
      exact ⟨c :: ks, by rw [List.map_cons, h1, h4]; rfl, fun x hx => by rcases List.mem_cons.mp hx with rfl | hx; exact h3; exact h2 x hx⟩
  obtain ⟨ks, h1, h2⟩ := hk hv key
  have hn : ks.Nodup := by
    have := nd
    rw [h1, List.map_map] at this
    exact List.Pairwise.of_map _ (fun a b z e => z (by rw [e])) this
  have hm : ∀ c, c ∈ ks ↔ S c = true := fun c => by
    rw [← hin c]
    constructor
    · intro hc
      have : (Sum.inl (c : Int) : Key) ∈ hv.map (·.1) := by rw [h1, List.map_map]; exact List.mem_map.mpr ⟨c, hc, rfl⟩
      cases e : valV hv (Sum.inl (c : Int)) with
      | none => exact absurd this (valV_not e)
      | some v => rfl
    · intro hc
      obtain ⟨v, e⟩ := Option.isSome_iff_exists.mp hc
      have := valV_in e
      rw [h1, List.map_map] at this
      obtain ⟨d, hd, ed⟩ := List.mem_map.mp this
      have : d = c := by have : (d : Int) = (c : Int) := Sum.inl.inj ed; omega
      rw [← this]; exact hd
  exact ⟨ks, h1, hn, h2, hm, nodup_lt_len m ks hn h2⟩
theorem sorted_keys {m : Nat} {hv : List (Key × V)} {S : Nat → Bool} {a : Addr} {R : KR} (nd : (hv.map (·.1)).Nodup) (key : ∀ p, p ∈ hv → ∃ c : Nat, c < m ∧ p.1 = Sum.inl (c : Int)) (hin : ∀ c : Nat, (valV hv (Sum.inl (c : Int))).isSome = S c) (ha : At G M a (.dK hv)) (hm : m ≤ 32) (q : ∀ p, Fr G M p → R (.ref p) G ((p, .lst (natsV ((List.range m).filter S))) :: M)) : kSortedD [.ref a] G M R := by
  obtain ⟨ks, h1, h2, h3, h4, h5⟩ := keys_of nd key hin
  refine ⟨hv, ks.map fun (c : Nat) => (c : Int), ha, h1, by rw [List.length_map]; omega, fun ys p pm pw fp => ?_⟩
  obtain ⟨l, rfl⟩ := ints_nats (ys := ys) fun y hy => by
    obtain ⟨c, _, rfl⟩ := List.mem_map.mp (pm.mem_iff.mp hy)
    exact Int.natCast_nonneg _
  have e : l = (List.range m).filter S := by
    refine nat_sorted_eq ((perm_nats pm).trans ?_) ((List.pairwise_map.mp pw).imp fun {a b} h => by omega) ((List.pairwise_lt_range).imp (fun h => Nat.le_of_lt h) |>.filter _)
    refine (List.perm_ext_iff_of_nodup h2 (List.nodup_range.filter _)).mpr fun c => ?_
    rw [List.mem_filter, List.mem_range, h4]
    exact ⟨fun hc => ⟨h3 c ((h4 c).mpr hc), hc⟩, fun hc => hc.2⟩
  rw [natsV_ints, e]
  exact q p fp
theorem LieK.sorted {m : Nat} {hv : List (Key × V)} {L : LF} {a : Addr} {R : KR} (h : LieK m hv L) (ha : At G M a (.dK hv)) (hm : m ≤ 32) (q : ∀ p, Fr G M p → R (.ref p) G ((p, .lst (natsV ((List.range m).filter fun c => (L c).isSome))) :: M)) : kSortedD [.ref a] G M R :=
  sorted_keys h.nd h.key h.in_ ha hm q
theorem LieK.srt {m : Nat} {hv : List (Key × V)} {L : LF} (h : LieK m hv L) (hm : m ≤ 32) : ∃ ks : List Int, hv.map (·.1) = ks.map Sum.inl ∧ ks.length < 64 ∧ ∀ ys : List Int, ys.Perm ks → ys.Pairwise (· ≤ ·) → ys.map V.int = natsV ((List.range m).filter fun c => (L c).isSome) := by
  obtain ⟨ks, h1, h2, h3, h4, h5⟩ := keys_of h.nd h.key h.in_
  refine ⟨ks.map fun (c : Nat) => (c : Int), h1, by rw [List.length_map]; omega, fun ys pm pw => ?_⟩
  obtain ⟨l, rfl⟩ := ints_nats (ys := ys) fun y hy => by
    obtain ⟨c, _, rfl⟩ := List.mem_map.mp (pm.mem_iff.mp hy)
    exact Int.natCast_nonneg _
  have e : l = (List.range m).filter fun c => (L c).isSome := by
    refine nat_sorted_eq ((perm_nats pm).trans ?_) ((List.pairwise_map.mp pw).imp fun {a b} h => by omega) ((List.pairwise_lt_range).imp (fun h => Nat.le_of_lt h) |>.filter _)
    refine (List.perm_ext_iff_of_nodup h2 (List.nodup_range.filter _)).mpr fun c => ?_
    rw [List.mem_filter, List.mem_range, h4]
    exact ⟨fun hc => ⟨h3 c ((h4 c).mpr hc), hc⟩, fun hc => hc.2⟩
  rw [natsV_ints, e]
theorem hand_filter {m : Nat} {L : LF} : ((List.range m).filter fun c => (L c).isSome).filter (inHand L) = handL m L := by
  unfold handL
  rw [List.filter_filter]
  refine List.filter_congr fun c _ => ?_
  unfold inHand
  cases e : L c with
  | none => simp
  | some v => cases v <;> simp
end
/-! what the law's model is of a tree -/
structure LR (m leaf k : Nat) (s : Th × HF) (L : LF) : Prop where
  out : ∀ c, m ≤ c → L c = none
  hnd : ∀ c, L c = some none ↔ (s.2 c).isSome = true
  lie : ∀ c n, L c = some (some n) ↔ ∃ (r : Nat) (e : Nat × Nat × Nat), s.1[r]? = some (some e) ∧ e.1 = c ∧ ¬ WayR (highN m) leaf k r ∧ r / 2 = n
theorem mem_nodes {high leaf n : Nat} : n ∈ nodesN high leaf ↔ ∃ d, d ≤ high ∧ nodeN high d leaf = n := by
  unfold nodesN
  rw [List.mem_map]
  constructor
  · rintro ⟨d, hd, e⟩; exact ⟨d, by have := List.mem_range.mp hd; omega, e⟩
  · rintro ⟨d, hd, e⟩; exact ⟨d, List.mem_range.mpr (by omega), e⟩
theorem getD_lt2 {tb : List Nat} {b : Nat} (hb : 0 < b) (h : ∀ x, x ∈ tb → x < b) (c : Nat) : tb.getD c 0 < b := by
  by_cases hc : c < tb.length
  · exact h _ (getD_mem hc)
  · rw [List.getD_eq_getElem?_getD, List.getElem?_eq_none (by omega)]; exact hb
theorem lrs_hand {m : Nat} {s : TrM} {L : LF} (h : LRs m s L) : handL m L = (List.range m).filter fun c => (s.f c).isSome := by
  unfold handL
  refine List.filter_congr fun c _ => ?_
  unfold inHand
  by_cases z : L c = some none
  · rw [decide_eq_true z, (h.hnd c).mp z]
  · rw [decide_eq_false z]
    cases e : s.f c with
    | none => rfl
    | some p => exact absurd ((h.hnd c).mpr (by rw [e]; rfl)) z
section
variable {K : PySem.W.Frag} {vs : List V} {G : Hp} {M : Mem} {R : KR} {Z : KX}
theorem lie_get {m : Nat} {hv : List (Key × V)} {L : LF} (h : LieK m hv L) {c : Nat} (hc : (L c).isSome = true) : ∃ v, L c = some v ∧ valV hv (Sum.inl (c : Int)) = some (lieV v) := by
  obtain ⟨v, e⟩ := Option.isSome_iff_exists.mp hc
  exact ⟨v, e, by rw [h.val, e]; rfl⟩
theorem lie_is {L : LF} {c : Nat} {v : Option Nat} (h : L c = some v) : decide (lieV v = .non) = inHand L c := by
  unfold inHand
  rw [h]
  cases v with
  | none => rfl
  | some n => rw [decide_eq_false (fun z => nomatch z), decide_eq_false (fun z => nomatch z)]
theorem is_none2 {v : V} {R : KR} (q : R (.bl (decide (v = .non))) G M) : kIs2 false v .non G M R := by
  cases v <;> exact q
theorem filter_step {α : Type} {p : α → Bool} {l : List α} {i : Nat} {x : α} (h : l[i]? = some x) : (l.take (i + 1)).filter p = (l.take i).filter p ++ if p x = true then [x] else [] := by
  rw [take_succ' h, List.filter_append, List.filter_cons]
  split <;> rfl
theorem pf_law_hand (h : S_law_hand K vs G M R Z) : rd_law_hand K (ends R Z) (sta 2 vs) G M := by
  obtain ⟨_, rfl, md, lv, ls, m, high, n, hv, L, rfl, hn, hmd, hL, hm, q⟩ := sp1_of h
  refine ⟨G, M, Wk.refl, _, Sum.inr "lies", _, .inr hmd, rfl, rfl, ?_⟩
  simp only [kNil]
  refine hL.sorted (at_n hn) hm fun p fp => ?_
  obtain ⟨ks, hks⟩ : ∃ ks, ks = (List.range m).filter fun c => (L c).isSome := ⟨_, rfl⟩
  rw [← hks]
  have hkl : ks.length ≤ 32 := by
    have := List.length_filter_le (fun c => (L c).isSome) (List.range m)
    rw [List.length_range] at this
    rw [hks]; omega
  refine ⟨natsV ks, lat_0, sz (by show (natsV ks).length ≤ _; rw [natsV_len]; omega), fun i acc G' M' => G' = G ∧ M' = (p, .lst (natsV ks)) :: M ∧ acc = natsV ((ks.take i).filter (inHand L)), ⟨rfl, rfl, rfl⟩, ?_, ?_, ?_⟩
  · rintro i acc G' M' _ ⟨rfl, rfl, _⟩; exact lat_0
  · rintro i acc G' M' D hi hacc ⟨rfl, rfl, rfl⟩ fD
    have hi : i < (natsV ks).length := hi
    rw [natsV_len] at hi
    obtain ⟨c, hc⟩ : ∃ c, ks[i]? = some c := ⟨_, List.getElem?_eq_getElem hi⟩
    have hcf : (L c).isSome = true := by
      have := List.mem_of_getElem? hc
      rw [hks, List.mem_filter] at this
      exact this.2
    obtain ⟨v, hv1, hv2⟩ := lie_get hL hcf
    refine asg_L (natsV_get hc) ⟨rfl, _, Sum.inr "lies", _, .inr hmd, rfl, rfl, hv, Sum.inl (c : Int), lieV v, at_n (n := n + 2) hn, rfl, hv2, is_none2 ?_⟩
    show if decide (lieV v = .non) = true then _ else _
    rw [lie_is hv1]
    refine ite2' (fun e => ⟨_, _, Wk.refl, rfl, rfl, ?_⟩) (fun e => ⟨_, _, Wk.refl, rfl, rfl, ?_⟩)
    · rw [filter_step hc, if_pos e, natsV_app2]; rfl
    · rw [filter_step hc, if_neg (by rw [e]; exact Bool.false_ne_true), List.append_nil]
  · rintro acc G' M' w ⟨rfl, rfl, rfl⟩ hacc fw
    have e1 : (srcL K p (natsV ks)).n = ks.length := natsV_len ks
    rw [e1, List.take_length, hks, hand_filter]
    exact retW Wk.drop1 (q w fw.cons)
theorem in_opt {v : Option Nat} {l : List Nat} : inV (lieV v) (natsV l) = match v with | some n => decide (n ∈ l) | none => false := by
  cases v with
  | some n => exact in_nats
  | none =>
    show inV .non (natsV l) = false
    induction l with
    | nil => rfl
    | cons x l ih => rw [show inV .non (natsV (x :: l)) = inV .non (natsV l) from rfl, ih]
/-- what a walk over some cells clears -/
def clearU (way : List Nat) (L : LF) (ks : List Nat) : LF := fun c => if c ∈ ks then clearL way L c else L c
theorem clearU_all {m : Nat} {way : List Nat} {L : LF} (hout : ∀ c, m ≤ c → L c = none) : clearU way L ((List.range m).filter fun c => (L c).isSome) = clearL way L := by
  funext c
  unfold clearU
  split
  · rfl
  · rename_i h
    have : L c = none := by
      cases e : L c with
      | none => rfl
      | some v =>
        exfalso
        refine h (List.mem_filter.mpr ⟨List.mem_range.mpr ?_, by rw [e]; rfl⟩)
        apply Decidable.byContradiction
        intro z
        rw [hout c (by omega)] at e; cases e
    unfold clearL
    rw [this]
theorem LieK.congr {m : Nat} {hv : List (Key × V)} {L L' : LF} (h : LieK m hv L) (e : L = L') : LieK m hv L' := e ▸ h
theorem LieK.out {m : Nat} {hv : List (Key × V)} {L : LF} (h : LieK m hv L) (c : Nat) (hc : m ≤ c) : L c = none := by
  cases e : L c with
  | none => rfl
  | some v =>
    exfalso
    have := h.val c
    rw [e] at this
    have hk := valV_in this
    obtain ⟨p, hp, ep⟩ := List.mem_map.mp hk
    obtain ⟨x, h1, h2⟩ := h.key p hp
    rw [ep] at h2
    have := Sum.inl.inj h2
    omega
theorem LieK.len {m : Nat} {hv : List (Key × V)} {L : LF} (h : LieK m hv L) : hv.length ≤ m := by
  obtain ⟨ks, h1, _, _, _, h5⟩ := keys_of h.nd h.key h.in_
  have := congrArg List.length h1
  rw [List.length_map, List.length_map, List.length_map] at this
  omega
theorem nodes_len' {high leaf : Nat} : (natsV (nodesN high leaf)).length = high + 1 := by rw [natsV_len]; unfold nodesN; rw [List.length_map, List.length_range]
/-- the cells that take a node -/
theorem go_step {D : Kd} {md lv ls p3 : Addr} {m high cell fresh node : Nat} {tb : List Nat} {hv : List (Key × V)} {L : LF} {F : Mem} {nds : List Nat} {y5 y7 y8 y9 : Option V} (hmd : G md = some (.dK (mdK high lv ls))) (hL : LieK m hv L) (htl : tb.length = m) (hm : m ≤ 32) (hh : high ≤ 6) (htk : ∀ x, x ∈ tb → x < 2 ^ high)
    (hD : ∀ hv' y7 y8 y9, LieK m hv' (stepL m high tb L node) → ∀ M', Wk G M' G ((p3, .lst (natsV nds)) :: (lv, .lst (natsV tb)) :: (ls, .dK hv') :: F) → D.nx [some (.ref md), some (.int cell), some (.int fresh), some (.ref p3), some (.ref ls), y5, some (.int node), y7, y8, y9] G M') :
    rd_law_go_b1 K D [some (.ref md), some (.int cell), some (.int fresh), some (.ref p3), some (.ref ls), y5, some (.int node), y7, y8, y9] G ((p3, .lst (natsV nds)) :: (lv, .lst (natsV tb)) :: (ls, .dK hv) :: F) := by
  obtain ⟨M0, hM0⟩ : ∃ M0 : Mem, M0 = (p3, .lst (natsV nds)) :: (lv, .lst (natsV tb)) :: (ls, .dK hv) :: F := ⟨_, rfl⟩
  have hls : M0[2]? = some (ls, .dK hv) := by rw [hM0]; rfl
  have hlv : ∀ {Mx : Mem}, (∀ x, x ∈ M0 → x ∈ Mx) → SeqAt' K G Mx lv (natsV tb) := fun h => .inl (.inl (h _ (by rw [hM0]; exact List.mem_cons_of_mem _ List.mem_cons_self)))
  obtain ⟨ks, hks⟩ : ∃ ks, ks = (List.range m).filter fun c => (L c).isSome := ⟨_, rfl⟩
  have hkl : ks.length ≤ 32 := by
    have := List.length_filter_le (fun c => (L c).isSome) (List.range m)
    rw [List.length_range] at this
    rw [hks]; omega
  rw [← hM0]
  obtain ⟨ks0, s1, s2, s3⟩ := hL.srt hm
  refine ⟨G, M0, Wk.refl, hv, ks0, at_n hls, s1, s2, fun ys p pm pw fp => ?_⟩
  rw [s3 ys pm pw, ← hks]
  refine ⟨natsV ks, lat_0, sz (by show (natsV ks).length ≤ _; rw [natsV_len]; omega), fun i acc G' M' => G' = G ∧ M' = (p, .lst (natsV ks)) :: M0 ∧ acc = natsV ((ks.take i).filter (inHand L)), ⟨rfl, rfl, rfl⟩, ?_, ?_, ?_⟩
  · rintro i acc G' M' _ ⟨rfl, rfl, _⟩; exact lat_0
  · rintro i acc G' M' D hi hacc ⟨rfl, rfl, rfl⟩ fD
    have hi : i < (natsV ks).length := hi
    rw [natsV_len] at hi
    obtain ⟨c, hc⟩ : ∃ c, ks[i]? = some c := ⟨_, List.getElem?_eq_getElem hi⟩
    have hcf : (L c).isSome = true := by
      have := List.mem_of_getElem? hc
      rw [hks, List.mem_filter] at this
      exact this.2
    obtain ⟨v, hv1, hv2⟩ := lie_get hL hcf
    refine asg_L (natsV_get hc) ⟨rfl, hv, Sum.inl (c : Int), lieV v, at_n (n := 4) hls, rfl, hv2, is_none2 ?_⟩
    show if decide (lieV v = .non) = true then _ else _
    rw [lie_is hv1]
    refine ite2' (fun e => ⟨_, _, Wk.refl, rfl, rfl, ?_⟩) (fun e => ⟨_, _, Wk.refl, rfl, rfl, ?_⟩)
    · rw [filter_step hc, if_pos e, natsV_app2]; rfl
    · rw [filter_step hc, if_neg (by rw [e]; exact Bool.false_ne_true), List.append_nil]
  rintro acc G' M' w ⟨rfl, rfl, rfl⟩ hacc fw
  have e1 : (srcL K p (natsV ks)).n = ks.length := natsV_len ks
  rw [e1, List.take_length, hks, hand_filter]
  -- those that fit
  obtain ⟨hs, hhs⟩ : ∃ hs, hs = handL m L := ⟨_, rfl⟩
  rw [← hhs]
  have hhl : hs.length ≤ 32 := by
    have := List.length_filter_le (inHand L) (List.range m)
    rw [List.length_range] at this
    rw [hhs]; unfold handL; omega
  have hhm : ∀ c, c ∈ hs → c < m := fun c hc => by
    rw [hhs] at hc
    exact List.mem_range.mp (List.mem_filter.mp hc).1
  refine ⟨G', (w, .lst (natsV hs)) :: M0, Wk.drop1, natsV hs, lat_0, sz (by show (natsV hs).length ≤ _; rw [natsV_len]; omega), fun i acc G2 M' => G2 = G' ∧ M' = (w, .lst (natsV hs)) :: M0 ∧ acc = natsV ((hs.take i).filter (fitL high tb node)), ⟨rfl, rfl, rfl⟩, ?_, ?_, ?_⟩
  · rintro i acc G2 M' _ ⟨rfl, rfl, _⟩; exact lat_0
  · rintro i acc G2 M' D hi hacc ⟨rfl, rfl, rfl⟩ fD
    have hi : i < (natsV hs).length := hi
    rw [natsV_len] at hi
    obtain ⟨c, hc⟩ : ∃ c, hs[i]? = some c := ⟨_, List.getElem?_eq_getElem hi⟩
    have hcm := hhm c (List.mem_of_getElem? hc)
    refine asg_L (natsV_get hc) ⟨rfl, _, Sum.inr "high", _, .inr hmd, rfl, rfl, _, Sum.inr "leaves", _, .inr hmd, rfl, rfl, natsV tb, _, hlv (fun x hx => List.mem_cons_of_mem _ (List.mem_cons_of_mem _ hx)), atI_natD (by omega), high, tb.getD c 0, rfl, rfl, hh, htk _ (getD_mem (by omega)), fun p4 fp4 => ?_⟩
    refine ⟨natsV (nodesN high (tb.getD c 0)), seq_0, rfl, flat_nats _, ?_⟩
    show if inV (.int (node : Int)) (natsV (nodesN high (tb.getD c 0))) = true then _ else _
    rw [in_nats]
    show if fitL high tb node c = true then _ else _
    refine ite2' (fun e => ⟨_, _, Wk.drop0, rfl, rfl, ?_⟩) (fun e => ⟨_, _, Wk.drop0, rfl, rfl, ?_⟩)
    · rw [filter_step hc, if_pos e, natsV_app2]; rfl
    · rw [filter_step hc, if_neg (by rw [e]; exact Bool.false_ne_true), List.append_nil]
  rintro acc G2 M' w2 ⟨rfl, rfl, rfl⟩ hacc fw2
  have e2 : (srcL K w (natsV hs)).n = hs.length := natsV_len hs
  rw [e2, List.take_length]
  -- two of them
  refine ⟨G2, (w2, .lst (natsV (hs.filter (fitL high tb node)))) :: M0, Wk.drop1, natsV (hs.filter (fitL high tb node)), lat_0, fun t ft => ?_⟩
  have et : cutV (natsV (hs.filter (fitL high tb node))) none (some 2) = natsV (pickL m high tb node L) := by
    rw [filter_take_two, hhs]; unfold pickL natsV; rw [List.map_take]
  have et2 : (HO.lst (cutV (natsV (hs.filter (fitL high tb node))) none (some 2))) = HO.lst (natsV (pickL m high tb node L)) := by rw [et]
  refine ⟨_, lat_0, ?_⟩
  rw [et]
  obtain ⟨cs, hcs⟩ : ∃ cs, cs = pickL m high tb node L := ⟨_, rfl⟩
  rw [← hcs]
  have hcl : cs.length ≤ 2 := by rw [hcs]; unfold pickL; rw [List.length_take]; omega
  have hcm : ∀ c, c ∈ cs → c < m := fun c hc => by
    rw [hcs] at hc
    have h1 := (List.mem_filter.mp (List.mem_of_mem_take hc)).1
    rw [← hhs] at h1
    exact hhm c h1
  obtain ⟨M1, hM1⟩ : ∃ M1 : Mem, M1 = (w2, .lst (natsV (hs.filter (fitL high tb node)))) :: (t, .lst (natsV cs)) :: (p3, .lst (natsV nds)) :: (lv, .lst (natsV tb)) :: F := ⟨_, rfl⟩
  refine ⟨G2, (ls, .dK hv) :: M1, ?_, fun i σ G3 M' => ∃ (hv' : List (Key × V)) (y9 : Option V), σ = [some (.ref md), some (.int cell), some (.int fresh), some (.ref p3), some (.ref ls), y5, some (.int node), some (.ref w), some (.ref w2), y9] ∧ G3 = G2 ∧ M' = (ls, .dK hv') :: M1 ∧ LieK m hv' (fun c => if c ∈ cs.take i then some (some node) else L c), ⟨hv, _, rfl, rfl, rfl, by simpa using hL⟩, ?_, ?_, ?_⟩
  · rw [hM0, hM1]; refine Wk.perm ?_; (classical (rw [List.perm_iff_count]; intro x; simp only [List.set_cons_zero, List.set_cons_succ, List.cons_append, List.nil_append, List.append_assoc, List.append_eq, List.count_append, List.count_cons, List.count_nil] <;> omega))
  · rintro i σ G3 M' _ ⟨hv', y9, rfl, rfl, rfl, _⟩
    rw [hM1]; exact .inl (List.mem_cons_of_mem _ (List.mem_cons_of_mem _ List.mem_cons_self))
  · rintro i σ G3 M' hi ⟨hv', y9, rfl, rfl, rfl, hL'⟩
    have hi : i < (natsV cs).length := hi
    rw [natsV_len] at hi
    obtain ⟨c, hc⟩ : ∃ c, cs[i]? = some c := ⟨_, List.getElem?_eq_getElem hi⟩
    have hcm' := hcm c (List.mem_of_getElem? hc)
    have hlen := hL'.len
    refine asg_L (natsV_get hc) ⟨G3, _, Wk.refl, 0, hv', Sum.inl (c : Int), rfl, rfl, Nat.lt_of_le_of_lt (m := 32) (by omega) (by decide), ?_⟩
    refine ⟨G3, _, Wk.refl, _, _, rfl, rfl, rfl, (hL'.put (v := some node) hcm').congr ?_⟩
    funext x
    rw [take_succ' hc]
    show (if x = c then some (some node) else if x ∈ cs.take i then some (some node) else L x) = _
    by_cases z : x = c
    · rw [if_pos z, if_pos (by rw [z]; simp)]
    · rw [if_neg z]
      by_cases y : x ∈ cs.take i
      · rw [if_pos y, if_pos (List.mem_append.mpr (.inl y))]
      · rw [if_neg y, if_neg (by simp [z, y])]
  · rintro σ G3 M' ⟨hv', y9, rfl, rfl, rfl, hL'⟩
    have en : (srcL K t (natsV cs)).n = cs.length := natsV_len cs
    rw [en, List.take_length] at hL'
    refine hD hv' _ _ _ (hL'.congr (by unfold stepL; rw [hcs])) _ ?_
    rw [hM1]
    refine Wk.trans (Wk.perm (M' := [(w2, .lst (natsV (hs.filter (fitL high tb node)))), (t, .lst (natsV cs))] ++ ((p3, .lst (natsV nds)) :: (lv, .lst (natsV tb)) :: (ls, .dK hv') :: F)) ?_) (Wk.dropP _)
    (classical (rw [List.perm_iff_count]; intro x; simp only [List.set_cons_zero, List.set_cons_succ, List.cons_append, List.nil_append, List.append_assoc, List.append_eq, List.count_append, List.count_cons, List.count_nil] <;> omega))
theorem pf_law_go (h : S_law_go K vs G M R Z) : rd_law_go K (ends R Z) (sta 10 vs) G M := by
  obtain ⟨_, _, _, rfl, md, lv, ls, m, high, cell, fresh, tb, hv, L, F, rfl, rfl, rfl, rfl, hmd, hL, htl, hm, hh, htk, hfr, hc, q⟩ := sp3_of h
  clear h
  obtain ⟨leaf, hleaf⟩ : ∃ leaf, leaf = tb.getD cell 0 := ⟨_, rfl⟩
  have hlf : leaf < 2 ^ high := by rw [hleaf]; exact htk _ (getD_mem (by omega))
  refine ⟨G, _, Wk.refl, _, Sum.inr "high", _, .inr hmd, rfl, rfl, _, Sum.inr "leaves", _, .inr hmd, rfl, rfl, natsV tb, _, lst_n (n := 0) rfl, atI_natD (by omega), ?_⟩
  rw [← hleaf]
  refine ⟨high, leaf, rfl, rfl, hh, hlf, fun p fp => ?_⟩
  refine ⟨G, _, Wk.refl, _, Sum.inr "lies", _, .inr hmd, rfl, rfl, ?_⟩
  obtain ⟨ks, hks⟩ : ∃ ks, ks = (List.range m).filter fun c => (L c).isSome := ⟨_, rfl⟩
  have hkm : ∀ c, c ∈ ks → c < m ∧ (L c).isSome = true := fun c hc => by rw [hks, List.mem_filter, List.mem_range] at hc; exact hc
  have hkn : ks.Nodup := by rw [hks]; exact List.nodup_range.filter _
  obtain ⟨ks0, s1, s2, s3⟩ := hL.srt hm
  refine ⟨G, _, Wk.refl, hv, ks0, at_n (n := 2) rfl, s1, s2, fun ys t pm pw ft => ?_⟩
  rw [s3 ys pm pw, ← hks]
  refine ⟨natsV ks, lat_0, ?_⟩
  refine ⟨G, _, Wk.refl, fun i σ G' M' => ∃ (hv' : List (Key × V)) (y5 : Option V), σ = [some (.ref md), some (.int cell), some (.int fresh), some (.ref p), some (.ref ls), y5, none, none, none, none] ∧ G' = G ∧ M' = (t, .lst (natsV ks)) :: (p, .lst (natsV (nodesN high leaf))) :: (lv, .lst (natsV tb)) :: (ls, .dK hv') :: F ∧ LieK m hv' (clearU (nodesN high leaf) L (ks.take i)), ⟨hv, _, rfl, rfl, rfl, hL.congr (by funext c; unfold clearU; simp)⟩, ?_, ?_, ?_⟩
  · rintro i σ G' M' _ ⟨hv', y5, rfl, rfl, rfl, _⟩; exact lat_0
  · rintro i σ G' M' hi ⟨hv', y5, rfl, rfl, rfl, hL'⟩
    have hi : i < (natsV ks).length := hi
    rw [natsV_len] at hi
    obtain ⟨c, hcc⟩ : ∃ c, ks[i]? = some c := ⟨_, List.getElem?_eq_getElem hi⟩
    obtain ⟨hcm, hcf⟩ := hkm c (List.mem_of_getElem? hcc)
    have hnot : c ∉ ks.take i := fun z => by
      obtain ⟨j, hj⟩ := List.getElem?_of_mem z
      have hjl : j < i := by
        have := (List.getElem?_eq_some_iff.mp hj).1
        rw [List.length_take] at this; omega
      rw [List.getElem?_take_of_lt hjl] at hj
      have := (List.getElem?_inj (List.getElem?_eq_some_iff.mp hj).1 hkn).mp (hj.trans hcc.symm)
      omega
    have ecu : clearU (nodesN high leaf) L (ks.take i) c = L c := by unfold clearU; rw [if_neg hnot]
    obtain ⟨v, hv1, hv2⟩ := lie_get hL' (c := c) (by rw [ecu]; exact hcf)
    rw [ecu] at hv1
    have next : clearU (nodesN high leaf) L (ks.take (i + 1)) = fun x => if x = c then clearL (nodesN high leaf) L c else clearU (nodesN high leaf) L (ks.take i) x := by
      funext x
      unfold clearU
      rw [take_succ' hcc]
      by_cases z : x = c
      · rw [if_pos z, if_pos (by rw [z]; simp), z]
      · rw [if_neg z]
        by_cases y : x ∈ ks.take i
        · rw [if_pos y, if_pos (List.mem_append.mpr (.inl y))]
        · rw [if_neg y, if_neg (by simp [z, y])]
    have hfl : flatV (lieV v) = true := by cases v <;> rfl
    refine asg_L (natsV_get hcc) ⟨G', _, Wk.refl, hv', Sum.inl (c : Int), lieV v, at_n (n := 3) rfl, rfl, hv2, natsV (nodesN high leaf), lst_n (n := 1) rfl, hfl, flat_nats _, ?_⟩
    show if inV (lieV v) (natsV (nodesN high leaf)) = true then _ else _
    rw [in_opt]
    have hlen := hL'.len
    cases v with
    | none =>
      refine ⟨G', _, Wk.refl, hv', _, rfl, rfl, rfl, hL'.congr ?_⟩
      rw [next]
      funext x
      by_cases z : x = c
      · rw [if_pos z, z, ecu]; unfold clearL; rw [hv1]
      · rw [if_neg z]
    | some n =>
      refine ite2' (c := decide (n ∈ nodesN high leaf)) (fun e => ?_) (fun e => ?_)
      · refine ⟨G', _, Wk.refl, 3, hv', Sum.inl (c : Int), rfl, rfl, Nat.lt_of_le_of_lt (m := 32) (by omega) (by decide), ?_⟩
        refine ⟨G', _, Wk.refl, _, _, rfl, rfl, rfl, (hL'.put (v := none) hcm).congr ?_⟩
        rw [next]
        funext x
        unfold putL
        by_cases z : x = c
        · rw [if_pos z, if_pos z]; unfold clearL; rw [hv1]; simp only []; rw [if_pos (of_decide_eq_true e)]
        · rw [if_neg z, if_neg z]
      · refine ⟨G', _, Wk.refl, hv', _, rfl, rfl, rfl, hL'.congr ?_⟩
        rw [next]
        funext x
        by_cases z : x = c
        · rw [if_pos z, z, ecu]; unfold clearL; rw [hv1]; simp only []; rw [if_neg (of_decide_eq_false e)]
        · rw [if_neg z]
  rintro σ G' M' ⟨hv1, y5, rfl, rfl, rfl, hL1⟩
  have en : (srcL K t (natsV ks)).n = ks.length := natsV_len ks
  rw [en, List.take_length, hks, clearU_all hL.out] at hL1
  have hlen := hL1.len
  refine ⟨G', (p, .lst (natsV (nodesN high leaf))) :: (lv, .lst (natsV tb)) :: (ls, .dK hv1) :: F, Wk.drop0, 2, hv1, Sum.inl (cell : Int), rfl, rfl, Nat.lt_of_le_of_lt (m := 32) (by omega) (by decide), ?_⟩
  have hL2 := hL1.put (v := none) hc
  refine ⟨G', _, Wk.refl, _, Sum.inr "leaves", _, .inr hmd, rfl, rfl, 1, natsV tb, cell, rfl, ixN_nat (by rw [natsV_len]; omega), ?_⟩
  rw [natsV_set]
  obtain ⟨tb', htb'⟩ : ∃ tb', tb' = tb.set cell fresh := ⟨_, rfl⟩
  rw [← htb'] at q ⊢
  have htl' : tb'.length = m := by rw [htb', List.length_set]; exact htl
  have htk' : ∀ x, x ∈ tb' → x < 2 ^ high := fun x hx => by
    rw [htb'] at hx
    rcases List.mem_or_eq_of_mem_set hx with hx | rfl
    · exact htk x hx
    · exact hfr
  refine ⟨G', _, Wk.refl, natsV (nodesN high leaf), lat_0, fun i σ G2 M' => ∃ (hv' : List (Key × V)) (y6 y7 y8 y9 : Option V), σ = [some (.ref md), some (.int cell), some (.int fresh), some (.ref p), some (.ref ls), y5, y6, y7, y8, y9] ∧ G2 = G' ∧ M' = (p, .lst (natsV (nodesN high leaf))) :: (lv, .lst (natsV tb')) :: (ls, .dK hv') :: F ∧ LieK m hv' (((nodesN high leaf).reverse.take i).foldl (stepL m high tb') (putL (clearL (nodesN high leaf) L) cell none)), ⟨_, _, _, _, _, rfl, rfl, rfl, hL2⟩, ?_, ?_, ?_⟩
  · rintro i σ G2 M' _ ⟨hv', y6, y7, y8, y9, rfl, rfl, rfl, _⟩; exact lat_0
  · rintro i σ G2 M' hi ⟨hv', y6, y7, y8, y9, rfl, rfl, rfl, hL'⟩
    have hi : i < (natsV (nodesN high leaf)).length := hi
    rw [nodes_len'] at hi
    have hlen : (nodesN high leaf).length = high + 1 := by unfold nodesN; rw [List.length_map, List.length_range]
    have hn : (nodesN high leaf)[high - i]? = some (nodeN high (high - i) leaf) := by
      unfold nodesN
      rw [List.getElem?_map, List.getElem?_range (by omega)]; rfl
    have hrn : (nodesN high leaf).reverse[i]? = some (nodeN high (high - i) leaf) := by
      rw [List.getElem?_reverse (by omega), hlen, show high + 1 - 1 - i = high - i by omega]; exact hn
    refine asg_V (v := .int (nodeN high (high - i) leaf : Nat)) ?_ (go_step hmd hL' htl' hm hh htk' fun hv2 z7 z8 z9 hL3 M2 wk => ?_)
    · rw [nodes_len', show high + 1 - 1 - i = high - i by omega]; exact natsV_get hn
    · exact ⟨G2, _, wk, hv2, _, _, _, _, rfl, rfl, rfl, by rw [take_succ' hrn, List.foldl_append]; exact hL3⟩
  · rintro σ G2 M' ⟨hv', y6, y7, y8, y9, rfl, rfl, rfl, hL'⟩
    have hlen : (nodesN high leaf).reverse.length = high + 1 := by rw [List.length_reverse]; unfold nodesN; rw [List.length_map, List.length_range]
    have en : (srcV K p (natsV (nodesN high leaf))).n = high + 1 := nodes_len'
    rw [en, List.take_of_length_le (by omega)] at hL'
    have eg : (nodesN high leaf).reverse.foldl (stepL m high tb') (putL (clearL (nodesN high leaf) L) cell none) = goL m high tb cell fresh L := by unfold goL; rw [← hleaf, htb']
    rw [eg] at hL'
    exact retW Wk.drop0 (q hv' hL')
end

section
variable {K : PySem.W.Frag} {vs : List V} {G : Hp} {M : Mem} {R : KR} {Z : KX}
theorem pf_Store_ask (h : S_Store_ask K vs G M R Z) : rd_Store_ask K (ends R Z) (sta 3 vs) G M := by
  obtain ⟨_, _, rfl, m, lim, drs, a, rfl, hf⟩ := sp2_of h
  exact pf_face7 hf
theorem lkG_ask : (tabM_ask K).lookup Wy.grove.num = some (S_Store_ask K) := rfl
theorem stG_ask {m lim : Nat} {drs : List Dr} {ds : List Deed} {a : Addr} {B F : Mem} {y : V} {d : Deed} {E : KX} (st : StA K .grove m lim drs G ds a B) (hp : M.Perm (F ++ B)) (hd : DeedAt K G y d) (hok : DeedOk m d) (hlt : ds.length < lim)
    (q : ∀ G' B', Ex G G' → StA K .grove m lim drs G' (ds ++ [d]) a B' → R (.int (toldW m ds d : Nat)) G' (F ++ B')) : mcall K (tabM_ask K) a [y] G M R E := by
  obtain ⟨dx, vs, hat⟩ := seen_at (M := M) (stA_seen st) (perm_sub hp)
  exact ⟨Wy.grove.num, dx, vs, S_Store_ask K, hat, lkG_ask, m, lim, drs, a, rfl, ds, B, F, hp, st, .inr ⟨d, hd, hok, .inr ⟨hlt, q⟩⟩⟩
theorem stG_touches {m lim : Nat} {drs : List Dr} {ds : List Deed} {a : Addr} {B : Mem} {E : KX} (st : StA K .grove m lim drs G ds a B) (hs : ∀ x, x ∈ B → x ∈ M) (q : ∀ (p : Addr) (vs : List V), DpAll K G vs ((tchA .grove m drs ds).map tchD) → Fr G M p → R (.ref p) G ((p, .lst vs) :: M)) : mcall K (tabM_touches K) a [] G M R E := seen_touches (stA_seen st) hs rfl (by decide) q
theorem stG_pocket {m lim : Nat} {drs : List Dr} {ds : List Deed} {a : Addr} {B F : Mem} {E : KX} (st : StA K .grove m lim drs G ds a B) (hp : M.Perm (F ++ B))
    (q : ∀ (p : Addr) (vs : List V) (Mn : Mem), A2 (DrM Mn) vs (pkA .grove m drs ds) → Frs' G M ((p, .lst vs) :: Mn) → (∀ x, x ∈ Mn → ∃ l : List Nat, x.2 = .lst (natsV l) ∧ l.length ≤ 32) → vs.length ≤ 32 → R (.ref p) G ((p, .lst vs) :: (Mn ++ M))) : mcall K (tabM_pocket K) a [] G M R E := by
  obtain ⟨dx, vs, hat⟩ := seen_at (M := M) (stA_seen st) (perm_sub hp)
  obtain ⟨A, v, rfl, rfl, hi, h2⟩ := st
  have hmo := hi.mo
  refine ⟨7, dx, vs, S_Grove_pocket K, hat, rfl, A, m, lim, ds.length, treesN m, _, _, _, _, v, _, F, rfl, hp, hi, fun p rs hrs hfr fp => ?_⟩
  have hrl : rs.length ≤ 3 := by
    have := congrArg List.length hrs
    rw [List.length_map, List.length_map, List.length_range] at this
    have := hmo.l3; omega
  refine q p _ (rs.reverse.map rcell) ?_ (.cons fp hfr) (fun x hx => ?_) (by rw [List.length_map]; omega)
  · show A2 _ _ (((List.range (treesN m).length).map (pocketG (treesN m) (grS m (leafsOf drs) ds))).map Dr.row)
    rw [← hrs]
    exact drm_rows rs fun x hx => List.mem_map.mpr ⟨x, List.mem_reverse.mpr hx, rfl⟩
  · obtain ⟨y, hy, rfl⟩ := List.mem_map.mp hx
    refine ⟨y.2, rfl, ?_⟩
    have : y.2 ∈ (List.range (treesN m).length).map (pocketG (treesN m) (grS m (leafsOf drs) ds)) := by rw [← hrs]; exact List.mem_map.mpr ⟨y, List.mem_reverse.mp hy, rfl⟩
    obtain ⟨i, hi2, e⟩ := List.mem_map.mp this
    rw [← e]
    exact Nat.le_trans range_filter_len (hmo.ok i (List.mem_range.mp hi2)).2
end
section
variable {K : PySem.W.Frag} {vs : List V} {G : Hp} {M : Mem} {R : KR} {Z : KX}
/-! ### asks as data -/
end

section
theorem lay_lrg {m : Nat} {fs W tb : List Nat} {leaf k : Nat} {s : Th × HF} {L : LF} (hl : leaf < 2 ^ highN m) (hk : k ≤ highN m) (htb : ∀ c, tb.getD c 0 < 2 ^ highN m) (h : LG m fs W tb leaf k s) (hr : LR m leaf k s L) : LR m leaf (k + 1) (layD m (highN m) leaf s (highN m - k)) (stepL m (highN m) tb L (nodeN (highN m) (highN m - k) leaf)) := by
  obtain ⟨d, hd⟩ : ∃ d, d = highN m - k := ⟨_, rfl⟩
  have hdh : d ≤ highN m := by omega
  rw [← hd]
  obtain ⟨n, hn⟩ : ∃ n, n = nodeN (highN m) d leaf := ⟨_, rfl⟩
  rw [← hn]
  have hcs : pickL m (highN m) tb n L = fitsN m (highN m) d n s.2 := by
    unfold pickL fitsN handL
    rw [List.filter_filter]
    congr 1
    refine List.filter_congr fun c hc => ?_
    unfold fitL fitB inHand
    cases e : s.2 c with
    | none =>
      have : ¬ L c = some none := fun z => by have := (hr.hnd c).mp z; rw [e] at this; cases this
      simp [this]
    | some p =>
      have hh : L c = some none := (hr.hnd c).mpr (by rw [e]; rfl)
      have hp := (h.j2 c p e).2.1
      simp only [hh, decide_true, Bool.and_true]
      refine decide_eq_decide.mpr ?_
      rw [mem_nodes]
      constructor
      · rintro ⟨d', h1, h2⟩
        have := node_depth h1 hdh (htb c) hl (by rw [h2, hn])
        rw [hp, ← h2, this]
      · intro z
        exact ⟨d, hdh, by rw [← hp]; exact z⟩
  obtain ⟨cs, hcs2⟩ : ∃ cs, cs = fitsN m (highN m) d n s.2 := ⟨_, rfl⟩
  have hlay : layD m (highN m) leaf s d = ((s.1.set (2 * n) (takeC s.2 cs 0)).set (2 * n + 1) (takeC s.2 cs 1), fun x => if x ∈ cs then none else s.2 x) := by unfold layD; rw [← hn, ← hcs2]
  have hstep : stepL m (highN m) tb L n = fun c => if c ∈ cs then some (some n) else L c := by unfold stepL; rw [hcs, ← hcs2]
  rw [hlay, hstep]
  have hlt : 2 * n + 1 < s.1.length := by rw [h.len, hn]; exact node_lt hdh hl
  have hcl : cs.length ≤ 2 := by rw [hcs2]; exact fits_len
  have hcm : ∀ c, c ∈ cs → c < m ∧ ∃ p, s.2 c = some p ∧ nodeN (highN m) d p.2 = n := fun c hc => by
    rw [hcs2] at hc; exact ⟨(fits_mem hc).1, fits_fit hc⟩
  have way : ∀ r, r / 2 = n → WayR (highN m) leaf k r := fun r hr => ⟨d, by omega, by rw [hr, hn]⟩
  have way1 : ∀ r, WayR (highN m) leaf (k + 1) r → WayR (highN m) leaf k r := fun r ⟨d', h1, h2⟩ => ⟨d', by omega, h2⟩
  have way2 : ∀ r, r / 2 = n → ¬ WayR (highN m) leaf (k + 1) r := fun r hr ⟨d', h1, h2⟩ => by
    have := node_depth hdh (show d' ≤ highN m by omega) hl hl (by rw [← hn, ← hr, h2])
    omega
  have way3 : ∀ r, ¬ WayR (highN m) leaf (k + 1) r → WayR (highN m) leaf k r → r / 2 = n := fun r h1 ⟨d', h2, h3⟩ => by
    by_cases z : d' = d
    · rw [h3, z, hn]
    · exact absurd ⟨d', by omega, h3⟩ h1
  have at_n : ∀ (r : Nat) (e : Nat × Nat × Nat), r / 2 = n → ((s.1.set (2 * n) (takeC s.2 cs 0)).set (2 * n + 1) (takeC s.2 cs 1))[r]? = some (some e) → e.1 ∈ cs := fun r e hr he => by
    have : r = 2 * n ∨ r = 2 * n + 1 := by omega
    rcases this with rfl | rfl
    · rw [List.getElem?_set_ne (by omega), List.getElem?_set_self (by omega)] at he
      exact List.mem_of_getElem? (takeC_some (Option.some.inj he)).1
    · rw [List.getElem?_set_self (by rw [List.length_set]; omega)] at he
      exact List.mem_of_getElem? (takeC_some (Option.some.inj he)).1
  have at_o : ∀ r, ¬ r / 2 = n → ((s.1.set (2 * n) (takeC s.2 cs 0)).set (2 * n + 1) (takeC s.2 cs 1))[r]? = s.1[r]? := fun r hr => by
    rw [List.getElem?_set_ne (by omega), List.getElem?_set_ne (by omega)]
  refine ⟨fun c hc => ?_, fun c => ?_, fun c x => ?_⟩
  · show (if c ∈ cs then _ else L c) = none
    rw [if_neg (fun z => by have := (hcm c z).1; omega)]
    exact hr.out c hc
  · show (if c ∈ cs then some (some n) else L c) = some none ↔ (if c ∈ cs then none else s.2 c).isSome = true
    by_cases z : c ∈ cs
    · rw [if_pos z, if_pos z]
      exact ⟨(fun y => by cases y), (fun y => by cases y)⟩
    · rw [if_neg z, if_neg z]; exact hr.hnd c
  · show (if c ∈ cs then some (some n) else L c) = some (some x) ↔ _
    by_cases z : c ∈ cs
    · rw [if_pos z]
      obtain ⟨i, hi⟩ := List.getElem?_of_mem z
      have hil : i < cs.length := (List.getElem?_eq_some_iff.mp hi).1
      obtain ⟨_, p, hp, _⟩ := hcm c z
      have ht : takeC s.2 cs i = some (c, p) := by unfold takeC; rw [hi]; simp only []; rw [hp]; rfl
      constructor
      · intro y
        have y : n = x := by cases y; rfl
        subst y
        have : i = 0 ∨ i = 1 := by omega
        rcases this with rfl | rfl
        · exact ⟨2 * n, (c, p), by rw [List.getElem?_set_ne (by omega), List.getElem?_set_self (by omega), ht], rfl, way2 _ (by omega), by omega⟩
        · exact ⟨2 * n + 1, (c, p), by rw [List.getElem?_set_self (by rw [List.length_set]; omega), ht], rfl, way2 _ (by omega), by omega⟩
      · rintro ⟨r, e, h1, h2, h3, h4⟩
        by_cases hrn : r / 2 = n
        · rw [← h4, hrn]
        · exfalso
          rw [at_o r hrn] at h1
          have := (h.j1 r e h1 (fun y => hrn (way3 r h3 y))).2.2.2.2.1
          rw [h2, hp] at this; cases this
    · rw [if_neg z, hr.lie c x]
      constructor
      · rintro ⟨r, e, h1, h2, h3, h4⟩
        have hrn : ¬ r / 2 = n := fun y => h3 (way r y)
        exact ⟨r, e, by rw [at_o r hrn]; exact h1, h2, fun y => h3 (way1 r y), h4⟩
      · rintro ⟨r, e, h1, h2, h3, h4⟩
        by_cases hrn : r / 2 = n
        · exact absurd (by rw [← h2]; exact at_n r e hrn h1) z
        · rw [at_o r hrn] at h1
          exact ⟨r, e, h1, h2, fun y => hrn (way3 r h3 y), h4⟩
theorem layW_lrg {m : Nat} {fs W tb : List Nat} {leaf : Nat} {s : Th × HF} {L : LF} (hl : leaf < 2 ^ highN m) (htb : ∀ c, tb.getD c 0 < 2 ^ highN m) (h : LG m fs W tb leaf 0 s) (hr : LR m leaf 0 s L) : ∀ k, k ≤ highN m + 1 → LR m leaf k (layW m (highN m) leaf s k) (((nodesN (highN m) leaf).reverse.take k).foldl (stepL m (highN m) tb) L)
  | 0, _ => hr
  | k + 1, hk => by
    rw [layW_succ]
    have hn : (nodesN (highN m) leaf).reverse[k]? = some (nodeN (highN m) (highN m - k) leaf) := by
      have hlen : (nodesN (highN m) leaf).length = highN m + 1 := by unfold nodesN; rw [List.length_map, List.length_range]
      rw [List.getElem?_reverse (by omega), hlen]
      unfold nodesN
      rw [List.getElem?_map, List.getElem?_range (by omega), show highN m + 1 - 1 - k = highN m - k by omega]; rfl
    rw [take_succ' hn, List.foldl_append]
    exact lay_lrg hl (by omega) htb (layW_lg hl h k (by omega)) (layW_lrg hl htb h hr k (by omega))
theorem lrs_bask {m : Nat} {fs W : List Nat} {s : TrM} {c0 : Nat} {w : Nat → Nat} {fresh : Nat} {L : LF} (h : BI m fs W s) (hc : c0 < m) (hf : fresh < 2 ^ highN m) (hr : LRs m s L) : LRs m (bAsk m (highN m) fs c0 w fresh s) (goL m (highN m) s.tb c0 fresh L) := by
  obtain ⟨j0, hlf⟩ := ask_g0 (w := w) (fresh := fresh) h hc
  obtain ⟨leaf, hleaf⟩ : ∃ leaf, leaf = s.tb.getD c0 0 := ⟨_, rfl⟩
  rw [← hleaf] at j0 hlf
  have htk : ∀ x, x ∈ s.tb.set c0 fresh → x < 2 ^ highN m := fun x hx => by
    rcases List.mem_or_eq_of_mem_set hx with hx | rfl
    · exact h.tk x hx
    · exact hf
  have hk0 : bKeep (highN m) fs c0 w fresh s = (lookW s.th (highN m) leaf s.f (highN m + 1)).put c0 (w (bTold (highN m) fs c0 s), fresh) := by unfold bKeep; rw [← hleaf]
  obtain ⟨f1, hf1⟩ : ∃ f1, f1 = lookW s.th (highN m) leaf s.f (highN m + 1) := ⟨_, rfl⟩
  rw [← hf1] at hk0
  -- on the way
  have onw : ∀ r, WayR (highN m) leaf 0 r ↔ r / 2 ∈ nodesN (highN m) leaf := fun r => by
    rw [mem_nodes]
    exact ⟨fun ⟨d', h1, h2⟩ => ⟨d', by omega, h2.symm⟩, fun ⟨d', h1, h2⟩ => ⟨d', by omega, h2.symm⟩⟩
  have l0 : LR m leaf 0 (s.th, bKeep (highN m) fs c0 w fresh s) (putL (clearL (nodesN (highN m) leaf) L) c0 none) := by
    refine ⟨fun c hcm => ?_, fun c => ?_, fun c n => ?_⟩
    · unfold putL
      rw [if_neg (by omega)]
      unfold clearL
      rw [hr.out c hcm]
    · rw [hk0]
      show (if c = c0 then some none else clearL (nodesN (highN m) leaf) L c) = some none ↔ (if c = c0 then _ else f1 c).isSome = true
      by_cases z : c = c0
      · rw [if_pos z, if_pos z]; exact ⟨fun _ => rfl, fun _ => rfl⟩
      · rw [if_neg z, if_neg z]
        unfold clearL
        constructor
        · intro y
          cases q : f1 c with
          | some p => rfl
          | none =>
            exfalso
            rw [hf1] at q
            obtain ⟨q1, q2⟩ := lookW_none _ q
            cases e : L c with
            | none => rw [e] at y; cases y
            | some v =>
              cases v with
              | none => have := (hr.hnd c).mp e; rw [q1] at this; cases this
              | some n =>
                rw [e] at y
                simp only [] at y
                obtain ⟨r, x, h1, h2, h3⟩ := (hr.lie c n).mp e
                split at y
                · rename_i hn
                  rw [← h3, ← onw] at hn
                  obtain ⟨d', g1, g2⟩ := hn
                  exact q2 d' r x.2 (by omega) g2 (by rw [h1, ← h2])
                · cases y
        · intro y
          obtain ⟨p, hp⟩ := Option.isSome_iff_exists.mp y
          rw [hf1] at hp
          rcases lookW_some _ hp with g | ⟨d', r, g1, g2, g3⟩
          · have : L c = some none := (hr.hnd c).mpr (by rw [g]; rfl)
            rw [this]
          · have : L c = some (some (r / 2)) := (hr.lie c (r / 2)).mpr ⟨r, _, g3, rfl, rfl⟩
            rw [this]
            simp only []
            rw [if_pos ((onw r).mp ⟨d', by omega, g2⟩)]
    · show (if c = c0 then some none else clearL (nodesN (highN m) leaf) L c) = some (some n) ↔ _
      by_cases z : c = c0
      · rw [if_pos z]
        constructor
        · intro y; cases y
        · rintro ⟨r, e, h1, h2, h3, h4⟩
          exfalso
          obtain ⟨_, _, a3, ⟨d', a4, a5⟩, _⟩ := h.i1 r e h1
          exact h3 ⟨d', by omega, by rw [a5, a3, h2, z, hleaf]⟩
      · rw [if_neg z]
        unfold clearL
        constructor
        · intro y
          cases e : L c with
          | none => rw [e] at y; cases y
          | some v =>
            cases v with
            | none => rw [e] at y; cases y
            | some n' =>
              rw [e] at y
              simp only [] at y
              split at y
              · cases y
              · rename_i hn
                cases y
                obtain ⟨r, x, h1, h2, h3⟩ := (hr.lie c n).mp e
                exact ⟨r, x, h1, h2, fun w => hn (by rw [← h3]; exact (onw r).mp w), h3⟩
        · rintro ⟨r, e, h1, h2, h3, h4⟩
          have : L c = some (some n) := (hr.lie c n).mpr ⟨r, e, h1, h2, h4⟩
          rw [this]
          simp only []
          rw [if_neg (fun w => h3 ((onw r).mpr (by rw [h4]; exact w)))]
  have ln := layW_lrg hlf (getD_lt2 (Nat.two_pow_pos _) htk) j0 l0 (highN m + 1) (Nat.le_refl _)
  have hlen : (nodesN (highN m) leaf).reverse.length = highN m + 1 := by rw [List.length_reverse]; unfold nodesN; rw [List.length_map, List.length_range]
  rw [List.take_of_length_le (by omega)] at ln
  have nw : ∀ r, ¬ WayR (highN m) leaf (highN m + 1) r := fun r ⟨d', h1, _⟩ => by omega
  have e1 : goL m (highN m) s.tb c0 fresh L = (nodesN (highN m) leaf).reverse.foldl (stepL m (highN m) (s.tb.set c0 fresh)) (putL (clearL (nodesN (highN m) leaf) L) c0 none) := by unfold goL; rw [← hleaf]
  have e2 : bAsk m (highN m) fs c0 w fresh s = ⟨(layW m (highN m) leaf (s.th, bKeep (highN m) fs c0 w fresh s) (highN m + 1)).1, (layW m (highN m) leaf (s.th, bKeep (highN m) fs c0 w fresh s) (highN m + 1)).2, s.tb.set c0 fresh⟩ := by unfold bAsk; rw [← hleaf]
  rw [e1, e2]
  refine ⟨ln.out, ln.hnd, fun c n => (ln.lie c n).trans ?_⟩
  exact ⟨fun ⟨r, e, h1, h2, _, h4⟩ => ⟨r, e, h1, h2, h4⟩, fun ⟨r, e, h1, h2, h4⟩ => ⟨r, e, h1, h2, nw r, h4⟩⟩
end
section
variable {K : PySem.W.Frag} {vs : List V} {G : Hp} {M : Mem} {R : KR} {Z : KX}
theorem way_pair {G' : Hp} {Mx : Mem} {ws : List V} {pre : List Tch} {b : Bool} {sh n : Nat} {t1 t2 : Str} {T1 T2 : Addr} (e1 : t1 = Tch.txt ⟨b, sh, 2 * n⟩) (e2 : t2 = Tch.txt ⟨b, sh, 2 * n + 1⟩) (hd : DpAll K G' ws (pre.map tchD)) (f1 : Fr G' Mx T1) (f2 : Fr (upd G' T1 (.tup [.str t1, .int (sh : Nat), .int ((2 : Int) * (n : Int))])) Mx T2) :
    Ex G' (upd (upd G' T1 (.tup [.str t1, .int (sh : Nat), .int ((2 : Int) * (n : Int))])) T2 (.tup [.str t2, .int (sh : Nat), .int ((2 : Int) * (n : Int) + 1)])) ∧ DpAll K (upd (upd G' T1 (.tup [.str t1, .int (sh : Nat), .int ((2 : Int) * (n : Int))])) T2 (.tup [.str t2, .int (sh : Nat), .int ((2 : Int) * (n : Int) + 1)])) (ws ++ [.ref T1, .ref T2]) ((pre ++ ([⟨b, sh, 2 * n⟩, ⟨b, sh, 2 * n + 1⟩] : List Tch)).map tchD) := by
  have x1 := Ex.new (o := .tup [.str t1, .int (sh : Nat), .int ((2 : Int) * (n : Int))]) f1
  have x2 := Ex.new (o := .tup [.str t2, .int (sh : Nat), .int ((2 : Int) * (n : Int) + 1)]) f2
  refine ⟨x1.trans x2, ?_⟩
  rw [List.map_append]
  refine dpall_app2 (ex_ds (x1.trans x2) _ hd) (.cons (dp_tch (t := ⟨b, sh, 2 * n⟩) (ex_t x2 ?_)) (.cons (dp_tch (t := ⟨b, sh, 2 * n + 1⟩) ?_) .nil))
  · rw [e1]
    have : ((2 * n : Nat) : Int) = (2 : Int) * (n : Int) := by omega
    show SqT K _ T1 [.str _, .int (sh : Nat), .int ((2 * n : Nat) : Int)]
    rw [this]; exact sqt_new
  · rw [e2]
    have : ((2 * n + 1 : Nat) : Int) = (2 : Int) * (n : Int) + 1 := by omega
    show SqT K _ T2 [.str _, .int (sh : Nat), .int ((2 * n + 1 : Nat) : Int)]
    rw [this]; exact sqt_new
theorem nodes_get {high leaf i : Nat} (h : i < high + 1) : (natsV (nodesN high leaf))[i]? = some (.int (nodeN high i leaf : Nat)) := by
  refine natsV_get ?_
  unfold nodesN
  rw [List.getElem?_map, List.getElem?_range h]; rfl
theorem nodes_len {high leaf : Nat} : (natsV (nodesN high leaf)).length = high + 1 := by rw [natsV_len]; unfold nodesN; rw [List.length_map, List.length_range]
theorem pf_law_touches (h : S_law_touches K vs G M R Z) : rd_law_touches K (ends R Z) (sta 6 vs) G M := by
  obtain ⟨_, _, _, rfl, sh, high, leaf, rfl, rfl, rfl, hh, hl, q⟩ := sp3_of h
  clear h
  refine ⟨G, M, Wk.refl, high, leaf, rfl, rfl, hh, hl, fun p fp => ?_⟩
  refine ⟨G, _, Wk.refl, sz0, fun f ff => ?_⟩
  refine ⟨G, (f, .lst []) :: (p, .lst (natsV (nodesN high leaf))) :: M, Wk.refl, _, lat_cons lat_0, fun i σ G' M' => ∃ (ws : List V) (y4 : Option V), σ = [some (.int sh), some (.int high), some (.int leaf), some (.ref p), some (.ref f), y4] ∧ Ex G G' ∧ M' = (f, .lst ws) :: (p, .lst (natsV (nodesN high leaf))) :: M ∧ DpAll K G' ws ((lookT sh high leaf i).map tchD), ⟨[], _, rfl, Ex.refl, rfl, .nil⟩, ?_, ?_, ?_⟩
  · rintro i σ G' M' _ ⟨ws, y4, rfl, ex, rfl, _⟩; exact lat_cons lat_0
  · rintro i σ G' M' hi ⟨ws, y4, rfl, ex, rfl, hd⟩
    have hi : i < (natsV (nodesN high leaf)).length := hi
    rw [nodes_len] at hi
    have hwl : ws.length ≤ 100 := by rw [dpall_len hd, List.length_map, lookT_len]; omega
    refine asg_L (nodes_get hi) ⟨G', _, Wk.refl, tyl_n (n := 0) rfl, mul_l (by decide) (by decide), sz3, fun T1 f1 => ⟨mul_l (by decide) (by decide), sz3, fun T2 f2 => ⟨sz2, fun l fl => ⟨1, ws, _, rfl, .inl List.mem_cons_self, sz (by show _ + 2 ≤ _; omega), ?_⟩⟩⟩⟩
    obtain ⟨e2, hd2⟩ := way_pair (K := K) (b := false) (sh := sh) (n := nodeN high i leaf) (t1 := "look") (t2 := "look") rfl rfl hd f1 f2
    exact ⟨_, _, Wk.drop0, _, _, rfl, ex.trans e2, rfl, by rw [lookT_succ]; exact hd2⟩
  rintro σ G1 M1 ⟨ws, y4, rfl, ex, rfl, hd⟩
  have en : (srcL K p (natsV (nodesN high leaf))).n = high + 1 := nodes_len
  rw [en] at hd
  refine ⟨G1, _, Wk.refl, _, lat_cons lat_0, fun i σ G' M' => ∃ (ws : List V) (y4 : Option V), σ = [some (.int sh), some (.int high), some (.int leaf), some (.ref p), some (.ref f), y4] ∧ Ex G G' ∧ M' = (f, .lst ws) :: (p, .lst (natsV (nodesN high leaf))) :: M ∧ DpAll K G' ws ((lookT sh high leaf (high + 1) ++ layT sh high leaf i).map tchD), ⟨ws, _, rfl, ex, rfl, by show DpAll K G1 ws ((_ ++ []).map tchD); rw [List.append_nil]; exact hd⟩, ?_, ?_, ?_⟩
  · rintro i σ G' M' _ ⟨ws, y4, rfl, ex, rfl, _⟩; exact lat_cons lat_0
  · rintro i σ G' M' hi ⟨ws, y4, rfl, ex, rfl, hd⟩
    have hi : i < (natsV (nodesN high leaf)).length := hi
    rw [nodes_len] at hi
    have hwl : ws.length ≤ 100 := by rw [dpall_len hd, List.length_map, List.length_append, lookT_len, layT_len]; omega
    refine asg_V (v := .int (nodeN high (high - i) leaf : Nat)) ?_ ⟨G', _, Wk.refl, tyl_n (n := 0) rfl, mul_l (by decide) (by decide), sz3, fun T1 f1 => ⟨mul_l (by decide) (by decide), sz3, fun T2 f2 => ⟨sz2, fun l fl => ⟨1, ws, _, rfl, .inl List.mem_cons_self, sz (by show _ + 2 ≤ _; omega), ?_⟩⟩⟩⟩
    · rw [nodes_len, show high + 1 - 1 - i = high - i by omega]
      exact nodes_get (by omega)
    · obtain ⟨e2, hd2⟩ := way_pair (K := K) (b := true) (sh := sh) (n := nodeN high (high - i) leaf) (t1 := "lay") (t2 := "lay") rfl rfl hd f1 f2
      exact ⟨_, _, Wk.drop0, _, _, rfl, ex.trans e2, rfl, by rw [layT_succ, ← List.append_assoc]; exact hd2⟩
  rintro σ G2 M2 ⟨ws, y4, rfl, ex, rfl, hd⟩
  have en : (srcV K p (natsV (nodesN high leaf))).n = high + 1 := nodes_len
  rw [en] at hd
  refine ⟨G2, _, Wk.refl, retW Wk.drop1 (q f ws G2 ex hd)⟩
theorem pf_law_refused (h : S_law_refused K vs G M R Z) : rd_law_refused K (ends R Z) (sta 6 vs) G M := by
  obtain ⟨_, _, _, rfl, p, c, s, m, lim, drs, ds, a, B, F, M1, rfl, rfl, rfl, rfl, hp, hs, hst, q⟩ := sp3_of h
  clear h
  obtain ⟨m0, m1⟩ := stA_m hst
  refine ⟨G, _, Wk.refl, kset_of ?_⟩
  refine lit_pick (K := K) (n := 0) (ds := _) (show LitOk K _ _ _ _ by repeat (first | exact lit_int | exact lit_bl | exact lit_str | exact lit_non | exact lit_neg | exact lit_dict | exact lits_nil | apply lits_cons | apply lit_tup | apply lit_lst | apply lit_add | exact lit_var rfl (.int _) | exact lit_var rfl (by assumption) | exact lit_pow ⟨by decide, by decide, by decide⟩ | exact Nat.le_of_ble_eq_true rfl)) rfl rfl hs rfl (Nat.le_of_ble_eq_true rfl) (Nat.le_of_ble_eq_true rfl) fun v d G6 X6 c6 s6 e6 n6 hd r6 hs6 => ?_
  have r7 := r6.frz n6
  have e7 := e6.trans (frzA_ex n6)
  have hna : NoAskG K (frzA G6 X6) m v := by
    have hx : askX m d = false ∧ headX d = true ∧ ∀ l, d = .tup l → l.length ≤ 1000 := by
      clear r6 r7
      revert d
      simp only [List.forall_mem_cons]
      refine ⟨⟨rfl, rfl, fun _ z => nomatch z⟩, ⟨?_, rfl, fun l z => by cases z; exact Nat.le_of_ble_eq_true rfl⟩, ⟨Bool.and_false _, rfl, fun l z => by cases z; exact Nat.le_of_ble_eq_true rfl⟩, ⟨?_, rfl, fun l z => by cases z; exact Nat.le_of_ble_eq_true rfl⟩, ⟨rfl, rfl, fun l z => by cases z; exact Nat.le_of_ble_eq_true rfl⟩, fun _ z => nomatch z⟩
      · show (withinX (.int (m : Int)) 0 ((m : Int) - 1) && _) = false
        rw [wix_hi (by omega)]; rfl
      · show (_ && (_ && withinX (.int (10 ^ (18 : Int).toNat)) 0 999999999999999999)) = false
        have hw : withinX (.int (10 ^ (18 : Int).toNat)) 0 999999999999999999 = false := wix_hi (by decide)
        rw [hw, Bool.and_false, Bool.and_false]
    exact rp_noask r7 hx.1 hx.2.1 hx.2.2
  obtain ⟨G7, hG7⟩ : ∃ g, g = frzA G6 X6 := ⟨_, rfl⟩
  rw [← hG7] at hna e7
  refine ⟨G7, (p, pool c6 s6) :: M1, by rw [hG7]; exact frzA_wk X6 G6 _, ?_⟩
  refine ⟨G7, (p, pool c6 s6) :: M1, Wk.refl, ?_⟩
  have st7 := hst.ex e7
  have hp7 : ((p, pool c6 s6) :: M1).Perm (((p, pool c6 s6) :: F) ++ B) := hp.cons _
  obtain ⟨dx, vs, hat⟩ := seen_at (M := (p, pool c6 s6) :: M1) (stA_seen st7) (perm_sub hp7)
  refine ⟨G7, _, Wk.refl, Wy.grove.num, dx, vs, S_Store_ask K, hat, lkG_ask, m, lim, drs, a, rfl, ds, B, _, hp7, st7, .inl ⟨hna _ _ Ex.refl, ?_⟩⟩
  refine ⟨("NoAsk", true), by decide +kernel, rfl, ite2' (fun _ er fa => ?_) (fun z => by cases z)⟩
  exact ⟨_, _, Wk.refl, rfl, ("NoAsk", true), by decide +kernel, .inr upd_same, ret0 (q _ _ _ (e7.trans (Ex.new fa)))⟩
end
section
variable {K : PySem.W.Frag} {vs : List V} {G : Hp} {M : Mem} {R : KR} {Z : KX}
theorem ModsG.ex {G' : Hp} {A : Nat → ModA} {ms : List Nat} {mo : Addr} (h : ModsG K G A ms mo) (e : Ex G G') : ModsG K G' A ms mo := ⟨ex_l e h.l, fun i hi => e _ _ (h.d i hi)⟩
def handsL (ms : List Nat) (L : Nat → LF) (n : Nat) : List Dr := (List.range n).map fun i => Dr.row (handL (msN ms i) (L i))
theorem handsL_succ {ms : List Nat} {L : Nat → LF} {n : Nat} : handsL ms L (n + 1) = handsL ms L n ++ [Dr.row (handL (msN ms n) (L n))] := by unfold handsL; rw [List.range_succ, List.map_append]; rfl
theorem hand_comp {y2 y4 y5 : Option V} {x : V} {ms : List Nat} {mo : Addr} {A : Nat → ModA} {hv : Nat → List (Key × V)} {L : Nat → LF} {E : KX} (hm : ModsG K G A ms mo) (h3 : ms.length ≤ 3) (hls : ∀ i, i < ms.length → ((A i).ls, HO.dK (hv i)) ∈ M ∧ LieK (msN ms i) (hv i) (L i)) (h32 : ∀ i, i < ms.length → msN ms i ≤ 32)
    (q : ∀ (p : Addr) (us : List V) (G' : Hp), Ex G G' → DpAll K G' us ((handsL ms L ms.length).map drD) → R (.ref p) G' ((p, .lst us) :: M)) :
    kComp (kiSeq K (kVar 1)) (kgName 3) (kYes) (kCall (S_law_hand K) (kCons (kVar 3) (kNil))) [3] [some x, some (.ref mo), y2, none, y4, y5] G M R E := by
  have hml : ((List.range ms.length).map fun i => V.ref (A i).md).length = ms.length := by rw [List.length_map, List.length_range]
  refine ⟨_, lat_g hm.l, sz (by show ((List.range ms.length).map fun i => V.ref (A i).md).length ≤ _; rw [hml]; omega), fun i acc G' M' => Ex G G' ∧ M' = M ∧ DpAll K G' acc ((handsL ms L i).map drD), ⟨Ex.refl, rfl, .nil⟩, ?_, ?_, ?_⟩
  · rintro i acc G' M' _ ⟨ex, rfl, _⟩; exact lat_g (ex_l ex hm.l)
  · rintro i acc G' M' D hi _ ⟨ex, rfl, hd⟩ fD
    have hi : i < ((List.range ms.length).map fun i => V.ref (A i).md).length := hi
    rw [hml] at hi
    obtain ⟨hin, hlk⟩ := hls i hi
    obtain ⟨n, hn⟩ := List.getElem?_of_mem hin
    have hmd := ex _ _ (hm.d i hi)
    have hget : ((List.range ms.length).map fun i => V.ref (A i).md)[i]? = some (.ref (A i).md) := by rw [List.getElem?_map, List.getElem?_range hi]; rfl
    refine asg_L hget ⟨rfl, (A i).md, (A i).lv, (A i).ls, msN ms i, highN (msN ms i), n + 1, hv i, L i, rfl, hn, hmd, hlk, h32 i hi, fun p fp => ?_⟩
    have e2 := Ex.new (o := .lst (natsV (handL (msN ms i) (L i)))) fp
    refine ⟨_, _, Wk.frz0, ex.trans e2, rfl, ?_⟩
    rw [handsL_succ, List.map_append]
    exact dpall_app2 (ex_ds e2 _ hd) (.cons (.lst sql_new (dp_nats _)) .nil)
  · rintro acc G' M' p ⟨ex, rfl, hd⟩ _ fp
    have en : (srcL K mo ((List.range ms.length).map fun i => V.ref (A i).md)).n = ms.length := hml
    rw [en] at hd
    exact q p acc G' ex hd
theorem mem_fst {Mn Mn' : Mem} (h : Mn'.map (·.1) = Mn.map (·.1)) {b : Addr} {o : HO} (hb : (b, o) ∈ Mn) : ∃ (j : Nat) (o' : HO), Mn'[j]? = some (b, o') := by
  have : b ∈ Mn'.map (·.1) := by rw [h]; exact List.mem_map.mpr ⟨_, hb, rfl⟩
  obtain ⟨x, hx, e⟩ := List.mem_map.mp this
  obtain ⟨j, hj⟩ := List.getElem?_of_mem hx
  exact ⟨j, x.2, by rw [hj, ← e]⟩
theorem set_fst {Mn : Mem} {j : Nat} {b : Addr} {o o' : HO} (h : Mn[j]? = some (b, o)) : (Mn.set j (b, o')).map (·.1) = Mn.map (·.1) := by
  rw [List.map_set]
  refine List.ext_getElem? fun i => ?_
  by_cases z : i = j
  · subst z
    have hl : i < (Mn.map (·.1)).length := by rw [List.length_map]; exact (List.getElem?_eq_some_iff.mp h).1
    rw [List.getElem?_set_self hl, List.getElem?_map, h]; rfl
  · rw [List.getElem?_set_ne (fun y => z y.symm)]
theorem drm_ref {Mn : Mem} {us : List V} {l : List (List Nat)} (h : A2 (DrM Mn) us (l.map Dr.row)) {i : Nat} (hi : i < us.length) : ∃ (b : Addr) (c : List Nat), us[i]? = some (.ref b) ∧ (b, HO.lst (natsV c)) ∈ Mn := by
  have hl := h.len
  rw [List.length_map] at hl
  obtain ⟨r, hr⟩ : ∃ r, l[i]? = some r := ⟨_, List.getElem?_eq_getElem (by omega)⟩
  obtain ⟨v, hv, hvd⟩ := h.get (b := Dr.row r) (i := i) (by rw [List.getElem?_map, hr]; rfl)
  obtain ⟨b, rfl, hb⟩ := hvd
  exact ⟨b, r, hv, hb⟩
theorem pk_hands {m lim : Nat} {drs : List Dr} {ds : List Deed} {L : Nat → LF} (h : ∀ i, i < (treesN m).length → LRs (msN (treesN m) i) (grS m (leafsOf drs) ds i) (L i)) : pkA .grove m drs ds = handsL (treesN m) L (treesN m).length := by
  show ((List.range (treesN m).length).map (pocketG (treesN m) (grS m (leafsOf drs) ds))).map Dr.row = _
  unfold handsL
  rw [List.map_map]
  refine List.map_congr_left fun i hi => ?_
  show Dr.row (pocketG (treesN m) (grS m (leafsOf drs) ds) i) = _
  rw [lrs_hand (h i (List.mem_range.mp hi))]; rfl
theorem kif_or {I A B : KE} {r : KR2} {t u : KS} {D : Kd} {σ : St} {x : V} (hI : ∀ (R' : KR) (E' : KX), R' (.bl true) G M → I σ G M R' E') (hA : ∀ (R' : KR) (E' : KX), R' x G M → A σ G M R' E') (h : B σ G M (fun y G M => r x y G M (asB fun c G M => if c = true then t D σ G M else u D σ G M)) (D.x σ)) : kIf (kOr (kNot (kT I)) (kT (kBin r A B))) t u D σ G M := hI _ _ (hA _ _ h)
theorem pf_law_pockets_right (h : S_law_pockets_right K vs G M R Z) : rd_law_pockets_right K (ends R Z) (sta 6 vs) G M := by
  obtain ⟨_, _, rfl, m, lim, drs, ds, a, mo, A, hv, L, B, F, rfl, rfl, hp, st, hm, hls, q⟩ := sp2_of h
  clear h
  obtain ⟨m0, m1⟩ := stA_m st
  have hmo := msOk_trees m0 m1
  have h3 := hmo.l3
  have hpk := pk_hands (lim := lim) fun i hi => (hls i hi).2.2
  refine ⟨G, M, Wk.refl, stG_pocket st hp fun p us Mn hus _ hmn hul => ?_⟩
  have hus' : A2 (DrM Mn) us (handsL (treesN m) L (treesN m).length) := by rw [← hpk]; exact hus
  refine ⟨G, _, Wk.refl, kif_or (x := .ref p) (fun _ _ z => isi_pt PT.list (ty_lst lat_0) z) (fun _ _ z => z) ?_⟩
  refine hand_comp hm h3 (fun i hi => ⟨List.mem_cons_of_mem _ (List.mem_append.mpr (.inr (hls i hi).1)), (hls i hi).2.1⟩) (fun i hi => (hmo.ok i hi).2) fun c ws G1 ex1 hws => ?_
  refine eq_ref (n := 2) (neg := true) (dat_list (lat_cons lat_0) (drm_dat (fun x hx => List.mem_cons_of_mem _ (List.mem_cons_of_mem _ (List.mem_append.mpr (.inl hx)))) hus')) (dat_list lat_0 (dats_g hws)) (shp_drs _) (by decide) ?_
  refine ⟨G1, (p, .lst us) :: (Mn ++ M), Wk.drop0, ?_⟩
  refine ⟨us, lat_0, fun i σ G' M' => ∃ (Mn' : Mem) (y4 : Option V), σ = [some (.ref a), some (.ref mo), some (.ref p), none, y4, none] ∧ G' = G1 ∧ M' = (p, .lst us) :: (Mn' ++ M) ∧ Mn'.map (·.1) = Mn.map (·.1) ∧ ∀ x, x ∈ Mn' → ∃ l : List Nat, x.2 = .lst (natsV l) ∧ l.length ≤ 32 + i, ⟨Mn, _, rfl, rfl, rfl, rfl, fun x hx => by obtain ⟨l, h1, h2⟩ := hmn x hx; exact ⟨l, h1, by omega⟩⟩, ?_, ?_, ?_⟩
  · rintro i σ G' M' _ ⟨Mn', y4, rfl, rfl, rfl, _, _⟩; exact lat_0
  · rintro i σ G' M' hi ⟨Mn', y4, rfl, hG, rfl, hf, hl⟩
    subst hG
    have hi : i < us.length := hi
    obtain ⟨b, c0, hb, hbm⟩ := drm_ref (Mn := Mn) (us := us) hus hi
    obtain ⟨j, o, hj⟩ := mem_fst hf hbm
    obtain ⟨l, hlo, hll⟩ := hl _ (List.mem_of_getElem? hj)
    have hlo : o = .lst (natsV l) := hlo
    subst hlo
    have hjl : j < Mn'.length := (List.getElem?_eq_some_iff.mp hj).1
    have hbM : ((p, HO.lst us) :: (Mn' ++ M))[j + 1]? = some (b, .lst (natsV l)) := by
      rw [List.getElem?_cons_succ, List.getElem?_append_left hjl]; exact hj
    refine asg_L hb ⟨G', _, Wk.refl, isi_pt PT.list (ty_lst (lat_n hbM)) ?_⟩
    refine ⟨natsV l, lat_n hbM, sz (by show (natsV l).length ≤ _; rw [natsV_len]; omega), fun k acc G2 M2 => G2 = G' ∧ M2 = (p, .lst us) :: (Mn' ++ M) ∧ acc = [], ⟨rfl, rfl, rfl⟩, ?_, ?_, ?_⟩
    · rintro k acc G2 M2 _ ⟨rfl, rfl, _⟩; exact lat_n hbM
    · rintro k acc G2 M2 D hk _ ⟨rfl, rfl, rfl⟩ fD
      have hk : k < (natsV l).length := hk
      rw [natsV_len] at hk
      obtain ⟨x, hx⟩ : ∃ x, l[k]? = some x := ⟨_, List.getElem?_eq_getElem hk⟩
      exact asg_L (natsV_get hx) ⟨rfl, .int, ty_int, ⟨_, _, Wk.refl, rfl, rfl, rfl⟩⟩
    rintro acc G2 M2 e ⟨rfl, rfl, rfl⟩ _ fe
    refine ⟨sz0, fun z fz => eq_nats (l := []) (neg := true) (lat_cons lat_0) lat_0 ?_⟩
    refine ⟨G2, (p, .lst us) :: (Mn' ++ M), Wk.dropP [_, _], tyl_n (n := j + 1) hbM, j + 1, _, hbM, Nat.lt_of_le_of_lt (m := 64) (by rw [natsV_len]; omega) (by decide), ?_⟩
    have es : ((p, HO.lst us) :: (Mn' ++ M)).set (j + 1) (b, .lst (natsV l ++ [.int 7])) = (p, .lst us) :: (Mn'.set j (b, .lst (natsV (l ++ [7]))) ++ M) := by
      rw [List.set_cons_succ, List.set_append_left _ _ hjl, natsV_app2]; rfl
    rw [es]
    refine ⟨G2, _, Wk.refl, Mn'.set j (b, .lst (natsV (l ++ [7]))), _, rfl, rfl, rfl, ?_, fun x hx => ?_⟩
    · rw [set_fst hj]; exact hf
    · rcases List.mem_or_eq_of_mem_set hx with hx | rfl
      · obtain ⟨l', h1, h2⟩ := hl x hx
        exact ⟨l', h1, by omega⟩
      · exact ⟨l ++ [7], rfl, by rw [List.length_append]; show l.length + 1 ≤ _; omega⟩
  rintro σ G2 M2 ⟨Mn', y4, rfl, rfl, rfl, _, _⟩
  refine ⟨G2, _, Wk.refl, tyl_n (n := 0) rfl, sz0, fun z fz => ⟨1, us, rfl, Nat.lt_of_le_of_lt hul (by decide), ?_⟩⟩
  refine ⟨G2, M, Wk.dropP ((z, _) :: (p, _) :: Mn'), ?_⟩
  refine stG_pocket (st.ex ex1) hp fun p2 us2 Mn2 hus2 _ _ _ => ?_
  have hus2' : A2 (DrM Mn2) us2 (handsL (treesN m) L (treesN m).length) := by rw [← hpk]; exact hus2
  refine hand_comp (hm.ex ex1) h3 (fun i hi => ⟨List.mem_cons_of_mem _ (List.mem_append.mpr (.inr (hls i hi).1)), (hls i hi).2.1⟩) (fun i hi => (hmo.ok i hi).2) fun c2 ws2 G3 ex3 hws2 => ?_
  refine eq_ref (n := 2) (neg := false) (dat_list (lat_cons lat_0) (drm_dat (fun x hx => List.mem_cons_of_mem _ (List.mem_cons_of_mem _ (List.mem_append.mpr (.inl hx)))) hus2')) (dat_list lat_0 (dats_g hws2)) (shp_drs _) (by decide) ?_
  exact retW (Wk.dropP ((c2, _) :: (p2, _) :: Mn2)) (q G3 (ex1.trans ex3))
end
section
variable {K : PySem.W.Frag} {vs : List V} {G : Hp} {M : Mem} {R : KR} {Z : KX}
def highL (m i : Nat) : List Nat := (List.range i).filter fun k => decide (2 ^ k < m)
theorem highL_succ (m i : Nat) : highL m (i + 1) = highL m i ++ if decide (2 ^ i < m) = true then [i] else [] := by
  unfold highL
  rw [List.range_succ, List.filter_append]
  congr 1
  rw [List.filter_cons]
  split <;> rfl
theorem modsM_succ {A : Nat → ModA} {tb : Nat → List Nat} {hv : Nat → List (Key × V)} {n : Nat} : modsM A tb hv (n + 1) = modsM A tb hv n ++ modC A tb hv n := by unfold modsM; rw [List.range_succ, List.flatMap_append, List.flatMap_singleton]
theorem modsM_congr {A A' : Nat → ModA} {tb tb' : Nat → List Nat} {hv hv' : Nat → List (Key × V)} {n : Nat} (h : ∀ i, i < n → modC A tb hv i = modC A' tb' hv' i) : modsM A tb hv n = modsM A' tb' hv' n := by
  induction n with
  | zero => rfl
  | succ n ih => rw [modsM_succ, modsM_succ, ih fun i hi => h i (by omega), h n (by omega)]
theorem cells_while {D : Kd} {p r : Addr} {m w : Nat} {c s : Int} {F : Mem} (m1 : m ≤ 32)
    (q : ∀ cl : Addr, D.nx [some (.ref p), some (.int (m : Nat)), some (.int (w : Nat)), some (.ref r), some (.ref cl), none, none, none, none] G ((cl, .lst (natsV (treesN m))) :: (r, .lst []) :: (p, pool c s) :: F)) {cl : Addr} :
    kWhile (kT (kBin (kI0 fun i j => .bl (decide (j < i))) (kBin (kIx K) (kVar 4) (kUn kNeg (kC (.int 1)))) (kC (.int 4)))) (rd_law_models_b0 K) D [some (.ref p), some (.int (m : Nat)), some (.int (w : Nat)), some (.ref r), some (.ref cl), none, none, none, none] G ((cl, .lst (natsV [m])) :: (r, .lst []) :: (p, pool c s) :: F) := by
  refine ⟨fun k σ G' M' => ∃ (l : List Nat) (v : Nat) (cl : Addr), σ = [some (.ref p), some (.int (m : Nat)), some (.int (w : Nat)), some (.ref r), some (.ref cl), none, none, none, none] ∧ G' = G ∧ M' = (cl, .lst (natsV (l ++ [v]))) :: (r, .lst []) :: (p, pool c s) :: F ∧ treesN m = l ++ trN k v ∧ v ≤ 4 * 4 ^ k ∧ l.length + k ≤ 3, ⟨3, [], m, cl, rfl, rfl, rfl, rfl, by omega, by simp⟩, ?_⟩
  rintro k σ G' M' ⟨l, v, cl, rfl, rfl, rfl, e, hv, hlk⟩
  refine ⟨natsV (l ++ [v]), _, seq_0, atI_last, ?_⟩
  refine ite2' (c := decide ((4 : Int) < (v : Int))) (fun e1 => ?_) (fun e1 => ?_)
  · have e1 := of_decide_eq_true e1
    cases k with
    | zero => exfalso; rw [Nat.pow_zero] at hv; omega
    | succ k =>
      have et : trN (k + 1) v = v :: trN k ((v + 3) / 4) := by rw [trN, if_pos (by omega)]
      refine ⟨G', _, Wk.refl, natsV (l ++ [v]), _, seq_0, atI_last, divW (by decide) (by decide) _, sz1, fun z fz => ?_⟩
      refine ⟨_, _, .inl (List.mem_cons_of_mem _ List.mem_cons_self), .inl List.mem_cons_self, sz (by rw [natsV_len, List.length_append]; show l.length + 1 + 1 ≤ _; omega), fun p2 fp2 => ?_⟩
      refine ⟨k, by omega, G', (p2, .lst (natsV (l ++ [v]) ++ [.int (((v : Int) + 3) / 4)])) :: (r, .lst []) :: (p, pool c s) :: F, ?_, l ++ [v], (v + 3) / 4, p2, rfl, rfl, ?_, ?_, ?_, by simp; omega⟩
      · exact (Wk.perm (M' := (z, .lst [.int (((v : Int) + 3) / 4)]) :: (cl, .lst (natsV (l ++ [v]))) :: (p2, .lst (natsV (l ++ [v]) ++ [.int (((v : Int) + 3) / 4)])) :: (r, .lst []) :: (p, pool c s) :: F) (by (classical (rw [List.perm_iff_count]; intro x; simp only [List.set_cons_zero, List.set_cons_succ, List.cons_append, List.nil_append, List.append_assoc, List.append_eq, List.count_append, List.count_cons, List.count_nil] <;> omega)))).trans (Wk.dropP [_, _])
      · have ev : ((v : Int) + 3) / 4 = (((v + 3) / 4 : Nat) : Int) := by omega
        rw [ev]; unfold natsV; simp only [List.map_append]; rfl
      · rw [e, et, List.append_assoc]; rfl
      · rw [Nat.pow_succ] at hv; omega
  · have e1 := of_decide_eq_false e1
    have et : trN k v = [v] := by
      cases k with
      | zero => rfl
      | succ k => rw [trN, if_neg (by omega)]
    rw [← et, ← e]
    exact q cl
theorem pf_law_models (h : S_law_models K vs G M R Z) : rd_law_models K (ends R Z) (sta 9 vs) G M := by
  obtain ⟨_, _, _, rfl, p, c, s, m, w, F, rfl, rfl, rfl, rfl, hs, m0, m1, w0, w1, q⟩ := sp3_of h
  clear h
  have hmo := msOk_trees m0 m1
  have h3 := hmo.l3
  refine ⟨G, _, Wk.refl, sz0, fun r fr => ?_⟩
  refine ⟨G, _, Wk.refl, sz1, fun cl0 fcl => ?_⟩
  refine ⟨G, _, Wk.refl, cells_while m1 fun cl => ?_⟩
  obtain ⟨ts, hts⟩ : ∃ ts, ts = treesN m := ⟨_, rfl⟩
  rw [← hts] at hmo h3 q ⊢
  have htl : (natsV ts).length = ts.length := natsV_len ts
  refine ⟨G, (p, pool c s) :: (cl, .lst (natsV ts)) :: (r, .lst []) :: F, Wk.perm (by (classical (rw [List.perm_iff_count]; intro x; simp only [List.set_cons_zero, List.set_cons_succ, List.cons_append, List.nil_append, List.append_assoc, List.append_eq, List.count_append, List.count_cons, List.count_nil] <;> omega))), natsV ts, lat_cons lat_0, fun i σ G' M' => ∃ (A : Nat → ModA) (tb : Nat → List Nat) (c' s' : Int) (y5 y6 y7 : Option V), σ = [some (.ref p), some (.int (m : Nat)), some (.int (w : Nat)), some (.ref r), some (.ref cl), y5, y6, y7, none] ∧ Ex G G' ∧ G' r = none ∧ PoolOk s' ∧ M' = (p, pool c' s') :: (cl, .lst (natsV ts)) :: (r, .lst ((List.range i).map fun j => .ref (A j).md)) :: (modsM A tb (fun _ => []) i ++ F) ∧
    (∀ j, j < i → G' (A j).md = some (.dK (mdK (highN (msN ts j)) (A j).lv (A j).ls))) ∧ ∀ j, j < i → (tb j).length = msN ts j ∧ ∀ x, x ∈ tb j → x < 2 ^ highN (msN ts j), ⟨fun _ => ⟨p, p, p⟩, fun _ => [], c, s, _, _, _, rfl, Ex.refl, fr.1, hs, rfl, fun _ z => (nomatch z), fun _ z => (nomatch z)⟩, ?_, ?_, ?_⟩
  · rintro i σ G' M' _ ⟨A, tb, c', s', y5, y6, y7, rfl, _, _, _, rfl, _, _⟩; exact lat_cons lat_0
  · rintro i σ G' M' hi ⟨A, tb, c1, s1, y5, y6, y7, rfl, ex, hr0, hs1, rfl, hmd, htb⟩
    have hi : i < (natsV ts).length := hi
    rw [htl] at hi
    obtain ⟨k, hk⟩ : ∃ k, k = msN ts i := ⟨_, rfl⟩
    have hk2 := hmo.ok i hi
    rw [← hk] at hk2
    have hget : ts[i]? = some k := by rw [hk]; unfold msN; rw [List.getD_eq_getElem?_getD, List.getElem?_eq_getElem hi]; rfl
    refine asg_L (natsV_get hget) ⟨G', _, Wk.refl, ?_⟩
    refine ⟨by decide, sz (by decide), fun j acc G2 M2 => G2 = G' ∧ M2 = (p, pool c1 s1) :: (cl, .lst (natsV ts)) :: (r, .lst ((List.range i).map fun j => .ref (A j).md)) :: (modsM A tb (fun _ => []) i ++ F) ∧ acc = natsV (highL k j), ⟨rfl, rfl, rfl⟩, fun _ _ _ _ _ _ => trivial, ?_, ?_⟩
    · rintro j acc G2 M2 D hj _ ⟨rfl, rfl, rfl⟩ fD
      have hj : j < 6 := hj
      refine ⟨rfl, ⟨by omega, by omega, by decide⟩, ?_⟩
      have ec : decide ((1 : Int) * 2 ^ ((0 : Int) + (j : Int)).toNat < (k : Int)) = decide (2 ^ j < k) := by
        rw [show ((0 : Int) + (j : Int)).toNat = j by omega, Int.one_mul]
        refine decide_eq_decide.mpr ?_
        have : ((2 ^ j : Nat) : Int) = (2 : Int) ^ j := by simp
        rw [← this]; omega
      show if decide ((1 : Int) * 2 ^ ((0 : Int) + (j : Int)).toNat < (k : Int)) = true then _ else _
      rw [ec]
      refine ite2' (fun e => ⟨_, _, Wk.refl, rfl, rfl, ?_⟩) (fun e => ⟨_, _, Wk.refl, rfl, rfl, ?_⟩)
      · rw [highL_succ, if_pos e, natsV_app2]
        show _ ++ [V.int ((0 : Int) + (j : Int))] = _
        rw [show (0 : Int) + (j : Int) = (j : Int) by omega]; rfl
      · rw [highL_succ, if_neg (by rw [e]; decide), List.append_nil]
    rintro acc G2 M2 wl ⟨rfl, rfl, rfl⟩ _ fw
    refine ⟨_, seq_0, ?_⟩
    have eh : (natsV (highL k 6)).length = highN k := by rw [natsV_len]; rfl
    have hh : highN k ≤ 5 := high_le5 k hk2.2
    show rd_law_models_b1_1 K _ [some (.ref p), some (.int (m : Nat)), some (.int (w : Nat)), some (.ref r), some (.ref cl), some (.int (k : Nat)), some (.int ((natsV (highL k 6)).length : Nat)), y7, none] G2 _
    rw [eh]
    have p2 : (1 : Int) * 2 ^ ((highN k : Nat) : Int).toNat = ((2 ^ highN k : Nat) : Int) := by rw [Int.toNat_natCast, Int.one_mul]; simp
    have p64 : 2 ^ highN k ≤ 32 := Nat.pow_le_pow_right (n := 2) (by decide) hh
    have p1 : 1 ≤ 2 ^ highN k := Nat.one_le_two_pow
    have cp : CPow 1 ((highN k : Nat) : Int) := ⟨by omega, by omega, by decide⟩
    refine ⟨G2, _, Wk.drop0, ⟨by omega, by omega⟩, sz (by show ((k : Nat) : Int).toNat ≤ _; omega), fun j acc G3 M3 => ∃ (l : List Nat) (c' s' : Int), G3 = G2 ∧ M3 = (p, pool c' s') :: (cl, .lst (natsV ts)) :: (r, .lst ((List.range i).map fun j => .ref (A j).md)) :: (modsM A tb (fun _ => []) i ++ F) ∧ PoolOk s' ∧ l.length = j ∧ acc = natsV l ∧ ∀ x, x ∈ l → x < 2 ^ highN k, ⟨[], c1, s1, rfl, rfl, hs1, rfl, rfl, fun _ z => nomatch z⟩, fun _ _ _ _ _ _ => trivial, ?_, ?_⟩
    · rintro j acc G2 M2 D hj _ ⟨l, c3, s3, rfl, rfl, hs3, rfl, rfl, hlk⟩ fD
      refine ⟨rfl, cp, p, _, 1, c3, s3, rfl, rfl, rfl, hs3, by rw [p2]; omega, by rw [p2]; omega, fun r2 c4 s4 r0 r1 hs4 => ⟨(by show (0 : Int) < _; omega), ?_⟩⟩
      rw [p2] at r1
      obtain ⟨v, rfl⟩ := Int.eq_ofNat_of_zero_le r0
      have ev : ((v : Int) % (w : Int)) = ((v % w : Nat) : Int) := by omega
      refine ⟨G2, (p, pool c4 s4) :: (cl, .lst (natsV ts)) :: (r, .lst ((List.range i).map fun j => .ref (A j).md)) :: (modsM A tb (fun _ => []) i ++ F), Wk.refl, l ++ [v % w], c4, s4, rfl, rfl, hs4, by rw [List.length_append]; rfl, by rw [natsV_app2]; show natsV l ++ [V.int ((v : Int) % (w : Int))] = _; rw [ev]; rfl, fun x hx => ?_⟩
      rcases List.mem_append.mp hx with hx | hx
      · exact hlk x hx
      · have : x = v % w := by simpa using hx
        have := Nat.mod_le v w
        omega
    rintro acc G2 M2 lv ⟨l, c3, s3, rfl, rfl, hs3, hll, rfl, hlk⟩ _ flv
    have hll : l.length = k := hll
    refine ⟨G2, _, Wk.refl, tyl_n (n := 3) rfl, fun md fmd => ?_⟩
    refine fun ls fls => ⟨1, mdK (highN k) lv ls, rfl, rfl, by show 3 ≤ 15; decide, ?_⟩
    have em : mergeK [] (mdK (highN k) lv ls) = mdK (highN k) lv ls := rfl
    rw [em]
    have hrl : ((List.range i).map fun j => V.ref (A j).md).length = i := by rw [List.length_map, List.length_range]
    refine ⟨5, _, rfl, Nat.lt_of_le_of_lt (m := 3) (by rw [hrl]; omega) (by decide), ?_⟩
    obtain ⟨A', hA'⟩ : ∃ A' : Nat → ModA, A' = fun j => if j = i then ⟨md, lv, ls⟩ else A j := ⟨_, rfl⟩
    obtain ⟨tb', htb'⟩ : ∃ tb' : Nat → List Nat, tb' = fun j => if j = i then l else tb j := ⟨_, rfl⟩
    have a1 : ∀ j, j < i → A' j = A j := fun j hj => by rw [hA']; exact if_neg (by omega)
    have a2 : A' i = ⟨md, lv, ls⟩ := by rw [hA']; exact if_pos rfl
    have t1 : ∀ j, j < i → tb' j = tb j := fun j hj => by rw [htb']; exact if_neg (by omega)
    have t2 : tb' i = l := by rw [htb']; exact if_pos rfl
    have em1 : modsM A tb (fun _ => []) i = modsM A' tb' (fun _ => []) i := modsM_congr fun j hj => by unfold modC; rw [a1 j hj, t1 j hj]
    have em2 : modC A' tb' (fun _ => []) i = [(lv, .lst (natsV l)), (ls, .dK [])] := by unfold modC; rw [a2, t2]
    have er : ((List.range i).map fun j => V.ref (A j).md) ++ [V.ref md] = (List.range (i + 1)).map fun j => V.ref (A' j).md := by
      rw [List.range_succ, List.map_append]
      congr 1
      · exact List.map_congr_left fun j hj => by rw [a1 j (List.mem_range.mp hj)]
      · show _ = [V.ref (A' i).md]
        rw [a2]
    have fmd2 : Fr G2 [] md := ⟨fmd.1, fun _ z => (nomatch z)⟩
    have ex4 := Ex.new (o := .dK (mdK (highN k) lv ls)) fmd2
    refine ⟨_, _, Wk.trans (Wk.perm (M' := (md, .dK (mdK (highN k) lv ls)) :: (p, pool c3 s3) :: (cl, .lst (natsV ts)) :: (r, .lst ((List.range (i + 1)).map fun j => V.ref (A' j).md)) :: (modsM A' tb' (fun _ => []) (i + 1) ++ F)) ?_) Wk.frz0, A', tb', c3, s3, _, _, _, rfl, ex.trans ex4, (upd_ne (fmd.2 (r, .lst ((List.range i).map fun j => .ref (A j).md)) (by simp))).trans hr0, hs3, rfl, fun j hj => ?_, fun j hj => ?_⟩
    · rw [modsM_succ, em2, ← em1, ← er]
      show List.Perm _ ((ls, HO.dK []) :: (md, HO.dK (mdK (highN k) lv ls)) :: (lv, HO.lst (natsV l)) :: (p, pool c3 s3) :: (cl, HO.lst (natsV ts)) :: (r, HO.lst (((List.range i).map fun j => V.ref (A j).md) ++ [V.ref md])) :: (modsM A tb (fun _ => []) i ++ F))
      (classical (rw [List.perm_iff_count]; intro x; simp only [List.set_cons_zero, List.set_cons_succ, List.cons_append, List.nil_append, List.append_assoc, List.append_eq, List.count_append, List.count_cons, List.count_nil] <;> omega))
    · by_cases z : j = i
      · subst z; rw [a2, ← hk]; exact upd_same
      · rw [a1 j (by omega)]; exact ex4 _ _ (hmd j (by omega))
    · by_cases z : j = i
      · subst z; rw [t2, ← hk]; exact ⟨hll, hlk⟩
      · rw [t1 j (by omega)]; exact htb j (by omega)
  rintro σ G' M' ⟨A, tb, c1, s1, y5, y6, y7, rfl, ex, hr0, hs1, rfl, hmd, htb⟩
  have en : (srcL K cl (natsV ts)).n = ts.length := htl
  rw [en] at hmd htb
  rw [en]
  obtain ⟨xs, hxs⟩ : ∃ xs, xs = (List.range ts.length).map fun j => V.ref (A j).md := ⟨_, rfl⟩
  have exr := Ex.new (o := .lst xs) (show Fr G' [] r from ⟨hr0, fun _ z => (nomatch z)⟩)
  refine ⟨G', _, Wk.refl, retW (G' := upd G' r (.lst xs)) (M' := modsM A tb (fun _ => []) ts.length ++ ((p, pool c1 s1) :: F)) ?_ (q r A tb c1 s1 _ (ex.trans exr) hs1 ⟨by rw [← hxs]; exact sql_new, fun j hj => exr _ _ (hmd j hj)⟩ htb)⟩
  rw [← hxs]
  exact (Wk.perm (M' := (cl, .lst (natsV ts)) :: (r, .lst xs) :: (modsM A tb (fun _ => []) ts.length ++ ((p, pool c1 s1) :: F))) (by (classical (rw [List.perm_iff_count]; intro x; simp only [List.set_cons_zero, List.set_cons_succ, List.cons_append, List.nil_append, List.append_assoc, List.append_eq, List.count_append, List.count_cons, List.count_nil] <;> omega)))).trans (Wk.drop0.trans Wk.frz0)
end
section
/-! ### the law's draws: leaves of all trees, then a row for each ask -/
def drsL (ms : List Nat) (tb : Nat → List Nat) (rows : List (List Nat)) : List Nat := (List.range ms.length).flatMap tb ++ rows.flatten
theorem msN_get {ms : List Nat} {i : Nat} (h : i < ms.length) : ms[i]? = some (msN ms i) := by unfold msN; rw [List.getD_eq_getElem?_getD, List.getElem?_eq_getElem h]; rfl
theorem startG_succ {ms : List Nat} {i : Nat} (h : i < ms.length) : startG ms (i + 1) = startG ms i + msN ms i := by
  unfold startG
  rw [take_succ' (msN_get h), List.sum_append]
  simp
theorem flat_len {ms : List Nat} {tb : Nat → List Nat} (h : ∀ i, i < ms.length → (tb i).length = msN ms i) : ∀ i, i ≤ ms.length → ((List.range i).flatMap tb).length = startG ms i
  | 0, _ => by unfold startG; simp
  | i + 1, hi => by
    rw [List.range_succ, List.flatMap_append, List.length_append, flat_len h i (by omega), startG_succ (by omega), List.flatMap_singleton, h i (by omega)]
theorem flat_split {n i : Nat} (tb : Nat → List Nat) (h : i < n) : ∃ Y, (List.range n).flatMap tb = (List.range i).flatMap tb ++ (tb i ++ Y) := by
  obtain ⟨r, rfl⟩ : ∃ r, n = i + (r + 1) := ⟨n - i - 1, by omega⟩
  rw [List.range_add, List.flatMap_append, List.range_succ_eq_map, List.map_cons, List.flatMap_cons]
  exact ⟨_, rfl⟩
theorem tab_drs {ms : List Nat} {tb : Nat → List Nat} {rows : List (List Nat)} (h : ∀ i, i < ms.length → (tb i).length = msN ms i) {i : Nat} (hi : i < ms.length) : tab0 ms (drsL ms tb rows) i = tb i := by
  unfold tab0 drsL
  obtain ⟨Y, hY⟩ := flat_split tb hi
  rw [hY, List.append_assoc, List.append_assoc, List.drop_left' (flat_len h i (by omega)), List.take_left' (h i hi)]
theorem flat_get {n i : Nat} (hi : i < n) : ∀ (rows : List (List Nat)) (k : Nat), (∀ r, r ∈ rows → r.length = n) → rows.flatten.getD (k * n + i) 0 = (rows.getD k []).getD i 0
  | [], k, _ => by simp
  | r :: rows, 0, h => by
    have hr := h r List.mem_cons_self
    rw [List.flatten_cons, List.getD_eq_getElem?_getD, List.getElem?_append_left (by omega), Nat.zero_mul, Nat.zero_add]
    simp
  | r :: rows, k + 1, h => by
    have hr := h r List.mem_cons_self
    have ih := flat_get hi rows k fun x hx => h x (List.mem_cons_of_mem _ hx)
    rw [List.getD_eq_getElem?_getD] at ih ⊢
    rw [List.flatten_cons, List.getElem?_append_right (by rw [hr, Nat.succ_mul]; omega), hr, show (k + 1) * n + i - n = k * n + i by rw [Nat.succ_mul]; omega, ih]
    rfl
theorem sum_start {ms : List Nat} : startG ms ms.length = ms.sum := by unfold startG; rw [List.take_length]
theorem fresh_drs {ms : List Nat} {tb : Nat → List Nat} {rows : List (List Nat)} (h : ∀ i, i < ms.length → (tb i).length = msN ms i) (hr : ∀ r, r ∈ rows → r.length = ms.length) {k i : Nat} (hi : i < ms.length) : freshN ms (drsL ms tb rows) k i = (rows.getD k []).getD i 0 := by
  unfold freshN drsL
  have hl := flat_len h ms.length (Nat.le_refl _)
  rw [sum_start] at hl
  rw [List.getD_eq_getElem?_getD, List.getElem?_append_right (by rw [hl]; omega), hl, show ms.sum + k * ms.length + i - ms.sum = k * ms.length + i by omega, ← List.getD_eq_getElem?_getD]
  exact flat_get hi rows k hr
theorem flat_rlen {n : Nat} : ∀ rows : List (List Nat), (∀ r, r ∈ rows → r.length = n) → rows.flatten.length = rows.length * n
  | [], _ => by simp
  | r :: rows, h => by
    rw [List.flatten_cons, List.length_append, flat_rlen rows fun x hx => h x (List.mem_cons_of_mem _ hx), h r List.mem_cons_self, List.length_cons, Nat.succ_mul, Nat.add_comm]
structure RowsOk (ms : List Nat) (rows : List (List Nat)) : Prop where
  len : ∀ r, r ∈ rows → r.length = ms.length
  lt : ∀ r, r ∈ rows → ∀ i, i < ms.length → r.getD i 0 < 2 ^ highN (msN ms i)
theorem grD_drs {ms : List Nat} {tb : Nat → List Nat} {rows : List (List Nat)} (h : TbOk ms tb) (hr : RowsOk ms rows) : GrD ms (drsL ms tb rows) rows.length := by
  have hl : ∀ i, i < ms.length → (tb i).length = msN ms i := fun i hi => (h i hi).1
  refine ⟨?_, fun i hi x hx => ?_, fun i n hi hn => ?_⟩
  · unfold drsL
    rw [List.length_append, flat_len hl ms.length (Nat.le_refl _), sum_start, flat_rlen rows hr.len]
  · have : x ∈ tab0 ms (drsL ms tb rows) i := hx
    rw [tab_drs hl hi] at this
    exact (h i hi).2 x this
  · rw [fresh_drs hl hr.len hi]
    refine hr.lt _ ?_ i hi
    rw [List.getD_eq_getElem?_getD, List.getElem?_eq_getElem hn]
    exact List.getElem_mem _
def setF {α : Type} (f : Nat → α) (i : Nat) (x : α) : Nat → α := fun j => if j = i then x else f j
theorem setF_eq {α : Type} {f : Nat → α} {i : Nat} {x : α} : setF f i x i = x := if_pos rfl
theorem setF_ne {α : Type} {f : Nat → α} {i j : Nat} {x : α} (h : j ≠ i) : setF f i x j = f j := if_neg h
/-- one of the models amid all -/
theorem mods_split {A : Nat → ModA} {tb : Nat → List Nat} {hv : Nat → List (Key × V)} {n i : Nat} (h : i < n) : ∃ X : Mem, (modsM A tb hv n).Perm (modC A tb hv i ++ X) ∧ ∀ t k, (modC A (setF tb i t) (setF hv i k) i ++ X).Perm (modsM A (setF tb i t) (setF hv i k) n) := by
  obtain ⟨r, rfl⟩ : ∃ r, n = i + (r + 1) := ⟨n - i - 1, by omega⟩
  have e : ∀ (tb : Nat → List Nat) (hv : Nat → List (Key × V)), modsM A tb hv (i + (r + 1)) = modsM A tb hv i ++ (modC A tb hv i ++ ((List.range r).map fun j => i + (j + 1)).flatMap (modC A tb hv)) := fun tb hv => by
    unfold modsM
    rw [List.range_add, List.flatMap_append, List.range_succ_eq_map, List.map_cons, List.flatMap_cons, List.map_map]; rfl
  refine ⟨modsM A tb hv i ++ ((List.range r).map fun j => i + (j + 1)).flatMap (modC A tb hv), ?_, fun t k => ?_⟩
  · rw [e]
    exact (List.perm_append_comm_assoc _ _ _)
  · rw [e]
    have e1 : modsM A (setF tb i t) (setF hv i k) i = modsM A tb hv i := modsM_congr fun j hj => by unfold modC; rw [setF_ne (by omega), setF_ne (by omega)]
    have e2 : ((List.range r).map fun j => i + (j + 1)).flatMap (modC A (setF tb i t) (setF hv i k)) = ((List.range r).map fun j => i + (j + 1)).flatMap (modC A tb hv) := by
      rw [List.flatMap_def, List.flatMap_def]
      congr 1
      refine List.map_congr_left fun j hj => ?_
      obtain ⟨x, _, rfl⟩ := List.mem_map.mp hj
      unfold modC; rw [setF_ne (by omega), setF_ne (by omega)]
    rw [e1, e2]
    exact (List.perm_append_comm_assoc _ _ _)
theorem mods_in {A : Nat → ModA} {tb : Nat → List Nat} {hv : Nat → List (Key × V)} {n i : Nat} (h : i < n) : ((A i).lv, HO.lst (natsV (tb i))) ∈ modsM A tb hv n ∧ ((A i).ls, HO.dK (hv i)) ∈ modsM A tb hv n := by
  unfold modsM
  constructor
  · exact List.mem_flatMap.mpr ⟨i, List.mem_range.mpr h, by unfold modC; simp⟩
  · exact List.mem_flatMap.mpr ⟨i, List.mem_range.mpr h, by unfold modC; simp⟩
end
section
variable {K : PySem.W.Frag} {vs : List V} {G : Hp} {M : Mem} {R : KR} {Z : KX}
theorem div3 {i : Nat} (h : i < 3) : ∃ z : Int, atI [V.int 1, .int 4, .int 16] (i : Int) = some (.int z) ∧ 0 < z ∧ z < 100 ∧ ∀ c : Nat, ((c : Int) / z) = ((cellI c i : Nat) : Int) := by
  match i, h with
  | 0, _ => exact ⟨1, rfl, by decide, by decide, fun c => by unfold cellI; simp⟩
  | 1, _ => exact ⟨4, rfl, by decide, by decide, fun c => by unfold cellI; simp⟩
  | 2, _ => exact ⟨16, rfl, by decide, by decide, fun c => by unfold cellI; simp⟩
theorem b3_step {D : Kd} {a0 mo fr gr du T b : Addr} {y1 y4 y6 y7 y14 : Option V} {m lim k i : Nat} {ms : List Nat} {A : Nat → ModA} {tb : Nat → List Nat} {hv : Nat → List (Key × V)} {L : LF} {d : Deed} {us fus : List V} {row : List Nat} {ts : List Tch} {X : Mem}
    (hm : ModsG K G A ms mo) (h3 : ms.length ≤ 3) (hi : i < ms.length) (h32 : 1 ≤ msN ms i ∧ msN ms i ≤ 32) (hc : cellI d.cell i < msN ms i) (hdc : d.cell < 32) (hT : SqT K G T d.vs) (hb : fus[k]? = some (.ref b)) (hrow : SqL K G b (natsV row)) (hrl : row.length = ms.length) (hrf : row.getD i 0 < 2 ^ highN (msN ms i)) (htb : (tb i).length = msN ms i ∧ ∀ x, x ∈ tb i → x < 2 ^ highN (msN ms i)) (hlk : LieK (msN ms i) (hv i) L) (hus : DpAll K G us (ts.map tchD)) (hul : us.length ≤ 400000)
    (q : ∀ (G' : Hp) (us' : List V) (h' : List (Key × V)), Ex G G' → DpAll K G' us' ((ts ++ wayT i (highN (msN ms i)) ((tb i).getD (cellI d.cell i) 0)).map tchD) → us'.length ≤ us.length + 24 → LieK (msN ms i) h' (goL (msN ms i) (highN (msN ms i)) (tb i) (cellI d.cell i) (row.getD i 0) L) →
      ∀ M', Wk G' M' G' ((du, .lst us') :: (fr, .lst fus) :: (modsM A (setF tb i ((tb i).set (cellI d.cell i) (row.getD i 0))) (setF hv i h') ms.length ++ X)) → D.nx [some (.ref a0), y1, some (.int (m : Nat)), some (.int (lim : Nat)), y4, some (.ref mo), y6, y7, some (.ref fr), some (.int (k : Nat)), some (.ref gr), some (.ref du), some (.ref T), some (.int (i : Nat)), some (.int (cellI d.cell i : Nat))] G' M') :
    rd_law_b3 K D [some (.ref a0), y1, some (.int (m : Nat)), some (.int (lim : Nat)), y4, some (.ref mo), y6, y7, some (.ref fr), some (.int (k : Nat)), some (.ref gr), some (.ref du), some (.ref T), some (.int (i : Nat)), y14] G ((du, .lst us) :: (fr, .lst fus) :: (modsM A tb hv ms.length ++ X)) := by
  obtain ⟨z, hz, z0, z1, hzc⟩ := div3 (i := i) (by omega)
  have hvc : atI d.vs 1 = some (.int (d.cell : Nat)) := by cases d <;> rfl
  refine ⟨G, _, Wk.refl, d.vs, _, .inr hT, hvc, sz3, fun l fl => ⟨_, _, lst_n (n := 0) rfl, hz, ?_⟩⟩
  have h2p : (100 : Int) < 2 ^ 200 := by decide
  refine ⟨divW z0 (by omega) _, ?_⟩
  show rd_law_b3_1 K D [some (.ref a0), y1, some (.int (m : Nat)), some (.int (lim : Nat)), y4, some (.ref mo), y6, y7, some (.ref fr), some (.int (k : Nat)), some (.ref gr), some (.ref du), some (.ref T), some (.int (i : Nat)), some (.int ((d.cell : Int) / z))] G _
  rw [hzc]
  have hmd := hm.d i hi
  have hget : atI ((List.range ms.length).map fun i => V.ref (A i).md) (i : Int) = some (.ref (A i).md) := atI_nat (by rw [List.getElem?_map, List.getElem?_range hi]; rfl)
  have hmi := mods_in (A := A) (tb := tb) (hv := hv) hi
  have hh := high_le5 _ h32.2
  have hlf : (tb i).getD (cellI d.cell i) 0 < 2 ^ highN (msN ms i) := htb.2 _ (getD_mem (by rw [htb.1]; exact hc))
  refine ⟨G, (du, .lst us) :: (fr, .lst fus) :: (modsM A tb hv ms.length ++ X), Wk.drop0, tyl_n (n := 0) rfl, ?_⟩
  refine ⟨_, _, .inl (lat_g hm.l), hget, _, Sum.inr "high", _, .inr hmd, rfl, rfl, ?_⟩
  refine ⟨_, _, .inl (lat_g hm.l), hget, _, Sum.inr "leaves", _, .inr hmd, rfl, rfl, _, _, .inl (.inl (List.mem_cons_of_mem _ (List.mem_cons_of_mem _ (List.mem_append.mpr (.inl hmi.1))))), atI_natD (by rw [htb.1]; exact hc), ?_⟩
  refine ⟨i, highN (msN ms i), (tb i).getD (cellI d.cell i) 0, rfl, rfl, rfl, by omega, hlf, fun p ws G1 ex1 hws => ?_⟩
  have hwl : ws.length ≤ 24 := by rw [dpall_len hws, List.length_map, way_len]; omega
  refine ⟨1, us, ws, rfl, .inl List.mem_cons_self, sz (by omega), ?_⟩
  obtain ⟨Y, hY1, hY2⟩ := mods_split (A := A) (tb := tb) (hv := hv) hi
  have hm1 := hm.ex ex1
  have hcx : modC A tb hv i = [((A i).lv, .lst (natsV (tb i))), ((A i).ls, .dK (hv i))] := rfl
  refine ⟨G1, ((A i).lv, .lst (natsV (tb i))) :: ((A i).ls, .dK (hv i)) :: (Y ++ ((du, .lst (us ++ ws)) :: (fr, .lst fus) :: X)), ?_, ?_⟩
  · refine Wk.trans Wk.drop0 (Wk.perm ?_)
    show List.Perm _ ((du, HO.lst (us ++ ws)) :: (fr, HO.lst fus) :: (modsM A tb hv ms.length ++ X))
    refine List.Perm.trans ?_ ((((hY1.symm).append_right X).cons _).cons _)
    rw [hcx]; (classical (rw [List.perm_iff_count]; intro x; simp only [List.set_cons_zero, List.set_cons_succ, List.cons_append, List.nil_append, List.append_assoc, List.append_eq, List.count_append, List.count_cons, List.count_nil] <;> omega))
  refine ⟨_, _, .inl (lat_g hm1.l), hget, ?_⟩
  have hin : ∀ x, x ∈ ((A i).lv, HO.lst (natsV (tb i))) :: ((A i).ls, HO.dK (hv i)) :: (Y ++ ((du, .lst (us ++ ws)) :: (fr, .lst fus) :: X)) ↔ x ∈ ((A i).lv, HO.lst (natsV (tb i))) :: ((A i).ls, HO.dK (hv i)) :: (Y ++ ((du, .lst (us ++ ws)) :: (fr, .lst fus) :: X)) := fun _ => Iff.rfl
  refine ⟨fus, _, .inl (.inl (by simp)), atI_nat hb, natsV row, _, .inl (lat_g (ex_l ex1 hrow)), atI_natD (by rw [hrl]; exact hi), ?_⟩
  refine ⟨(A i).md, (A i).lv, (A i).ls, msN ms i, highN (msN ms i), cellI d.cell i, row.getD i 0, tb i, hv i, L, _, rfl, rfl, rfl, rfl, hm1.d i hi, hlk, htb.1, h32.2, by omega, htb.2, hrf, hc, fun h' hlk' => ?_⟩
  refine q G1 (us ++ ws) h' ex1 ?_ (by rw [List.length_append]; omega) hlk' _ (Wk.perm ?_)
  · rw [List.map_append]
    exact dpall_app2 (ex_ds ex1 _ hus) hws
  · have h2 := hY2 ((tb i).set (cellI d.cell i) (row.getD i 0)) h'
    have hcx2 : modC A (setF tb i ((tb i).set (cellI d.cell i) (row.getD i 0))) (setF hv i h') i = [((A i).lv, .lst (natsV ((tb i).set (cellI d.cell i) (row.getD i 0)))), ((A i).ls, .dK h')] := by unfold modC; rw [setF_eq, setF_eq]
    refine List.Perm.trans ((((h2.symm).append_right X).cons _).cons _) ?_
    rw [hcx2]; (classical (rw [List.perm_iff_count]; intro x; simp only [List.set_cons_zero, List.set_cons_succ, List.cons_append, List.nil_append, List.append_assoc, List.append_eq, List.count_append, List.count_cons, List.count_nil] <;> omega))
end
section
variable {K : PySem.W.Frag} {vs : List V} {G : Hp} {M : Mem} {R : KR} {Z : KX}
def FrV (K : PySem.W.Frag) (G : Hp) (v : V) (l : List Nat) : Prop := ∃ b, v = .ref b ∧ SqL K G b (natsV l)
theorem FrV.ex {G' : Hp} {v : V} {l : List Nat} (h : FrV K G v l) (e : Ex G G') : FrV K G' v l := by
  obtain ⟨b, h1, h2⟩ := h
  exact ⟨b, h1, ex_l e h2⟩
theorem stG_bi {m lim : Nat} {drs : List Nat} {ds : List Deed} {a : Addr} {B : Mem} (st : StA K .grove m lim (drs.map Dr.leaf) G ds a B) : ∀ i, i < (treesN m).length → BI (msN (treesN m) i) (fs0 (treesN m) drs m i) (wordG (treesN m) (plainW m ds) (grS m drs ds) i) (grS m drs ds i) := by
  obtain ⟨A, v, rfl, rfl, hi, h2⟩ := st
  have := hi.bi
  rw [leafsOf_map] at this
  exact this
theorem rev_get' {n j : Nat} (h : j < n) : (List.range n).reverse[j]? = some (n - 1 - j) := by
  rw [List.getElem?_reverse (by rw [List.length_range]; exact h), List.length_range, List.getElem?_range (by omega)]
def LN (m : Nat) (drs : List Nat) (ds : List Deed) (d : Deed) (row : List Nat) (L : Nat → LF) (i : Nat) : LF := goL (msN (treesN m) i) (highN (msN (treesN m) i)) (grS m drs ds i).tb (cellI d.cell i) (row.getD i 0) (L i)
theorem grS_tb {m : Nat} {drs : List Nat} {ds : List Deed} {d : Deed} {i : Nat} : (grS m drs (ds ++ [d]) i).tb = (grS m drs ds i).tb.set (cellI d.cell i) (freshN (treesN m) drs ds.length i) := by rw [grS_snoc]; rfl
theorem trees_for {D : Kd} {a0 p mo fr gr du T b : Addr} {y4 y6 y7 y13 y14 : Option V} {m lim k : Nat} {A : Nat → ModA} {hv : Nat → List (Key × V)} {L : Nat → LF} {ds : List Deed} {d : Deed} {us fus : List V} {row drs : List Nat} {B X : Mem}
    (hm : ModsG K G A (treesN m) mo) (st : StA K .grove m lim (drs.map Dr.leaf) G ds gr B) (hok : DeedOk m d) (hT : SqT K G T d.vs) (hb : fus[k]? = some (.ref b)) (hrow : SqL K G b (natsV row)) (hrl : row.length = (treesN m).length) (hrf : ∀ i, i < (treesN m).length → row.getD i 0 < 2 ^ highN (msN (treesN m) i)) (hfr : ∀ i, i < (treesN m).length → freshN (treesN m) drs ds.length i = row.getD i 0)
    (hlk : ∀ i, i < (treesN m).length → LieK (msN (treesN m) i) (hv i) (L i)) (hus : DpAll K G us ((grTs m drs ds).map tchD)) (hul : us.length ≤ 300000)
    (q : ∀ (G' : Hp) (us' : List V) (hv' : Nat → List (Key × V)) (y13 y14 : Option V), Ex G G' → DpAll K G' us' ((grTs m drs (ds ++ [d])).map tchD) → (∀ i, i < (treesN m).length → LieK (msN (treesN m) i) (hv' i) (LN m drs ds d row L i)) →
      D.nx [some (.ref a0), some (.ref p), some (.int (m : Nat)), some (.int (lim : Nat)), y4, some (.ref mo), y6, y7, some (.ref fr), some (.int (k : Nat)), some (.ref gr), some (.ref du), some (.ref T), y13, y14] G' ((du, .lst us') :: (fr, .lst fus) :: (modsM A (fun i => (grS m drs (ds ++ [d]) i).tb) hv' (treesN m).length ++ X))) :
    kFor (kiRv1 (kCB (kLen K) (kCons (kVar 5) (kNil)))) (kgName 13) (rd_law_b3 K) D [some (.ref a0), some (.ref p), some (.int (m : Nat)), some (.int (lim : Nat)), y4, some (.ref mo), y6, y7, some (.ref fr), some (.int (k : Nat)), some (.ref gr), some (.ref du), some (.ref T), y13, y14] G ((du, .lst us) :: (fr, .lst fus) :: (modsM A (fun i => (grS m drs ds i).tb) hv (treesN m).length ++ X)) := by
  obtain ⟨m0, m1⟩ := stA_m st
  have hmo := msOk_trees m0 m1
  have h3 := hmo.l3
  have hbi := stG_bi st
  have hts := cellI_lt hmo hok.1
  obtain ⟨n, hn⟩ : ∃ n, n = (treesN m).length := ⟨_, rfl⟩
  have hxl : ((List.range (treesN m).length).map fun i => V.ref (A i).md).length = n := by rw [List.length_map, List.length_range, hn]
  refine ⟨_, .inl (lat_g hm.l), ?_⟩
  show revR 0 ((((List.range (treesN m).length).map fun i => V.ref (A i).md).length : Nat) : Int) _ G _
  rw [hxl]
  have e1 : ((n : Int) - 0).toNat = n := by omega
  unfold revR
  rw [e1]
  refine ⟨by omega, fun j σ G' M' => ∃ (us' : List V) (tj : Nat → List Nat) (hj : Nat → List (Key × V)) (y13 y14 : Option V), σ = [some (.ref a0), some (.ref p), some (.int (m : Nat)), some (.int (lim : Nat)), y4, some (.ref mo), y6, y7, some (.ref fr), some (.int (k : Nat)), some (.ref gr), some (.ref du), some (.ref T), y13, y14] ∧ Ex G G' ∧ M' = (du, .lst us') :: (fr, .lst fus) :: (modsM A tj hj (treesN m).length ++ X) ∧ us'.length ≤ us.length + 24 * j ∧ DpAll K G' us' ((grTs m drs ds ++ ((List.range n).reverse.take j).flatMap (grWayT (treesN m) d (grS m drs ds))).map tchD) ∧
    (∀ i, i < n → n ≤ i + j → tj i = (grS m drs (ds ++ [d]) i).tb ∧ LieK (msN (treesN m) i) (hj i) (LN m drs ds d row L i)) ∧ ∀ i, i < n → i + j < n → tj i = (grS m drs ds i).tb ∧ LieK (msN (treesN m) i) (hj i) (L i),
    ⟨us, _, hv, _, _, rfl, Ex.refl, rfl, Nat.le_refl _, by rw [List.take_zero]; show DpAll K G us ((_ ++ []).map tchD); rw [List.append_nil]; exact hus, fun i h1 h2 => absurd h1 (by omega), fun i hi _ => ⟨rfl, hlk i (by omega)⟩⟩, fun _ _ _ _ _ _ => trivial, ?_, ?_⟩
  · rintro j σ G' M' hj ⟨us', tj, hvj, y13, y14, rfl, ex, rfl, hul', hd', hne, hol⟩
    have hj : j < n := hj
    obtain ⟨i, hi⟩ : ∃ i, i = n - 1 - j := ⟨_, rfl⟩
    have hin : i < (treesN m).length := by omega
    refine asg_C (v := (i : Nat)) (by omega) ?_
    obtain ⟨o1, o2⟩ := hol i (by omega) (by omega)
    have hB := hbi i hin
    have h32 := hmo.ok i hin
    refine b3_step (hm.ex ex) h3 hin h32 (hts i hin) (by have := hok.1; omega) (ex_t ex hT) hb (ex_l ex hrow) hrl (hrf i hin) (by rw [o1]; exact ⟨hB.tl, hB.tk⟩) o2 hd' (by omega) fun G2 us2 h' ex2 hd2 hl2 hlk2 M2 wk => ?_
    refine ⟨G2, _, wk, us2, _, _, _, _, rfl, ex.trans ex2, rfl, by omega, ?_, fun i' h1 h2 => ?_, fun i' h1 h2 => ?_⟩
    · have et : (List.range n).reverse.take (j + 1) = (List.range n).reverse.take j ++ [i] := by rw [take_succ' (rev_get' hj), hi]
      rw [et, List.flatMap_append, ← List.append_assoc, List.flatMap_singleton]
      rw [o1] at hd2
      exact hd2
    · by_cases z : i' = i
      · subst z
        rw [setF_eq, setF_eq, o1, grS_tb, hfr i' hin]
        rw [o1] at hlk2
        exact ⟨rfl, hlk2⟩
      · rw [setF_ne z, setF_ne z]
        exact hne i' h1 (by omega)
    · rw [setF_ne (by omega), setF_ne (by omega)]
      exact hol i' h1 (by omega)
  · rintro σ G' M' ⟨us', tj, hvj, y13, y14, rfl, ex, rfl, hul', hd', hne, hol⟩
    have en : ∀ x, (srcC x (-1) n).n = n := fun _ => rfl
    rw [en] at hd' hne
    have hd2 : DpAll K G' us' ((grTs m drs (ds ++ [d])).map tchD) := by
      rw [grTs_snoc]
      unfold grAskT
      rw [← hn]
      rw [List.take_of_length_le (by rw [List.length_reverse, List.length_range]; exact Nat.le_refl _)] at hd'
      exact hd'
    have em : modsM A tj hvj (treesN m).length = modsM A (fun i => (grS m drs (ds ++ [d]) i).tb) hvj (treesN m).length := modsM_congr fun i hi => by unfold modC; rw [(hne i (by omega) (by omega)).1]
    rw [em]
    exact q G' us' hvj _ _ ex hd2 fun i hi => (hne i (by omega) (by omega)).2
end
section
variable {K : PySem.W.Frag} {vs : List V} {G : Hp} {M : Mem} {R : KR} {Z : KX}
theorem tch_gr {m : Nat} {drs : List Nat} {ds : List Deed} : tchA .grove m (drs.map Dr.leaf) ds = grTs m drs ds := by
  show grTs m (leafsOf (drs.map Dr.leaf)) ds = _
  rw [leafsOf_map]
theorem mods_ls {A : Nat → ModA} {tb : Nat → List Nat} {hv : Nat → List (Key × V)} {n i : Nat} {B : Mem} {x y : Addr × HO} (h : i < n) : ((A i).ls, HO.dK (hv i)) ∈ x :: y :: (modsM A tb hv n ++ B) := List.mem_cons_of_mem _ (List.mem_cons_of_mem _ (List.mem_append.mpr (.inl (mods_in (tb := tb) h).2)))
/-- what is held against the store, between two asks -/
structure StM (K : PySem.W.Frag) (G : Hp) (m lim : Nat) (drs : List Nat) (ds : List Deed) (gr mo : Addr) (B : Mem) (A : Nat → ModA) (hv : Nat → List (Key × V)) (L : Nat → LF) (us : List V) : Prop where
  st : StA K .grove m lim (drs.map Dr.leaf) G ds gr B
  mo : ModsG K G A (treesN m) mo
  lk : ∀ i, i < (treesN m).length → LieK (msN (treesN m) i) (hv i) (L i) ∧ LRs (msN (treesN m) i) (grS m drs ds i) (L i)
  us : DpAll K G us ((grTs m drs ds).map tchD)
theorem StM.ex {G' : Hp} {m lim : Nat} {drs : List Nat} {ds : List Deed} {gr mo : Addr} {B : Mem} {A : Nat → ModA} {hv : Nat → List (Key × V)} {L : Nat → LF} {us : List V} (h : StM K G m lim drs ds gr mo B A hv L us) (e : Ex G G') : StM K G' m lim drs ds gr mo B A hv L us := ⟨h.st.ex e, h.mo.ex e, h.lk, ex_ds e _ h.us⟩
theorem right_ok {m lim : Nat} {drs : List Nat} {ds : List Deed} {gr mo du fr : Addr} {B : Mem} {A : Nat → ModA} {hv : Nat → List (Key × V)} {L : Nat → LF} {us fus : List V} {tb : Nat → List Nat} (h : StM K G m lim drs ds gr mo B A hv L us)
    (q : ∀ G', Ex G G' → R (.bl true) G' ((du, .lst us) :: (fr, .lst fus) :: (modsM A tb hv (treesN m).length ++ B))) : S_law_pockets_right K [.ref gr, .ref mo] G ((du, .lst us) :: (fr, .lst fus) :: (modsM A tb hv (treesN m).length ++ B)) R Z := by
  refine ⟨m, lim, drs.map Dr.leaf, ds, gr, mo, A, hv, L, B, (du, .lst us) :: (fr, .lst fus) :: modsM A tb hv (treesN m).length, rfl, rfl, .refl _, h.st, h.mo, fun i hi => ⟨mods_ls hi, (h.lk i hi).1, ?_⟩, q⟩
  rw [leafsOf_map]
  exact (h.lk i hi).2
theorem law_b2 {D : Kd} {a0 mo fr gr du : Addr} {y1 y4 y6 y7 y12 y13 y14 : Option V} {ns : List Int} {m lim k : Nat} {A : Nat → ModA} {hv : Nat → List (Key × V)} {L : Nat → LF} {ds : List Deed} {us fus : List V} {rows : List (List Nat)} {drs : List Nat} {B : Mem}
    (hS : SqL K G a0 (ns.map V.int)) (hnl : ns.length ≤ 63) (h : StM K G m lim drs ds gr mo B A hv L us) (hdk : ds.length = k) (hk : k < lim) (hfus : A2 (FrV K G) fus rows) (hro : RowsOk (treesN m) rows) (hrl : k < rows.length) (hfr : ∀ i, i < (treesN m).length → freshN (treesN m) drs k i = (rows.getD k []).getD i 0)
    (q : ∀ (d : Deed) (G' : Hp) (M' B' : Mem) (us' : List V) (hv' : Nat → List (Key × V)) (L' : Nat → LF) (y1 y12 y13 y14 : Option V), Ex G G' → StM K G' m lim drs (ds ++ [d]) gr mo B' A hv' L' us' → Wk G' M' G' ((du, .lst us') :: (fr, .lst fus) :: (modsM A (fun i => (grS m drs (ds ++ [d]) i).tb) hv' (treesN m).length ++ B')) →
      D.nx [some (.ref a0), y1, some (.int (m : Nat)), some (.int (lim : Nat)), y4, some (.ref mo), y6, y7, some (.ref fr), some (.int (k : Nat)), some (.ref gr), some (.ref du), y12, y13, y14] G' M') :
    rd_law_b2 K D [some (.ref a0), y1, some (.int (m : Nat)), some (.int (lim : Nat)), y4, some (.ref mo), y6, y7, some (.ref fr), some (.int (k : Nat)), some (.ref gr), some (.ref du), y12, y13, y14] G ((du, .lst us) :: (fr, .lst fus) :: (modsM A (fun i => (grS m drs ds i).tb) hv (treesN m).length ++ B)) := by
  obtain ⟨m0, m1⟩ := stA_m h.st
  obtain ⟨_, h60, _⟩ := stA_len h.st
  obtain ⟨M0, hM0⟩ : ∃ M0, M0 = (du, HO.lst us) :: (fr, .lst fus) :: (modsM A (fun i => (grS m drs ds i).tb) hv (treesN m).length ++ B) := ⟨_, rfl⟩
  have hp0 : M0.Perm (((du, HO.lst us) :: (fr, .lst fus) :: modsM A (fun i => (grS m drs ds i).tb) hv (treesN m).length) ++ B) := by rw [hM0]; exact .refl _
  rw [← hM0]
  refine ⟨G, M0, Wk.refl, a0, ns, 1 + (k : Int), rfl, rfl, hS, by omega, by omega, hnl, fun p c s fp hs => ?_⟩
  refine ⟨G, (p, pool c s) :: M0, Wk.refl, p, 0, c, s, m, rfl, rfl, rfl, hs, m0, m1, fun T d c1 s1 G1 ex1 hT hok hs1 => ?_⟩
  have next : ∀ (c s : Int) (G2 : Hp), Ex G1 G2 → rd_law_b2_3 K D [some (.ref a0), some (.ref p), some (.int (m : Nat)), some (.int (lim : Nat)), y4, some (.ref mo), y6, y7, some (.ref fr), some (.int (k : Nat)), some (.ref gr), some (.ref du), some (.ref T), y13, y14] G2 ((p, pool c s) :: M0) := fun c s G2 ex2 => by
    have h2 := h.ex (ex1.trans ex2)
    have hT2 := ex_t ex2 hT
    obtain ⟨row, hrow⟩ : ∃ row, rows[k]? = some row := ⟨_, List.getElem?_eq_getElem hrl⟩
    obtain ⟨b, hb, hbr⟩ : ∃ b, fus[k]? = some (.ref b) ∧ SqL K G2 b (natsV row) := by
      obtain ⟨v, hv, b, rfl, hb⟩ := hfus.get hrow
      exact ⟨b, hv, ex_l (ex1.trans ex2) hb⟩
    have hrm := List.mem_of_getElem? hrow
    have hrd : rows.getD k [] = row := by rw [List.getD_eq_getElem?_getD, hrow]; rfl
    have hul : us.length ≤ 300000 := by
      rw [dpall_len h.us, List.length_map]
      have := grTs_len (drs := drs) m0 m1 ds
      omega
    refine ⟨G2, M0, Wk.drop0, ?_⟩
    rw [hM0]
    refine trees_for h2.mo h2.st hok hT2 hb hbr (hro.len _ hrm) (hro.lt _ hrm) (fun i hi => by rw [hdk, hfr i hi, hrd]) (fun i hi => (h.lk i hi).1) h2.us hul fun G3 us3 hv3 y13 y14 ex3 hus3 hlk3 => ?_
    have h3 := h2.st.ex ex3
    refine ⟨G3, _, Wk.refl, stG_ask (F := (du, .lst us3) :: (fr, .lst fus) :: modsM A (fun i => (grS m drs (ds ++ [d]) i).tb) hv3 (treesN m).length) (d := d) h3 (.refl _) ⟨T, rfl, ex_t ex3 hT2⟩ hok (by omega) fun G4 B4 ex4 st4 => ?_⟩
    have h4 : StM K G4 m lim drs (ds ++ [d]) gr mo B4 A hv3 (LN m drs ds d row L) us3 := ⟨st4, h2.mo.ex (ex3.trans ex4), fun i hi => ⟨hlk3 i hi, ?_⟩, ex_ds ex4 _ hus3⟩
    · refine ⟨G4, _, Wk.refl, right_ok (Z := E0) (tb := fun i => (grS m drs (ds ++ [d]) i).tb) h4 fun G5 ex5 => ?_⟩
      have h5 := h4.ex ex5
      refine stG_touches h5.st (fun x hx => by simp [hx]) fun p3 v3 hv3' fp3 => ?_
      rw [tch_gr] at hv3'
      refine eq_ref (n := 2) (neg := true) (dat_list lat_0 (dats_g hv3')) (dat_list (lat_cons lat_0) (dats_g h5.us)) (shp_tchs _) (by decide) ?_
      exact q d G5 _ B4 us3 hv3 _ _ _ _ _ ((((ex1.trans ex2).trans ex3).trans ex4).trans ex5) h5 Wk.drop0
    · have hbi := stG_bi h2.st i hi
      have hmo := msOk_trees m0 m1
      have e := lrs_bask (w := newW (treesN m) d (freshN (treesN m) drs ds.length) i) hbi (cellI_lt hmo hok.1 i hi) (fresh := freshN (treesN m) drs ds.length i) (by rw [hdk, hfr i hi, hrd]; exact hro.lt _ hrm i hi) (h.lk i hi).2
      have e2 : LN m drs ds d row L i = goL (msN (treesN m) i) (highN (msN (treesN m) i)) (grS m drs ds i).tb (cellI d.cell i) (freshN (treesN m) drs ds.length i) (L i) := by unfold LN; rw [hdk, hfr i hi, hrd]
      rw [e2, grS_snoc]
      exact e
  refine ⟨G1, (p, pool c1 s1) :: M0, Wk.refl, p, 4, 0, c1, s1, rfl, rfl, rfl, hs1, by decide, by decide, fun r c2 s2 r0 r1 hs2 => ?_⟩
  refine ite2' (c := decide (V.int r = .int 3)) (fun _ => ?_) (fun _ => next c2 s2 G1 Ex.refl)
  refine ⟨p, c2, s2, m, lim, drs.map Dr.leaf, ds, gr, B, _, M0, rfl, rfl, rfl, rfl, hp0, hs2, h.st.ex ex1, fun c3 s3 G2 ex2 => ?_⟩
  exact next c3 s3 G2 ex2
end
section
variable {K : PySem.W.Frag} {vs : List V} {G : Hp} {M : Mem} {R : KR} {Z : KX}
theorem stG_le {ms : List Nat} (h : ∀ i, i < ms.length → msN ms i ≤ 32) : ∀ i, i ≤ ms.length → startG ms i ≤ 32 * i
  | 0, _ => by unfold startG; simp
  | i + 1, hi => by
    have := stG_le h i (by omega)
    have := h i (by omega)
    rw [startG_succ (by omega)]; omega
theorem drat_leaves {b : Addr} {drs : List Nat} (h : LstAt K G M b (natsV drs)) : DrAt K G M b (drs.map Dr.leaf) := by
  refine ⟨natsV drs, h, ?_⟩
  clear h
  induction drs with
  | nil => exact .nil
  | cons d drs ih => exact .cons rfl ih
theorem lrs_gr {m : Nat} {drs : List Nat} {i : Nat} : LRs (msN (treesN m) i) (grS m drs [] i) (fun _ => none) := by
  refine ⟨fun _ _ => rfl, fun c => ⟨fun z => (nomatch z), fun z => (nomatch (show (none : Option (Nat × Nat)).isSome = true from z))⟩, fun c n => ⟨fun z => (nomatch z), ?_⟩⟩
  rintro ⟨r, e, h1, _⟩
  have h1 : (List.replicate (2 * (2 * 2 ^ highN (msN (treesN m) i) - 1)) (none : Option (Nat × Nat × Nat)))[r]? = some (some e) := h1
  exact (nomatch (List.mem_replicate.mp (List.mem_of_getElem? h1)).2)
theorem drsL_nil {ms : List Nat} {tb : Nat → List Nat} : drsL ms tb [] = (List.range ms.length).flatMap tb := by unfold drsL; rw [List.flatten_nil, List.append_nil]
theorem drsL_snoc {ms : List Nat} {tb : Nat → List Nat} {rows : List (List Nat)} {l : List Nat} : drsL ms tb (rows ++ [l]) = drsL ms tb rows ++ l := by unfold drsL; rw [List.flatten_append, List.append_assoc]; simp
theorem drsL_len {ms : List Nat} {tb : Nat → List Nat} {rows : List (List Nat)} (h3 : ms.length ≤ 3) (h : ∀ i, i < ms.length → (tb i).length = msN ms i) (h32 : ∀ i, i < ms.length → msN ms i ≤ 32) (hr : ∀ r, r ∈ rows → r.length = ms.length) (h60 : rows.length ≤ 60) : (drsL ms tb rows).length ≤ 300 := by
  unfold drsL
  have h1 := stG_le h32 ms.length (Nat.le_refl _)
  rw [List.length_append, flat_len h ms.length (Nat.le_refl _), flat_rlen rows hr]
  have := Nat.mul_le_mul h60 h3
  omega
/-- one draw for each tree -/
theorem fresh_b1 {D : Kd} {a0 p mo dr fr : Addr} {y7 y10 y11 y12 y13 y14 : Option V} {m lim w k : Nat} {A : Nat → ModA} {tb : Nat → List Nat} {hv : Nat → List (Key × V)} {ts : List Nat} {fus : List V} {rows : List (List Nat)} {c s : Int} (w0 : 1 ≤ w) (h3 : ts.length ≤ 3) (htb : TbOk ts tb) (h32 : ∀ i, i < ts.length → msN ts i ≤ 32) (hm : ModsG K G A ts mo) (hs : PoolOk s) (hfus : A2 (FrV K G) fus rows) (hro : RowsOk ts rows) (hk : rows.length = k) (hk60 : k < 60)
    (q : ∀ (G' : Hp) (M' : Mem) (fus' : List V) (row : List Nat) (dr' : Addr) (c' s' : Int), Ex G G' → PoolOk s' → A2 (FrV K G') fus' (rows ++ [row]) → RowsOk ts (rows ++ [row]) → Wk G' M' G' ((fr, .lst fus') :: (dr', .lst (natsV (drsL ts tb (rows ++ [row])))) :: (p, pool c' s') :: modsM A tb hv ts.length) →
      D.nx [some (.ref a0), some (.ref p), some (.int (m : Nat)), some (.int (lim : Nat)), some (.int (w : Nat)), some (.ref mo), some (.ref dr'), y7, some (.ref fr), some (.int (k : Nat)), y10, y11, y12, y13, y14] G' M') :
    rd_law_b1 K D [some (.ref a0), some (.ref p), some (.int (m : Nat)), some (.int (lim : Nat)), some (.int (w : Nat)), some (.ref mo), some (.ref dr), y7, some (.ref fr), some (.int (k : Nat)), y10, y11, y12, y13, y14] G ((fr, .lst fus) :: (dr, .lst (natsV (drsL ts tb rows))) :: (p, pool c s) :: modsM A tb hv ts.length) := by
  have hxl : ((List.range ts.length).map fun i => V.ref (A i).md).length = ts.length := by rw [List.length_map, List.length_range]
  have hfl : fus.length = k := by rw [hfus.len, hk]
  refine ⟨G, _, Wk.refl, tyl_n (n := 0) rfl, _, lat_g hm.l, sz (by show ((List.range ts.length).map fun i => V.ref (A i).md).length ≤ _; rw [hxl]; omega), fun i acc G' M' => ∃ (l : List Nat) (c' s' : Int), G' = G ∧ M' = (fr, .lst fus) :: (dr, .lst (natsV (drsL ts tb rows))) :: (p, pool c' s') :: modsM A tb hv ts.length ∧ PoolOk s' ∧ l.length = i ∧ acc = natsV l ∧ ∀ j, j < i → l.getD j 0 < 2 ^ highN (msN ts j), ⟨[], c, s, rfl, rfl, hs, rfl, rfl, fun _ z => nomatch z⟩, ?_, ?_, ?_⟩
  · rintro i acc G' M' _ ⟨l, c', s', rfl, _⟩; exact lat_g hm.l
  · rintro i acc G' M' D' hi _ ⟨l, c1, s1, hG, rfl, hs1, hll, rfl, hlk⟩ fD
    subst hG
    have hi : i < ((List.range ts.length).map fun i => V.ref (A i).md).length := hi
    rw [hxl] at hi
    have hget : ((List.range ts.length).map fun i => V.ref (A i).md)[i]? = some (.ref (A i).md) := by rw [List.getElem?_map, List.getElem?_range hi]; rfl
    have hmd := hm.d i hi
    have hh : highN (msN ts i) ≤ 5 := high_le5 _ (h32 i hi)
    have p2 : (1 : Int) * 2 ^ ((highN (msN ts i) : Nat) : Int).toNat = ((2 ^ highN (msN ts i) : Nat) : Int) := by rw [Int.toNat_natCast, Int.one_mul]; simp
    have p64 : 2 ^ highN (msN ts i) ≤ 32 := Nat.pow_le_pow_right (n := 2) (by decide) hh
    have p1 : 1 ≤ 2 ^ highN (msN ts i) := Nat.one_le_two_pow
    have cp : CPow 1 ((highN (msN ts i) : Nat) : Int) := ⟨by omega, by omega, by decide⟩
    refine asg_L hget ⟨rfl, _, Sum.inr "high", _, .inr hmd, rfl, rfl, cp, p, _, 3, c1, s1, rfl, rfl, rfl, hs1, by rw [p2]; omega, by rw [p2]; omega, fun r2 c4 s4 r0 r1 hs4 => ⟨(by show (0 : Int) < _; omega), ?_⟩⟩
    rw [p2] at r1
    obtain ⟨v, rfl⟩ := Int.eq_ofNat_of_zero_le r0
    have ev : ((v : Int) % (w : Int)) = ((v % w : Nat) : Int) := by omega
    refine ⟨G', (fr, .lst fus) :: (dr, .lst (natsV (drsL ts tb rows))) :: (p, pool c4 s4) :: modsM A tb hv ts.length, Wk.refl, l ++ [v % w], c4, s4, rfl, rfl, hs4, by rw [List.length_append, hll]; rfl, by rw [natsV_app2]; show natsV l ++ [V.int ((v : Int) % (w : Int))] = _; rw [ev]; rfl, fun j hj => ?_⟩
    by_cases z : j = i
    · subst z
      have : (l ++ [v % w]).getD j 0 = v % w := by rw [List.getD_eq_getElem?_getD, ← hll, List.getElem?_append_right (Nat.le_refl _), Nat.sub_self]; rfl
      rw [this]
      have := Nat.mod_le v w
      omega
    · have : (l ++ [v % w]).getD j 0 = l.getD j 0 := by rw [List.getD_eq_getElem?_getD, List.getElem?_append_left (by omega), ← List.getD_eq_getElem?_getD]
      rw [this]; exact hlk j (by omega)
  rintro acc G' M' rw' ⟨l, c1, s1, rfl, rfl, hs1, hll, rfl, hlk⟩ _ frw
  have en : (srcL K mo ((List.range ts.length).map fun i => V.ref (A i).md)).n = ts.length := hxl
  rw [en] at hll hlk
  refine ⟨1, fus, rfl, Nat.lt_of_le_of_lt (m := 60) (by omega) (by decide), ?_⟩
  have ex2 := Ex.new (o := .lst (natsV l)) frw
  refine ⟨upd G' rw' (.lst (natsV l)), (fr, .lst (fus ++ [.ref rw'])) :: (dr, .lst (natsV (drsL ts tb rows))) :: (p, pool c1 s1) :: modsM A tb hv ts.length, Wk.frz0, ?_⟩
  have hat : (fus ++ [V.ref rw'])[k]? = some (.ref rw') := by rw [List.getElem?_append_right (by omega), hfl, Nat.sub_self]; rfl
  have hdl := drsL_len h3 (fun i hi => (htb i hi).1) h32 hro.len (by omega)
  refine ⟨fus ++ [.ref rw'], .ref rw', lst_n (n := 0) rfl, atI_nat hat, natsV (drsL ts tb rows), natsV l, .inl (List.mem_cons_of_mem _ List.mem_cons_self), .inr upd_same, sz (by rw [natsV_len, natsV_len]; omega), fun dr' fd => ?_⟩
  have hro2 : RowsOk ts (rows ++ [l]) := by
    refine ⟨fun r hr => ?_, fun r hr => ?_⟩
    · rcases List.mem_append.mp hr with hr | hr
      · exact hro.len r hr
      · rw [show r = l by simpa using hr]; exact hll
    · rcases List.mem_append.mp hr with hr | hr
      · exact hro.lt r hr
      · rw [show r = l by simpa using hr]; exact hlk
  refine q _ _ (fus ++ [.ref rw']) l dr' c1 s1 ex2 hs1 ((hfus.mono fun _ _ z => z.ex ex2).app (.cons ⟨rw', rfl, sql_new⟩ .nil)) hro2 ?_
  rw [drsL_snoc, natsV_app2]
  refine (Wk.perm (M' := (dr, .lst (natsV (drsL ts tb rows))) :: (fr, .lst (fus ++ [.ref rw'])) :: (dr', .lst (natsV (drsL ts tb rows) ++ natsV l)) :: (p, pool c1 s1) :: modsM A tb hv ts.length) (by (classical (rw [List.perm_iff_count]; intro x; simp only [List.set_cons_zero, List.set_cons_succ, List.cons_append, List.nil_append, List.append_assoc, List.append_eq, List.count_append, List.count_cons, List.count_nil] <;> omega)))).trans Wk.drop0
end
section
variable {K : PySem.W.Frag} {vs : List V} {G : Hp} {M : Mem} {R : KR} {Z : KX}
theorem pf_law (h : S_law K vs G M R Z) : rd_law K (ends R Z) (sta 15 vs) G M := by
  obtain ⟨_, rfl, a, ns, rfl, hS, hl, q⟩ := sp1_of h
  clear h
  refine ⟨G, [], Wk.nil', a, ns, 0, rfl, rfl, hS, by decide, by decide, hl, fun p c s fp hs => ?_⟩
  refine ⟨G, _, Wk.refl, p, 0, c, s, rfl, rfl, hs, fun m c1 s1 m0 m1 hs1 => ?_⟩
  have hmo := msOk_trees m0 m1
  have h3 := hmo.l3
  have h32 := fun i hi => (hmo.ok i hi).2
  refine ⟨G, [(p, pool c1 s1)], Wk.refl, _, lst_g hS, ?_⟩
  obtain ⟨lim, hlim⟩ := Int.eq_ofNat_of_zero_le (show 0 ≤ min (max 0 (((ns.map V.int).length : Int) - 1)) 60 by omega)
  have hl60 : lim ≤ 60 := by omega
  show rd_law_3 K (ends R Z) [some (.ref a), some (.ref p), some (.int (m : Nat)), some (.int (min (max 0 (((ns.map V.int).length : Int) - 1)) 60)), none, none, none, none, none, none, none, none, none, none, none] G _
  rw [hlim]
  refine ⟨G, [(p, pool c1 s1)], Wk.refl, pick (n := 0) (l := [V.int 64, .int 64, .int 2]) rfl hs1 (by decide) (by decide) fun y c2 s2 d0 hy hs2 fd => ?_⟩
  obtain ⟨w, rfl, w0, w1⟩ : ∃ w : Nat, y = .int w ∧ 1 ≤ w ∧ w ≤ 64 := by
    simp only [List.mem_cons, List.not_mem_nil, or_false] at hy
    rcases hy with rfl | rfl | rfl
    · exact ⟨64, rfl, by decide, by decide⟩
    · exact ⟨64, rfl, by decide, by decide⟩
    · exact ⟨2, rfl, by decide, by decide⟩
  refine ⟨G, [(p, pool c2 s2)], Wk.drop0, p, c2, s2, m, w, [], rfl, rfl, rfl, rfl, hs2, m0, m1, w0, w1, fun mo A tb c3 s3 G1 ex1 hs3 hm htb => ?_⟩
  have htl : ∀ i, i < (treesN m).length → (tb i).length = msN (treesN m) i := fun i hi => (htb i hi).1
  refine ⟨G1, _, Wk.refl, sz0, fun dr0 fdr => ?_⟩
  have hxl : ((List.range (treesN m).length).map fun i => V.ref (A i).md).length = (treesN m).length := by rw [List.length_map, List.length_range]
  have hst := stG_le h32
  refine ⟨G1, (dr0, .lst []) :: (modsM A tb (fun _ => []) (treesN m).length ++ [(p, pool c3 s3)]), Wk.refl, _, lat_g hm.l, fun i σ G' M' => ∃ (dr : Addr) (y7 : Option V), σ = [some (.ref a), some (.ref p), some (.int (m : Nat)), some (.int (lim : Nat)), some (.int (w : Nat)), some (.ref mo), some (.ref dr), y7, none, none, none, none, none, none, none] ∧ G' = G1 ∧ M' = (dr, .lst (natsV ((List.range i).flatMap tb))) :: (modsM A tb (fun _ => []) (treesN m).length ++ [(p, pool c3 s3)]), ⟨dr0, _, rfl, rfl, rfl⟩, ?_, ?_, ?_⟩
  · rintro i σ G' M' _ ⟨dr, y7, rfl, rfl, _⟩; exact lat_g hm.l
  · rintro i σ G' M' hi ⟨dr, y7, rfl, hG, rfl⟩
    subst hG
    have hi : i < ((List.range (treesN m).length).map fun i => V.ref (A i).md).length := hi
    rw [hxl] at hi
    have hget : ((List.range (treesN m).length).map fun i => V.ref (A i).md)[i]? = some (.ref (A i).md) := by rw [List.getElem?_map, List.getElem?_range hi]; rfl
    have h1 := flat_len htl i (by omega)
    have h2 := hst i (by omega)
    have h4 := htl i hi
    have h5 := h32 i hi
    refine asg_L hget ⟨G', _, Wk.refl, _, Sum.inr "leaves", _, .inr (hm.d i hi), rfl, rfl, natsV ((List.range i).flatMap tb), natsV (tb i), .inl List.mem_cons_self, .inl (List.mem_cons_of_mem _ (List.mem_append.mpr (.inl (mods_in hi).1))), sz (by rw [natsV_len, natsV_len, h1, h4]; omega), fun p2 fp2 => ?_⟩
    refine ⟨G', _, Wk.drop1, p2, _, rfl, rfl, ?_⟩
    rw [List.range_succ, List.flatMap_append, List.flatMap_singleton, natsV_app2]
  rintro σ G' M' ⟨dr, y7, rfl, rfl, rfl⟩
  have en : (srcL K mo ((List.range (treesN m).length).map fun i => V.ref (A i).md)).n = (treesN m).length := hxl
  rw [en, ← drsL_nil]
  refine ⟨G', _, Wk.refl, sz0, fun fr0 ffr => ?_⟩
  refine ⟨G', (fr0, .lst []) :: (dr, .lst (natsV (drsL (treesN m) tb []))) :: (p, pool c3 s3) :: modsM A tb (fun _ => []) (treesN m).length, Wk.perm (by (classical (rw [List.perm_iff_count]; intro x; simp only [List.set_cons_zero, List.set_cons_succ, List.cons_append, List.nil_append, List.append_assoc, List.append_eq, List.count_append, List.count_cons, List.count_nil] <;> omega))), by omega, fun k σ G2 M2 => ∃ (fus : List V) (rows : List (List Nat)) (dr : Addr) (c' s' : Int) (y9 : Option V), σ = [some (.ref a), some (.ref p), some (.int (m : Nat)), some (.int (lim : Nat)), some (.int (w : Nat)), some (.ref mo), some (.ref dr), y7, some (.ref fr0), y9, none, none, none, none, none] ∧ Ex G' G2 ∧ M2 = (fr0, .lst fus) :: (dr, .lst (natsV (drsL (treesN m) tb rows))) :: (p, pool c' s') :: modsM A tb (fun _ => []) (treesN m).length ∧ PoolOk s' ∧ A2 (FrV K G2) fus rows ∧ RowsOk (treesN m) rows ∧ rows.length = k,
    ⟨[], [], dr, c3, s3, _, rfl, Ex.refl, rfl, hs3, .nil, ⟨fun _ z => (nomatch z), fun _ z => (nomatch z)⟩, rfl⟩, fun _ _ _ _ _ _ => trivial, ?_, ?_⟩
  · rintro k σ G2 M2 hk ⟨fus, rows, dr, c4, s4, y9, rfl, ex, rfl, hs4, hfus, hro, hrl⟩
    have hk : k < ((lim : Nat) : Int).toNat := hk
    refine asg_R (v := (k : Int)) (by omega) (fresh_b1 w0 h3 htb h32 (hm.ex ex) hs4 hfus hro hrl (by omega) fun G3 M3 fus3 row dr3 c5 s5 ex3 hs5 hfus3 hro3 wk => ?_)
    exact ⟨G3, _, wk, fus3, rows ++ [row], dr3, c5, s5, _, rfl, ex.trans ex3, rfl, hs5, hfus3, hro3, by rw [List.length_append, hrl]; rfl⟩
  rintro σ G2 M2 ⟨fus, rows, dr2, c4, s4, y9, rfl, ex2, rfl, hs4, hfus, hro, hrl⟩
  have hrl : rows.length = lim := by rw [hrl]; exact Int.toNat_natCast lim
  have hm2 := hm.ex ex2
  have hgd := grD_drs htb hro
  rw [hrl] at hgd
  have htab : ∀ i, i < (treesN m).length → tab0 (treesN m) (drsL (treesN m) tb rows) i = tb i := fun i hi => tab_drs htl hi
  have hfr : ∀ k i, i < (treesN m).length → freshN (treesN m) (drsL (treesN m) tb rows) k i = (rows.getD k []).getD i 0 := fun k i hi => fresh_drs htl hro.len hi
  obtain ⟨drs, hdrs⟩ : ∃ drs, drs = drsL (treesN m) tb rows := ⟨_, rfl⟩
  rw [← hdrs] at hgd htab hfr ⊢
  refine ⟨G2, _, Wk.refl, fun x dx fx => ?_⟩
  refine ⟨x, dx, dr2, m, lim, drs, _, rfl, rfl, ⟨rfl, m0, m1⟩, ⟨rfl, Nat.zero_le _, hl60⟩, rfl, drat_leaves (.inl (by simp)), hgd, fun A2' G3 v hA ex3 hi => ⟨rfl, ?_⟩⟩
  subst hA
  obtain ⟨B, hB⟩ : ∃ B, B = groveB K A2' m lim 0 (treesN m) v (tab0 (treesN m) drs ((treesN m).length - 1)) := ⟨_, rfl⟩
  have st : StA K .grove m lim (drs.map Dr.leaf) G3 [] A2'.s B := by
    show St7 K m lim (leafsOf (drs.map Dr.leaf)) G3 [] A2'.s _
    rw [leafsOf_map, hB]
    exact ⟨A2', v, rfl, rfl, hi, Nat.zero_le _, hl60, fun _ z => nomatch z⟩
  rw [← hB]
  refine ⟨G3, _, Wk.refl, sz0, fun du fdu => ?_⟩
  have em : modsM A tb (fun _ => []) (treesN m).length = modsM A (fun i => (grS m drs [] i).tb) (fun _ => []) (treesN m).length := modsM_congr fun i hi => by
    unfold modC
    have : tb i = (fun i => (grS m drs [] i).tb) i := (htab i hi).symm
    rw [this]
  have hS3 := ex_l ((ex1.trans ex2).trans ex3) hS
  have hM0 : StM K G3 m lim drs [] A2'.s mo B A (fun _ => []) (fun _ _ => none) [] := ⟨st, hm2.ex ex3, fun i hi => ⟨LieK.nil, lrs_gr⟩, .nil⟩
  have hfus3 : A2 (FrV K G3) fus rows := hfus.mono fun _ _ z => z.ex ex3
  refine ⟨G3, (du, .lst []) :: (fr0, .lst fus) :: (modsM A (fun i => (grS m drs [] i).tb) (fun _ => []) (treesN m).length ++ B), ?_, by omega, fun k σ G4 M4 => ∃ (ds : List Deed) (B' : Mem) (hv : Nat → List (Key × V)) (L : Nat → LF) (us : List V) (y1 y9 y12 y13 y14 : Option V), σ = [some (.ref a), y1, some (.int (m : Nat)), some (.int (lim : Nat)), some (.int (w : Nat)), some (.ref mo), some (.ref dr2), y7, some (.ref fr0), y9, some (.ref A2'.s), some (.ref du), y12, y13, y14] ∧ Ex G3 G4 ∧ ds.length = k ∧ StM K G4 m lim drs ds A2'.s mo B' A hv L us ∧ M4 = (du, .lst us) :: (fr0, .lst fus) :: (modsM A (fun i => (grS m drs ds i).tb) hv (treesN m).length ++ B'),
    ⟨[], B, _, _, [], _, _, _, _, _, rfl, Ex.refl, rfl, hM0, rfl⟩, fun _ _ _ _ _ _ => trivial, ?_, ?_⟩
  · rw [← em]
    exact (Wk.perm (M' := (dr2, .lst (natsV drs)) :: (p, pool c4 s4) :: (du, .lst []) :: (fr0, .lst fus) :: (modsM A tb (fun _ => []) (treesN m).length ++ B)) (by (classical (rw [List.perm_iff_count]; intro x; simp only [List.set_cons_zero, List.set_cons_succ, List.cons_append, List.nil_append, List.append_assoc, List.append_eq, List.count_append, List.count_cons, List.count_nil] <;> omega)))).trans (Wk.dropP [_, _])
  · rintro k σ G4 M4 hk ⟨ds, B', hv, L, us, y1, y9, y12, y13, y14, rfl, ex4, hdl, hM, rfl⟩
    have hk : k < ((lim : Nat) : Int).toNat := hk
    refine asg_R (v := (k : Int)) (by omega) (law_b2 (ex_l ex4 hS3) hl hM hdl (by omega) (hfus3.mono fun _ _ z => z.ex ex4) hro (by omega) (hfr k) fun d G5 M5 B5 us5 hv5 L5 y1 y12 y13 y14 ex5 hM5 wk => ?_)
    exact ⟨G5, _, wk, ds ++ [d], B5, hv5, L5, us5, _, _, _, _, _, rfl, ex4.trans ex5, by rw [List.length_append, hdl]; rfl, hM5, rfl⟩
  rintro σ G4 M4 ⟨ds, B', hv, L, us, y1, y9, y12, y13, y14, rfl, ex4, hdl, hM, rfl⟩
  refine ⟨G4, _, Wk.refl, right_ok (Z := E0) (tb := fun i => (grS m drs ds i).tb) hM fun G5 ex5 => ?_⟩
  have h5 := hM.ex ex5
  refine stG_touches h5.st (fun x hx => by simp [hx]) fun p3 v3 hv3 fp3 => ?_
  rw [tch_gr] at hv3
  refine eq_ref (n := 2) (neg := false) (dat_list lat_0 (dats_g hv3)) (dat_list (lat_cons lat_0) (dats_g h5.us)) (shp_tchs _) (by decide) ?_
  exact ret0 (q _ _)
end
def topS (i : Nat) : Stmt := PySem.Challenge.pw_blindtouch_k43_whole_groves_by_a_model.main.body.getD i (.Pass ⟨0, 0, 0, 0⟩)
structure Bs (mg : Str → Option Value) : Prop where
  all : mg "all" = none
  bool : mg "bool" = none
  enumerate : mg "enumerate" = none
  int : mg "int" = none
  isinstance : mg "isinstance" = none
  len : mg "len" = none
  list : mg "list" = none
  max : mg "max" = none
  min : mg "min" = none
  range : mg "range" = none
  reversed : mg "reversed" = none
  sorted : mg "sorted" = none
  sum : mg "sum" = none
  tuple : mg "tuple" = none
structure Cs (K : PySem.W.Frag) (mg : Str → Option Value) : Prop where
  g_TouchError : XG K mg "TouchError"
  g_NoRoom : XG K mg "NoRoom"
  g_NoAsk : XG K mg "NoAsk"
  g_NoSize : XG K mg "NoSize"
  g_Over : XG K mg "Over"
  r_NoRoom : XR K "NoRoom"
  r_NoAsk : XR K "NoAsk"
  r_NoSize : XR K "NoSize"
  r_Over : XR K "Over"
  t_TouchError : ∀ p ∈ tab_tr_TouchError, PySem.W.exmOne K (.ref (cl K p.1)) (.ref (cl K "TouchError")) = some p.2
  n_NoAsk : PySem.W.kitOne K (.type "NoneType") (.ref (cl K "NoAsk")) = some false
  j_NoAsk : ∀ p ∈ tab_is_NoAsk, ExcC K (cl K p.1) ∧ PySem.W.kitOne K (.ref (cl K p.1)) (.ref (cl K "NoAsk")) = some p.2
  k_MOST_CELLS : ∃ u, mg "MOST_CELLS" = some u ∧ RelV (.int 32) u
  k_MOST_ASKS : ∃ u, mg "MOST_ASKS" = some u ∧ RelV (.int 60) u
  k_TABLE : ∃ u, mg "TABLE" = some u ∧ RelV (.int 4) u
  k_GREATEST : ∃ u, mg "GREATEST" = some u ∧ RelV (.int 999999999999999999) u
  k_SIDES : XT K mg "SIDES" con_SIDES
  o_Keeper : CK K 1
  o_Shelf : CK K 2
  o_Body : CK K 8
  o_Grove : CK K 7
  f_bodies : ∀ p ∈ tabF_bodies, CK K p.1 ∧ (clsN p.1).2[p.2]? = some "bodies"
  f_cells : ∀ p ∈ tabF_cells, CK K p.1 ∧ (clsN p.1).2[p.2]? = some "cells"
  f_draws : ∀ p ∈ tabF_draws, CK K p.1 ∧ (clsN p.1).2[p.2]? = some "draws"
  f_firsts : ∀ p ∈ tabF_firsts, CK K p.1 ∧ (clsN p.1).2[p.2]? = some "firsts"
  f_hand : ∀ p ∈ tabF_hand, CK K p.1 ∧ (clsN p.1).2[p.2]? = some "hand"
  f_high : ∀ p ∈ tabF_high, CK K p.1 ∧ (clsN p.1).2[p.2]? = some "high"
  f_highs : ∀ p ∈ tabF_highs, CK K p.1 ∧ (clsN p.1).2[p.2]? = some "highs"
  f_keeper : ∀ p ∈ tabF_keeper, CK K p.1 ∧ (clsN p.1).2[p.2]? = some "keeper"
  f_limit : ∀ p ∈ tabF_limit, CK K p.1 ∧ (clsN p.1).2[p.2]? = some "limit"
  f_log : ∀ p ∈ tabF_log, CK K p.1 ∧ (clsN p.1).2[p.2]? = some "log"
  f_made : ∀ p ∈ tabF_made, CK K p.1 ∧ (clsN p.1).2[p.2]? = some "made"
  f_number : ∀ p ∈ tabF_number, CK K p.1 ∧ (clsN p.1).2[p.2]? = some "number"
  f_shelf : ∀ p ∈ tabF_shelf, CK K p.1 ∧ (clsN p.1).2[p.2]? = some "shelf"
  f_start : ∀ p ∈ tabF_start, CK K p.1 ∧ (clsN p.1).2[p.2]? = some "start"
  f_table : ∀ p ∈ tabF_table, CK K p.1 ∧ (clsN p.1).2[p.2]? = some "table"
  f_things : ∀ p ∈ tabF_things, CK K p.1 ∧ (clsN p.1).2[p.2]? = some "things"
  h_Keeper : PySem.W.keepIn K (.ref (cl K (clsN 1).1)) = true
  h_Shelf : PySem.W.keepIn K (.ref (cl K (clsN 2).1)) = true
  h_Body : PySem.W.keepIn K (.ref (cl K (clsN 8).1)) = true
  h_Grove : PySem.W.keepIn K (.ref (cl K (clsN 7).1)) = true
abbrev s_law_pool : Stmt := topS 56
abbrev N_law_pool : List Str := ["_law_script", "_law_k", "_law_cell", "_law_seed"]
theorem sc_law_pool : FnScope N_law_pool ["_law_script", "_law_k"] (defScope s_law_pool) := ⟨rfl, rfl, rfl, by decide +kernel, rfl, by decide +kernel, by decide +kernel⟩
theorem fo_law_pool {P : Program} {w : World} {K : PySem.W.Frag} {mg : Str → Option Value} {base : Heap} {f : Addr} {fd : FuncData} (B : Bs mg) (C : Cs K mg) (F : Fun K "_law_pool" "_law_pool" s_law_pool f fd)  :
    FnOk P w K mg base (L2.CX P w) 1 f fd ["_law_script", "_law_k"] (lift (S_law_pool K)) := by
  refine fn_ok F sc_law_pool (fun vs G M R Z h => sp_len2 h) (fun cdv A outer s H E hr => ?_)
  have nd : N_law_pool.Nodup := sc_law_pool.nd
  have hu : _ + 64 < cLine := hr.units
  have tk : Takes (cxOf (L2.CX P w) P w K mg base N_law_pool "_law_pool" (defScope s_law_pool) f cdv A outer s H E) (fun c d _ H => E c d H) := takes_of rfl rfl rfl rfl
  have po : PassesOwn (model P w) _ _ _ := passes_of (X := cxOf (L2.CX P w) P w K mg base N_law_pool "_law_pool" (defScope s_law_pool) f cdv A outer s H E) rfl
  exact ⟨rd_law_pool K, jss_cons (js_set (i := 2) (je_int) nd) (jss_cons (js_if (jt_cmp (kop_lt) (je_var 1) (je_callB kc_len B.len (ja_cons (je_var 0) (ja_nil))) (nomark _)) (jss_cons (js_set (i := 2) (je_ix (je_var 0) (je_var 1)) nd) (jss_nil)) (jss_nil)) (jss_cons (js_set (i := 3) (je_op kop_mod (je_op kop_mul (je_op kop_add (je_op kop_add (je_op kop_mod (je_var 2) (je_int)) (je_op kop_mul (je_op kop_mul (je_int) (je_var 1)) (je_var 1))) (je_int)) (je_int)) (je_int)) nd) (jss_cons (js_if (jt_cmp (kop_lt) (je_var 2) (je_op kop_pow (je_int) (je_int)) (nomark _)) (jss_cons (js_set (i := 2) (je_int) nd) (jss_nil)) (jss_nil)) (jss_cons (js_ret (je_lst (ja_cons (je_var 2) (ja_cons (je_var 3) (ja_nil))))) (jss_nil))))), fun vs G M R Z h => pf_law_pool h⟩
theorem df_law_pool {P : Program} {w : World} {K : PySem.W.Frag} {mg : Str → Option Value} {base : Heap} {f : Addr} {fd : FuncData} (B : Bs mg) (C : Cs K mg) (F : Fun K "_law_pool" "_law_pool" s_law_pool f fd) (b : Binds K fd ["_law_script", "_law_k"] []) (gm : mg "_law_pool" = some (.ref f))  :
    Def P w K mg base 1 "_law_pool" ["_law_script", "_law_k"] (S_law_pool K) := ⟨f, fd, fo_law_pool B C F , gm, F.kp, b⟩
abbrev s_law_take : Stmt := topS 57
abbrev N_law_take : List Str := ["_law_pool_here", "_law_many_here", "_law_found"]
theorem sc_law_take : FnScope N_law_take ["_law_pool_here", "_law_many_here"] (defScope s_law_take) := ⟨rfl, rfl, rfl, by decide +kernel, rfl, by decide +kernel, by decide +kernel⟩
theorem fo_law_take {P : Program} {w : World} {K : PySem.W.Frag} {mg : Str → Option Value} {base : Heap} {f : Addr} {fd : FuncData} (B : Bs mg) (C : Cs K mg) (F : Fun K "_law_take" "_law_take" s_law_take f fd)  :
    FnOk P w K mg base (L2.CX P w) 1 f fd ["_law_pool_here", "_law_many_here"] (lift (S_law_take K)) := by
  refine fn_ok F sc_law_take (fun vs G M R Z h => sp_len2 h) (fun cdv A outer s H E hr => ?_)
  have nd : N_law_take.Nodup := sc_law_take.nd
  have hu : _ + 64 < cLine := hr.units
  have tk : Takes (cxOf (L2.CX P w) P w K mg base N_law_take "_law_take" (defScope s_law_take) f cdv A outer s H E) (fun c d _ H => E c d H) := takes_of rfl rfl rfl rfl
  have po : PassesOwn (model P w) _ _ _ := passes_of (X := cxOf (L2.CX P w) P w K mg base N_law_take "_law_take" (defScope s_law_take) f cdv A outer s H E) rfl
  exact ⟨rd_law_take K, jss_cons (js_if (jt_cmp (kop_gt) (je_ix (je_var 0) (je_int)) (je_int) (nomark _)) (jss_cons (js_set (i := 2) (je_op kop_mod (je_ix (je_var 0) (je_int)) (je_var 1)) nd) (jss_cons (js_asg (je_op kop_fdiv (je_ix (je_var 0) (je_int)) (je_var 1)) (jg_ix (je_var 0) (je_int))) (jss_cons (js_ret (je_var 2)) (jss_nil)))) (jss_nil)) (jss_cons (js_asg (je_op kop_mod (je_op kop_add (je_op kop_mul (je_ix (je_var 0) (je_int)) (je_int)) (je_int)) (je_int)) (jg_ix (je_var 0) (je_int))) (jss_cons (js_ret (je_op kop_mod (je_op kop_fdiv (je_op kop_mod (je_op kop_mul (je_ix (je_var 0) (je_int)) (je_ix (je_var 0) (je_int))) (je_int)) (je_int)) (je_var 1))) (jss_nil))), fun vs G M R Z h => pf_law_take h⟩
theorem df_law_take {P : Program} {w : World} {K : PySem.W.Frag} {mg : Str → Option Value} {base : Heap} {f : Addr} {fd : FuncData} (B : Bs mg) (C : Cs K mg) (F : Fun K "_law_take" "_law_take" s_law_take f fd) (b : Binds K fd ["_law_pool_here", "_law_many_here"] []) (gm : mg "_law_take" = some (.ref f))  :
    Def P w K mg base 1 "_law_take" ["_law_pool_here", "_law_many_here"] (S_law_take K) := ⟨f, fd, fo_law_take B C F , gm, F.kp, b⟩
abbrev s_law_many : Stmt := topS 61
abbrev N_law_many : List Str := ["_law_pool_here"]
theorem sc_law_many : FnScope N_law_many ["_law_pool_here"] (defScope s_law_many) := ⟨rfl, rfl, rfl, by decide +kernel, rfl, by decide +kernel, by decide +kernel⟩
theorem fo_law_many {P : Program} {w : World} {K : PySem.W.Frag} {mg : Str → Option Value} {base : Heap} {f : Addr} {fd : FuncData} (B : Bs mg) (C : Cs K mg) (F : Fun K "_law_many" "_law_many" s_law_many f fd) (D_law_take : Def P w K mg base 1 "_law_take" ["_law_pool_here", "_law_many_here"] (S_law_take K)) :
    FnOk P w K mg base (L2.CX P w) 2 f fd ["_law_pool_here"] (lift (S_law_many K)) := by
  refine fn_ok F sc_law_many (fun vs G M R Z h => sp_len1 h) (fun cdv A outer s H E hr => ?_)
  have nd : N_law_many.Nodup := sc_law_many.nd
  have hu : _ + 64 < cLine := hr.units
  have tk : Takes (cxOf (L2.CX P w) P w K mg base N_law_many "_law_many" (defScope s_law_many) f cdv A outer s H E) (fun c d _ H => E c d H) := takes_of rfl rfl rfl rfl
  have po : PassesOwn (model P w) _ _ _ := passes_of (X := cxOf (L2.CX P w) P w K mg base N_law_many "_law_many" (defScope s_law_many) f cdv A outer s H E) rfl
  exact ⟨rd_law_many K, jss_cons (js_ret (je_op kop_add (je_int) (je_callD D_law_take hr tk (ja_cons (je_var 0) (ja_cons (je_ix (je_lst (ja_cons (je_int) (ja_cons (je_int) (ja_cons (je_int) (ja_nil))))) (je_callD D_law_take hr tk (ja_cons (je_var 0) (ja_cons (je_int) (ja_nil))))) (ja_nil)))))) (jss_nil), fun vs G M R Z h => pf_law_many h⟩
theorem df_law_many {P : Program} {w : World} {K : PySem.W.Frag} {mg : Str → Option Value} {base : Heap} {f : Addr} {fd : FuncData} (B : Bs mg) (C : Cs K mg) (F : Fun K "_law_many" "_law_many" s_law_many f fd) (b : Binds K fd ["_law_pool_here"] []) (gm : mg "_law_many" = some (.ref f)) (D_law_take : Def P w K mg base 1 "_law_take" ["_law_pool_here", "_law_many_here"] (S_law_take K)) :
    Def P w K mg base 2 "_law_many" ["_law_pool_here"] (S_law_many K) := ⟨f, fd, fo_law_many B C F D_law_take, gm, F.kp, b⟩
abbrev s_law_models : Stmt := topS 67
abbrev N_law_models : List Str := ["_law_pool_here", "_law_many_here", "_law_crowd", "_law_models_here", "_law_cells", "_law_size", "_law_high", "_law_own_leaves", "_law_k"]
theorem sc_law_models : FnScope N_law_models ["_law_pool_here", "_law_many_here", "_law_crowd"] (defScope s_law_models) := ⟨rfl, rfl, rfl, by decide +kernel, rfl, by decide +kernel, by decide +kernel⟩
theorem fo_law_models {P : Program} {w : World} {K : PySem.W.Frag} {mg : Str → Option Value} {base : Heap} {f : Addr} {fd : FuncData} (B : Bs mg) (C : Cs K mg) (F : Fun K "_law_models" "_law_models" s_law_models f fd) (D_law_take : Def P w K mg base 1 "_law_take" ["_law_pool_here", "_law_many_here"] (S_law_take K)) :
    FnOk P w K mg base (L2.CX P w) 2 f fd ["_law_pool_here", "_law_many_here", "_law_crowd"] (lift (S_law_models K)) := by
  refine fn_ok F sc_law_models (fun vs G M R Z h => sp_len3 h) (fun cdv A outer s H E hr => ?_)
  have nd : N_law_models.Nodup := sc_law_models.nd
  have hu : _ + 64 < cLine := hr.units
  have tk : Takes (cxOf (L2.CX P w) P w K mg base N_law_models "_law_models" (defScope s_law_models) f cdv A outer s H E) (fun c d _ H => E c d H) := takes_of rfl rfl rfl rfl
  have po : PassesOwn (model P w) _ _ _ := passes_of (X := cxOf (L2.CX P w) P w K mg base N_law_models "_law_models" (defScope s_law_models) f cdv A outer s H E) rfl
  exact ⟨rd_law_models K, jss_cons (js_set (i := 3) (je_lst (ja_nil)) nd) (jss_cons (js_set (i := 4) (je_lst (ja_cons (je_var 1) (ja_nil))) nd) (jss_cons (js_while po (jt_cmp (kop_gt) (je_ix (je_var 4) (je_neg (je_int))) (je_int) (nomark _)) (jss_cons (js_set (i := 4) (je_op kop_add (je_var 4) (je_lst (ja_cons (je_op kop_fdiv (je_op kop_add (je_ix (je_var 4) (je_neg (je_int))) (je_int)) (je_int)) (ja_nil)))) nd) (jss_nil))) (jss_cons (js_for po rfl (ji_list (je_var 4)) (jg_name (i := 5) nd) (jss_cons (js_set (i := 6) (je_callB kc_len B.len (ja_cons (je_comp (own := [("_law_k", 8)]) rfl nd (ji_range1 B.range (ja_cons (je_int) (ja_nil))) (blkOk_by (own := [("_law_k", 8)]) (N := N_law_models) (sc := defScope s_law_models) (by decide +kernel)) (fun _ _ _ _ _ => by exact jg_name (i := 8) nd) (fun _ _ _ _ _ => by exact jts_one (jt_cmp (kop_lt) (je_op kop_shl (je_int) (je_var 8)) (je_var 5) (nomark _))) (fun _ _ _ _ _ => by exact je_var 8)) (ja_nil))) nd) (jss_cons (js_setComp (own := [("_law_k", 8)]) (i := 7) rfl nd (sw_true rfl rfl rfl (by decide +kernel)) (ji_range1 B.range (ja_cons (je_var 5) (ja_nil))) (blkOk_by (own := [("_law_k", 8)]) (N := N_law_models) (sc := defScope s_law_models) (by decide +kernel)) (fun _ _ _ _ _ => by exact jg_name (i := 8) nd) (fun _ _ _ _ _ => by exact jts_nil) (fun _ _ _ _ _ => by exact je_op kop_mod (je_callD D_law_take hr takes0 (ja_cons (je_var 0) (ja_cons (je_op kop_shl (je_int) (je_var 6)) (ja_nil)))) (je_var 2))) (jss_cons (js_expr (je_bm PySem.F.plainAttrs_list PySem.F.slot_list_append PySem.F.type_list_append km_append (je_var 3) (ja_cons (je_disp (jps_cons (je_str) (je_var 6) (jps_cons (je_str) (je_var 7) (jps_cons (je_str) (je_dnew) (jps_nil))))) (ja_nil)))) (jss_nil))))) (jss_cons (js_ret (je_var 3)) (jss_nil))))), fun vs G M R Z h => pf_law_models h⟩
theorem df_law_models {P : Program} {w : World} {K : PySem.W.Frag} {mg : Str → Option Value} {base : Heap} {f : Addr} {fd : FuncData} (B : Bs mg) (C : Cs K mg) (F : Fun K "_law_models" "_law_models" s_law_models f fd) (b : Binds K fd ["_law_pool_here", "_law_many_here", "_law_crowd"] []) (gm : mg "_law_models" = some (.ref f)) (D_law_take : Def P w K mg base 1 "_law_take" ["_law_pool_here", "_law_many_here"] (S_law_take K)) :
    Def P w K mg base 2 "_law_models" ["_law_pool_here", "_law_many_here", "_law_crowd"] (S_law_models K) := ⟨f, fd, fo_law_models B C F D_law_take, gm, F.kp, b⟩
abbrev s_is_whole : Stmt := topS 9
abbrev N_is_whole : List Str := ["thing"]
theorem sc_is_whole : FnScope N_is_whole ["thing"] (defScope s_is_whole) := ⟨rfl, rfl, rfl, by decide +kernel, rfl, by decide +kernel, by decide +kernel⟩
theorem fo_is_whole {P : Program} {w : World} {K : PySem.W.Frag} {mg : Str → Option Value} {base : Heap} {f : Addr} {fd : FuncData} (B : Bs mg) (C : Cs K mg) (F : Fun K "is_whole" "is_whole" s_is_whole f fd)  :
    FnOk P w K mg base (L2.CX P w) 1 f fd ["thing"] (lift (S_is_whole K)) := by
  refine fn_ok F sc_is_whole (fun vs G M R Z h => sp_len1 h) (fun cdv A outer s H E hr => ?_)
  have nd : N_is_whole.Nodup := sc_is_whole.nd
  have hu : _ + 64 < cLine := hr.units
  have tk : Takes (cxOf (L2.CX P w) P w K mg base N_is_whole "is_whole" (defScope s_is_whole) f cdv A outer s H E) (fun c d _ H => E c d H) := takes_of rfl rfl rfl rfl
  have po : PassesOwn (model P w) _ _ _ := passes_of (X := cxOf (L2.CX P w) P w K mg base N_is_whole "is_whole" (defScope s_is_whole) f cdv A outer s H E) rfl
  exact ⟨rd_is_whole K, jss_cons (js_ret (je_and (je_callB kc_isi B.isinstance (ja_cons (je_var 0) (ja_cons (je_ty B.int) (ja_nil)))) (je_one (je_not (je_callB kc_isi B.isinstance (ja_cons (je_var 0) (ja_cons (je_ty B.bool) (ja_nil)))))))) (jss_nil), fun vs G M R Z h => pf_is_whole h⟩
theorem df_is_whole {P : Program} {w : World} {K : PySem.W.Frag} {mg : Str → Option Value} {base : Heap} {f : Addr} {fd : FuncData} (B : Bs mg) (C : Cs K mg) (F : Fun K "is_whole" "is_whole" s_is_whole f fd) (b : Binds K fd ["thing"] []) (gm : mg "is_whole" = some (.ref f))  :
    Def P w K mg base 1 "is_whole" ["thing"] (S_is_whole K) := ⟨f, fd, fo_is_whole B C F , gm, F.kp, b⟩
abbrev s_is_within : Stmt := topS 10
abbrev N_is_within : List Str := ["thing", "least", "most"]
theorem sc_is_within : FnScope N_is_within ["thing", "least", "most"] (defScope s_is_within) := ⟨rfl, rfl, rfl, by decide +kernel, rfl, by decide +kernel, by decide +kernel⟩
theorem fo_is_within {P : Program} {w : World} {K : PySem.W.Frag} {mg : Str → Option Value} {base : Heap} {f : Addr} {fd : FuncData} (B : Bs mg) (C : Cs K mg) (F : Fun K "is_within" "is_within" s_is_within f fd) (D_is_whole : Def P w K mg base 1 "is_whole" ["thing"] (S_is_whole K)) :
    FnOk P w K mg base (L2.CX P w) 2 f fd ["thing", "least", "most"] (lift (S_is_within K)) := by
  refine fn_ok F sc_is_within (fun vs G M R Z h => sp_len3 h) (fun cdv A outer s H E hr => ?_)
  have nd : N_is_within.Nodup := sc_is_within.nd
  have hu : _ + 64 < cLine := hr.units
  have tk : Takes (cxOf (L2.CX P w) P w K mg base N_is_within "is_within" (defScope s_is_within) f cdv A outer s H E) (fun c d _ H => E c d H) := takes_of rfl rfl rfl rfl
  have po : PassesOwn (model P w) _ _ _ := passes_of (X := cxOf (L2.CX P w) P w K mg base N_is_within "is_within" (defScope s_is_within) f cdv A outer s H E) rfl
  exact ⟨rd_is_within K, jss_cons (js_ret (je_and (je_callD D_is_whole hr tk (ja_cons (je_var 0) (ja_nil))) (je_one (je_chain (kop_le) (kop_le) (je_var 1) (je_var 0) (je_var 2))))) (jss_nil), fun vs G M R Z h => pf_is_within h⟩
theorem df_is_within {P : Program} {w : World} {K : PySem.W.Frag} {mg : Str → Option Value} {base : Heap} {f : Addr} {fd : FuncData} (B : Bs mg) (C : Cs K mg) (F : Fun K "is_within" "is_within" s_is_within f fd) (b : Binds K fd ["thing", "least", "most"] []) (gm : mg "is_within" = some (.ref f)) (D_is_whole : Def P w K mg base 1 "is_whole" ["thing"] (S_is_whole K)) :
    Def P w K mg base 2 "is_within" ["thing", "least", "most"] (S_is_within K) := ⟨f, fd, fo_is_within B C F D_is_whole, gm, F.kp, b⟩
abbrev s_look_at_many : Stmt := topS 23
abbrev N_look_at_many : List Str := ["many"]
theorem sc_look_at_many : FnScope N_look_at_many ["many"] (defScope s_look_at_many) := ⟨rfl, rfl, rfl, by decide +kernel, rfl, by decide +kernel, by decide +kernel⟩
theorem fo_look_at_many {P : Program} {w : World} {K : PySem.W.Frag} {mg : Str → Option Value} {base : Heap} {f : Addr} {fd : FuncData} (B : Bs mg) (C : Cs K mg) (F : Fun K "look_at_many" "look_at_many" s_look_at_many f fd) (D_is_within : Def P w K mg base 2 "is_within" ["thing", "least", "most"] (S_is_within K)) :
    FnOk P w K mg base (L2.CX P w) 3 f fd ["many"] (lift (S_look_at_many K)) := by
  refine fn_ok F sc_look_at_many (fun vs G M R Z h => sp_len1 h) (fun cdv A outer s H E hr => ?_)
  have nd : N_look_at_many.Nodup := sc_look_at_many.nd
  have hu : _ + 64 < cLine := hr.units
  have tk : Takes (cxOf (L2.CX P w) P w K mg base N_look_at_many "look_at_many" (defScope s_look_at_many) f cdv A outer s H E) (fun c d _ H => E c d H) := takes_of rfl rfl rfl rfl
  have po : PassesOwn (model P w) _ _ _ := passes_of (X := cxOf (L2.CX P w) P w K mg base N_look_at_many "look_at_many" (defScope s_look_at_many) f cdv A outer s H E) rfl
  exact ⟨rd_look_at_many K, jss_cons (js_if (jt_not (jt_val (je_callD D_is_within hr tk (ja_cons (je_var 0) (ja_cons (je_int) (ja_cons (je_const C.k_MOST_CELLS) (ja_nil))))))) (jss_cons (js_raise C.g_NoSize C.r_NoSize tk) (jss_nil)) (jss_nil)) (jss_nil), fun vs G M R Z h => pf_look_at_many h⟩
theorem df_look_at_many {P : Program} {w : World} {K : PySem.W.Frag} {mg : Str → Option Value} {base : Heap} {f : Addr} {fd : FuncData} (B : Bs mg) (C : Cs K mg) (F : Fun K "look_at_many" "look_at_many" s_look_at_many f fd) (b : Binds K fd ["many"] []) (gm : mg "look_at_many" = some (.ref f)) (D_is_within : Def P w K mg base 2 "is_within" ["thing", "least", "most"] (S_is_within K)) :
    Def P w K mg base 3 "look_at_many" ["many"] (S_look_at_many K) := ⟨f, fd, fo_look_at_many B C F D_is_within, gm, F.kp, b⟩
abbrev s_look_at_sizes : Stmt := topS 24
abbrev N_look_at_sizes : List Str := ["many", "most"]
theorem sc_look_at_sizes : FnScope N_look_at_sizes ["many", "most"] (defScope s_look_at_sizes) := ⟨rfl, rfl, rfl, by decide +kernel, rfl, by decide +kernel, by decide +kernel⟩
theorem fo_look_at_sizes {P : Program} {w : World} {K : PySem.W.Frag} {mg : Str → Option Value} {base : Heap} {f : Addr} {fd : FuncData} (B : Bs mg) (C : Cs K mg) (F : Fun K "look_at_sizes" "look_at_sizes" s_look_at_sizes f fd) (D_look_at_many : Def P w K mg base 3 "look_at_many" ["many"] (S_look_at_many K)) (D_is_within : Def P w K mg base 2 "is_within" ["thing", "least", "most"] (S_is_within K)) :
    FnOk P w K mg base (L2.CX P w) 4 f fd ["many", "most"] (lift (S_look_at_sizes K)) := by
  refine fn_ok F sc_look_at_sizes (fun vs G M R Z h => sp_len2 h) (fun cdv A outer s H E hr => ?_)
  have nd : N_look_at_sizes.Nodup := sc_look_at_sizes.nd
  have hu : _ + 64 < cLine := hr.units
  have tk : Takes (cxOf (L2.CX P w) P w K mg base N_look_at_sizes "look_at_sizes" (defScope s_look_at_sizes) f cdv A outer s H E) (fun c d _ H => E c d H) := takes_of rfl rfl rfl rfl
  have po : PassesOwn (model P w) _ _ _ := passes_of (X := cxOf (L2.CX P w) P w K mg base N_look_at_sizes "look_at_sizes" (defScope s_look_at_sizes) f cdv A outer s H E) rfl
  exact ⟨rd_look_at_sizes K, jss_cons (js_expr (je_callD D_look_at_many hr tk (ja_cons (je_var 0) (ja_nil)))) (jss_cons (js_if (jt_not (jt_val (je_callD D_is_within hr tk (ja_cons (je_var 1) (ja_cons (je_int) (ja_cons (je_const C.k_MOST_ASKS) (ja_nil))))))) (jss_cons (js_raise C.g_NoSize C.r_NoSize tk) (jss_nil)) (jss_nil)) (jss_nil)), fun vs G M R Z h => pf_look_at_sizes h⟩
theorem df_look_at_sizes {P : Program} {w : World} {K : PySem.W.Frag} {mg : Str → Option Value} {base : Heap} {f : Addr} {fd : FuncData} (B : Bs mg) (C : Cs K mg) (F : Fun K "look_at_sizes" "look_at_sizes" s_look_at_sizes f fd) (b : Binds K fd ["many", "most"] []) (gm : mg "look_at_sizes" = some (.ref f)) (D_look_at_many : Def P w K mg base 3 "look_at_many" ["many"] (S_look_at_many K)) (D_is_within : Def P w K mg base 2 "is_within" ["thing", "least", "most"] (S_is_within K)) :
    Def P w K mg base 4 "look_at_sizes" ["many", "most"] (S_look_at_sizes K) := ⟨f, fd, fo_look_at_sizes B C F D_look_at_many D_is_within, gm, F.kp, b⟩
abbrev s_side_of : Stmt := topS 25
abbrev N_side_of : List Str := ["many", "side"]
theorem sc_side_of : FnScope N_side_of ["many"] (defScope s_side_of) := ⟨rfl, rfl, rfl, by decide +kernel, rfl, by decide +kernel, by decide +kernel⟩
theorem fo_side_of {P : Program} {w : World} {K : PySem.W.Frag} {mg : Str → Option Value} {base : Heap} {f : Addr} {fd : FuncData} (B : Bs mg) (C : Cs K mg) (F : Fun K "side_of" "side_of" s_side_of f fd)  :
    FnOk P w K mg base (L2.CX P w) 1 f fd ["many"] (lift (S_side_of K)) := by
  refine fn_ok F sc_side_of (fun vs G M R Z h => sp_len1 h) (fun cdv A outer s H E hr => ?_)
  have nd : N_side_of.Nodup := sc_side_of.nd
  have hu : _ + 64 < cLine := hr.units
  have tk : Takes (cxOf (L2.CX P w) P w K mg base N_side_of "side_of" (defScope s_side_of) f cdv A outer s H E) (fun c d _ H => E c d H) := takes_of rfl rfl rfl rfl
  have po : PassesOwn (model P w) _ _ _ := passes_of (X := cxOf (L2.CX P w) P w K mg base N_side_of "side_of" (defScope s_side_of) f cdv A outer s H E) rfl
  exact ⟨rd_side_of K, jss_cons (js_set (i := 1) (je_int) nd) (jss_cons (js_while po (jt_cmp (kop_lt) (je_op kop_mul (je_var 1) (je_var 1)) (je_var 0) (nomark _)) (jss_cons (js_set (i := 1) (je_op kop_add (je_var 1) (je_int)) nd) (jss_nil))) (jss_cons (js_ret (je_var 1)) (jss_nil))), fun vs G M R Z h => pf_side_of h⟩
theorem df_side_of {P : Program} {w : World} {K : PySem.W.Frag} {mg : Str → Option Value} {base : Heap} {f : Addr} {fd : FuncData} (B : Bs mg) (C : Cs K mg) (F : Fun K "side_of" "side_of" s_side_of f fd) (b : Binds K fd ["many"] []) (gm : mg "side_of" = some (.ref f))  :
    Def P w K mg base 1 "side_of" ["many"] (S_side_of K) := ⟨f, fd, fo_side_of B C F , gm, F.kp, b⟩
abbrev s_spare_needs : Stmt := topS 43
abbrev N_spare_needs : List Str := ["many", "most", "side", "start"]
theorem sc_spare_needs : FnScope N_spare_needs ["many", "most"] (defScope s_spare_needs) := ⟨rfl, rfl, rfl, by decide +kernel, rfl, by decide +kernel, by decide +kernel⟩
theorem fo_spare_needs {P : Program} {w : World} {K : PySem.W.Frag} {mg : Str → Option Value} {base : Heap} {f : Addr} {fd : FuncData} (B : Bs mg) (C : Cs K mg) (F : Fun K "spare_needs" "spare_needs" s_spare_needs f fd) (D_side_of : Def P w K mg base 1 "side_of" ["many"] (S_side_of K)) :
    FnOk P w K mg base (L2.CX P w) 2 f fd ["many", "most"] (lift (S_spare_needs K)) := by
  refine fn_ok F sc_spare_needs (fun vs G M R Z h => sp_len2 h) (fun cdv A outer s H E hr => ?_)
  have nd : N_spare_needs.Nodup := sc_spare_needs.nd
  have hu : _ + 64 < cLine := hr.units
  have tk : Takes (cxOf (L2.CX P w) P w K mg base N_spare_needs "spare_needs" (defScope s_spare_needs) f cdv A outer s H E) (fun c d _ H => E c d H) := takes_of rfl rfl rfl rfl
  have po : PassesOwn (model P w) _ _ _ := passes_of (X := cxOf (L2.CX P w) P w K mg base N_spare_needs "spare_needs" (defScope s_spare_needs) f cdv A outer s H E) rfl
  exact ⟨rd_spare_needs K, jss_cons (js_set (i := 2) (je_callD D_side_of hr tk (ja_cons (je_var 0) (ja_nil))) nd) (jss_cons (js_ret (je_comp (own := [("start", 3)]) rfl nd (ji_range3 B.range (ja_cons (je_int) (ja_cons (je_var 1) (ja_cons (je_var 2) (ja_nil))))) (blkOk_by (own := [("start", 3)]) (N := N_spare_needs) (sc := defScope s_spare_needs) (by decide +kernel)) (fun _ _ _ _ _ => by exact jg_name (i := 3) nd) (fun _ _ _ _ _ => by exact jts_nil) (fun _ _ _ _ _ => by exact je_tup (ja_cons (je_str) (ja_cons (je_op kop_add (je_var 0) (je_var 2)) (ja_nil)))))) (jss_nil)), fun vs G M R Z h => pf_spare_needs h⟩
theorem df_spare_needs {P : Program} {w : World} {K : PySem.W.Frag} {mg : Str → Option Value} {base : Heap} {f : Addr} {fd : FuncData} (B : Bs mg) (C : Cs K mg) (F : Fun K "spare_needs" "spare_needs" s_spare_needs f fd) (b : Binds K fd ["many", "most"] []) (gm : mg "spare_needs" = some (.ref f)) (D_side_of : Def P w K mg base 1 "side_of" ["many"] (S_side_of K)) :
    Def P w K mg base 2 "spare_needs" ["many", "most"] (S_spare_needs K) := ⟨f, fd, fo_spare_needs B C F D_side_of, gm, F.kp, b⟩
abbrev s_high_of : Stmt := topS 26
abbrev N_high_of : List Str := ["many", "high"]
theorem sc_high_of : FnScope N_high_of ["many"] (defScope s_high_of) := ⟨rfl, rfl, rfl, by decide +kernel, rfl, by decide +kernel, by decide +kernel⟩
theorem fo_high_of {P : Program} {w : World} {K : PySem.W.Frag} {mg : Str → Option Value} {base : Heap} {f : Addr} {fd : FuncData} (B : Bs mg) (C : Cs K mg) (F : Fun K "high_of" "high_of" s_high_of f fd)  :
    FnOk P w K mg base (L2.CX P w) 1 f fd ["many"] (lift (S_high_of K)) := by
  refine fn_ok F sc_high_of (fun vs G M R Z h => sp_len1 h) (fun cdv A outer s H E hr => ?_)
  have nd : N_high_of.Nodup := sc_high_of.nd
  have hu : _ + 64 < cLine := hr.units
  have tk : Takes (cxOf (L2.CX P w) P w K mg base N_high_of "high_of" (defScope s_high_of) f cdv A outer s H E) (fun c d _ H => E c d H) := takes_of rfl rfl rfl rfl
  have po : PassesOwn (model P w) _ _ _ := passes_of (X := cxOf (L2.CX P w) P w K mg base N_high_of "high_of" (defScope s_high_of) f cdv A outer s H E) rfl
  exact ⟨rd_high_of K, jss_cons (js_set (i := 1) (je_int) nd) (jss_cons (js_while po (jt_cmp (kop_lt) (je_op kop_shl (je_int) (je_var 1)) (je_var 0) (nomark _)) (jss_cons (js_set (i := 1) (je_op kop_add (je_var 1) (je_int)) nd) (jss_nil))) (jss_cons (js_ret (je_var 1)) (jss_nil))), fun vs G M R Z h => pf_high_of h⟩
theorem df_high_of {P : Program} {w : World} {K : PySem.W.Frag} {mg : Str → Option Value} {base : Heap} {f : Addr} {fd : FuncData} (B : Bs mg) (C : Cs K mg) (F : Fun K "high_of" "high_of" s_high_of f fd) (b : Binds K fd ["many"] []) (gm : mg "high_of" = some (.ref f))  :
    Def P w K mg base 1 "high_of" ["many"] (S_high_of K) := ⟨f, fd, fo_high_of B C F , gm, F.kp, b⟩
abbrev s_last_of : Stmt := topS 27
abbrev N_last_of : List Str := ["many"]
theorem sc_last_of : FnScope N_last_of ["many"] (defScope s_last_of) := ⟨rfl, rfl, rfl, by decide +kernel, rfl, by decide +kernel, by decide +kernel⟩
theorem fo_last_of {P : Program} {w : World} {K : PySem.W.Frag} {mg : Str → Option Value} {base : Heap} {f : Addr} {fd : FuncData} (B : Bs mg) (C : Cs K mg) (F : Fun K "last_of" "last_of" s_last_of f fd) (D_high_of : Def P w K mg base 1 "high_of" ["many"] (S_high_of K)) :
    FnOk P w K mg base (L2.CX P w) 2 f fd ["many"] (lift (S_last_of K)) := by
  refine fn_ok F sc_last_of (fun vs G M R Z h => sp_len1 h) (fun cdv A outer s H E hr => ?_)
  have nd : N_last_of.Nodup := sc_last_of.nd
  have hu : _ + 64 < cLine := hr.units
  have tk : Takes (cxOf (L2.CX P w) P w K mg base N_last_of "last_of" (defScope s_last_of) f cdv A outer s H E) (fun c d _ H => E c d H) := takes_of rfl rfl rfl rfl
  have po : PassesOwn (model P w) _ _ _ := passes_of (X := cxOf (L2.CX P w) P w K mg base N_last_of "last_of" (defScope s_last_of) f cdv A outer s H E) rfl
  exact ⟨rd_last_of K, jss_cons (js_ret (je_callB kc_max2 B.max (ja_cons (je_int) (ja_cons (je_op kop_sub (je_callD D_high_of hr tk (ja_cons (je_var 0) (ja_nil))) (je_int)) (ja_nil))))) (jss_nil), fun vs G M R Z h => pf_last_of h⟩
theorem df_last_of {P : Program} {w : World} {K : PySem.W.Frag} {mg : Str → Option Value} {base : Heap} {f : Addr} {fd : FuncData} (B : Bs mg) (C : Cs K mg) (F : Fun K "last_of" "last_of" s_last_of f fd) (b : Binds K fd ["many"] []) (gm : mg "last_of" = some (.ref f)) (D_high_of : Def P w K mg base 1 "high_of" ["many"] (S_high_of K)) :
    Def P w K mg base 2 "last_of" ["many"] (S_last_of K) := ⟨f, fd, fo_last_of B C F D_high_of, gm, F.kp, b⟩
abbrev s_stair_of : Stmt := topS 29
abbrev N_stair_of : List Str := ["many", "pour", "stair"]
theorem sc_stair_of : FnScope N_stair_of ["many", "pour"] (defScope s_stair_of) := ⟨rfl, rfl, rfl, by decide +kernel, rfl, by decide +kernel, by decide +kernel⟩
theorem fo_stair_of {P : Program} {w : World} {K : PySem.W.Frag} {mg : Str → Option Value} {base : Heap} {f : Addr} {fd : FuncData} (B : Bs mg) (C : Cs K mg) (F : Fun K "stair_of" "stair_of" s_stair_of f fd) (D_last_of : Def P w K mg base 2 "last_of" ["many"] (S_last_of K)) :
    FnOk P w K mg base (L2.CX P w) 3 f fd ["many", "pour"] (lift (S_stair_of K)) := by
  refine fn_ok F sc_stair_of (fun vs G M R Z h => sp_len2 h) (fun cdv A outer s H E hr => ?_)
  have nd : N_stair_of.Nodup := sc_stair_of.nd
  have hu : _ + 64 < cLine := hr.units
  have tk : Takes (cxOf (L2.CX P w) P w K mg base N_stair_of "stair_of" (defScope s_stair_of) f cdv A outer s H E) (fun c d _ H => E c d H) := takes_of rfl rfl rfl rfl
  have po : PassesOwn (model P w) _ _ _ := passes_of (X := cxOf (L2.CX P w) P w K mg base N_stair_of "stair_of" (defScope s_stair_of) f cdv A outer s H E) rfl
  exact ⟨rd_stair_of K, jss_cons (js_set (i := 2) (je_int) nd) (jss_cons (js_while po ((jw_and (jt_cmp (kop_lt) (je_var 2) (je_callD D_last_of hr tk (ja_cons (je_var 0) (ja_nil))) (nomark _)) (jw_and1 (jt_cmp (kop_eq hu) (je_op kop_mod (je_var 1) (je_op kop_shl (je_int) (je_var 2))) (je_int) (nomark _)))).jt) (jss_cons (js_set (i := 2) (je_op kop_add (je_var 2) (je_int)) nd) (jss_nil))) (jss_cons (js_ret (je_var 2)) (jss_nil))), fun vs G M R Z h => pf_stair_of h⟩
theorem df_stair_of {P : Program} {w : World} {K : PySem.W.Frag} {mg : Str → Option Value} {base : Heap} {f : Addr} {fd : FuncData} (B : Bs mg) (C : Cs K mg) (F : Fun K "stair_of" "stair_of" s_stair_of f fd) (b : Binds K fd ["many", "pour"] []) (gm : mg "stair_of" = some (.ref f)) (D_last_of : Def P w K mg base 2 "last_of" ["many"] (S_last_of K)) :
    Def P w K mg base 3 "stair_of" ["many", "pour"] (S_stair_of K) := ⟨f, fd, fo_stair_of B C F D_last_of, gm, F.kp, b⟩
abbrev s_slots_of : Stmt := topS 28
abbrev N_slots_of : List Str := ["many", "stair", "spare"]
theorem sc_slots_of : FnScope N_slots_of ["many", "stair"] (defScope s_slots_of) := ⟨rfl, rfl, rfl, by decide +kernel, rfl, by decide +kernel, by decide +kernel⟩
theorem fo_slots_of {P : Program} {w : World} {K : PySem.W.Frag} {mg : Str → Option Value} {base : Heap} {f : Addr} {fd : FuncData} (B : Bs mg) (C : Cs K mg) (F : Fun K "slots_of" "slots_of" s_slots_of f fd) (D_last_of : Def P w K mg base 2 "last_of" ["many"] (S_last_of K)) :
    FnOk P w K mg base (L2.CX P w) 3 f fd ["many", "stair"] (lift (S_slots_of K)) := by
  refine fn_ok F sc_slots_of (fun vs G M R Z h => sp_len2 h) (fun cdv A outer s H E hr => ?_)
  have nd : N_slots_of.Nodup := sc_slots_of.nd
  have hu : _ + 64 < cLine := hr.units
  have tk : Takes (cxOf (L2.CX P w) P w K mg base N_slots_of "slots_of" (defScope s_slots_of) f cdv A outer s H E) (fun c d _ H => E c d H) := takes_of rfl rfl rfl rfl
  have po : PassesOwn (model P w) _ _ _ := passes_of (X := cxOf (L2.CX P w) P w K mg base N_slots_of "slots_of" (defScope s_slots_of) f cdv A outer s H E) rfl
  exact ⟨rd_slots_of K, jss_cons (js_set (i := 2) (je_op kop_shl (je_int) (je_var 1)) nd) (jss_cons (js_if (jt_cmp (kop_eq hu) (je_var 1) (je_callD D_last_of hr tk (ja_cons (je_var 0) (ja_nil))) (nomark _)) (jss_cons (js_ret (je_tup (ja_cons (je_var 0) (ja_cons (je_var 2) (ja_nil))))) (jss_nil)) (jss_nil)) (jss_cons (js_ret (je_tup (ja_cons (je_var 2) (ja_cons (je_var 2) (ja_nil))))) (jss_nil))), fun vs G M R Z h => pf_slots_of h⟩
theorem df_slots_of {P : Program} {w : World} {K : PySem.W.Frag} {mg : Str → Option Value} {base : Heap} {f : Addr} {fd : FuncData} (B : Bs mg) (C : Cs K mg) (F : Fun K "slots_of" "slots_of" s_slots_of f fd) (b : Binds K fd ["many", "stair"] []) (gm : mg "slots_of" = some (.ref f)) (D_last_of : Def P w K mg base 2 "last_of" ["many"] (S_last_of K)) :
    Def P w K mg base 3 "slots_of" ["many", "stair"] (S_slots_of K) := ⟨f, fd, fo_slots_of B C F D_last_of, gm, F.kp, b⟩
abbrev s_stairs_needs : Stmt := topS 44
abbrev N_stairs_needs : List Str := ["many", "most", "stairs", "pour", "stair"]
theorem sc_stairs_needs : FnScope N_stairs_needs ["many", "most"] (defScope s_stairs_needs) := ⟨rfl, rfl, rfl, by decide +kernel, rfl, by decide +kernel, by decide +kernel⟩
theorem fo_stairs_needs {P : Program} {w : World} {K : PySem.W.Frag} {mg : Str → Option Value} {base : Heap} {f : Addr} {fd : FuncData} (B : Bs mg) (C : Cs K mg) (F : Fun K "stairs_needs" "stairs_needs" s_stairs_needs f fd) (D_last_of : Def P w K mg base 2 "last_of" ["many"] (S_last_of K)) (D_stair_of : Def P w K mg base 3 "stair_of" ["many", "pour"] (S_stair_of K)) (D_slots_of : Def P w K mg base 3 "slots_of" ["many", "stair"] (S_slots_of K)) :
    FnOk P w K mg base (L2.CX P w) 4 f fd ["many", "most"] (lift (S_stairs_needs K)) := by
  refine fn_ok F sc_stairs_needs (fun vs G M R Z h => sp_len2 h) (fun cdv A outer s H E hr => ?_)
  have nd : N_stairs_needs.Nodup := sc_stairs_needs.nd
  have hu : _ + 64 < cLine := hr.units
  have tk : Takes (cxOf (L2.CX P w) P w K mg base N_stairs_needs "stairs_needs" (defScope s_stairs_needs) f cdv A outer s H E) (fun c d _ H => E c d H) := takes_of rfl rfl rfl rfl
  have po : PassesOwn (model P w) _ _ _ := passes_of (X := cxOf (L2.CX P w) P w K mg base N_stairs_needs "stairs_needs" (defScope s_stairs_needs) f cdv A outer s H E) rfl
  exact ⟨rd_stairs_needs K, jss_cons (js_if (jt_cmp (kop_eq hu) (je_var 1) (je_int) (nomark _)) (jss_cons (js_ret (je_lst (ja_nil))) (jss_nil)) (jss_nil)) (jss_cons (js_set (i := 2) (je_op kop_add (je_lst (ja_cons (je_callD D_last_of hr tk (ja_cons (je_var 0) (ja_nil))) (ja_nil))) (je_comp (own := [("pour", 3)]) rfl nd (ji_range2 B.range (ja_cons (je_int) (ja_cons (je_op kop_fdiv (je_op kop_add (je_var 1) (je_int)) (je_int)) (ja_nil)))) (blkOk_by (own := [("pour", 3)]) (N := N_stairs_needs) (sc := defScope s_stairs_needs) (by decide +kernel)) (fun _ _ _ _ _ => by exact jg_name (i := 3) nd) (fun _ _ _ _ _ => by exact jts_nil) (fun _ _ _ _ _ => by exact je_callD D_stair_of hr takes0 (ja_cons (je_var 0) (ja_cons (je_var 3) (ja_nil)))))) nd) (jss_cons (js_ret (je_comp (own := [("stair", 4)]) rfl nd (ji_list (je_var 2)) (blkOk_by (own := [("stair", 4)]) (N := N_stairs_needs) (sc := defScope s_stairs_needs) (by decide +kernel)) (fun _ _ _ _ _ => by exact jg_name (i := 4) nd) (fun _ _ _ _ _ => by exact jts_nil) (fun _ _ _ _ _ => by exact je_tup (ja_cons (je_str) (ja_cons (je_callB kc_sumS B.sum (ja_cons (je_callD D_slots_of hr takes0 (ja_cons (je_var 0) (ja_cons (je_var 4) (ja_nil)))) (ja_nil))) (ja_nil)))))) (jss_nil))), fun vs G M R Z h => pf_stairs_needs h⟩
theorem df_stairs_needs {P : Program} {w : World} {K : PySem.W.Frag} {mg : Str → Option Value} {base : Heap} {f : Addr} {fd : FuncData} (B : Bs mg) (C : Cs K mg) (F : Fun K "stairs_needs" "stairs_needs" s_stairs_needs f fd) (b : Binds K fd ["many", "most"] []) (gm : mg "stairs_needs" = some (.ref f)) (D_last_of : Def P w K mg base 2 "last_of" ["many"] (S_last_of K)) (D_stair_of : Def P w K mg base 3 "stair_of" ["many", "pour"] (S_stair_of K)) (D_slots_of : Def P w K mg base 3 "slots_of" ["many", "stair"] (S_slots_of K)) :
    Def P w K mg base 4 "stairs_needs" ["many", "most"] (S_stairs_needs K) := ⟨f, fd, fo_stairs_needs B C F D_last_of D_stair_of D_slots_of, gm, F.kp, b⟩
abbrev s_grove_needs : Stmt := topS 45
abbrev N_grove_needs : List Str := ["trees", "most", "kinds", "many"]
theorem sc_grove_needs : FnScope N_grove_needs ["trees", "most"] (defScope s_grove_needs) := ⟨rfl, rfl, rfl, by decide +kernel, rfl, by decide +kernel, by decide +kernel⟩
theorem fo_grove_needs {P : Program} {w : World} {K : PySem.W.Frag} {mg : Str → Option Value} {base : Heap} {f : Addr} {fd : FuncData} (B : Bs mg) (C : Cs K mg) (F : Fun K "grove_needs" "grove_needs" s_grove_needs f fd) (D_high_of : Def P w K mg base 1 "high_of" ["many"] (S_high_of K)) :
    FnOk P w K mg base (L2.CX P w) 2 f fd ["trees", "most"] (lift (S_grove_needs K)) := by
  refine fn_ok F sc_grove_needs (fun vs G M R Z h => sp_len2 h) (fun cdv A outer s H E hr => ?_)
  have nd : N_grove_needs.Nodup := sc_grove_needs.nd
  have hu : _ + 64 < cLine := hr.units
  have tk : Takes (cxOf (L2.CX P w) P w K mg base N_grove_needs "grove_needs" (defScope s_grove_needs) f cdv A outer s H E) (fun c d _ H => E c d H) := takes_of rfl rfl rfl rfl
  have po : PassesOwn (model P w) _ _ _ := passes_of (X := cxOf (L2.CX P w) P w K mg base N_grove_needs "grove_needs" (defScope s_grove_needs) f cdv A outer s H E) rfl
  exact ⟨rd_grove_needs K, jss_cons (js_set (i := 2) (je_lst (ja_nil)) nd) (jss_cons (js_for po rfl (ji_list (je_var 0)) (jg_name (i := 3) nd) (jss_cons (js_set (i := 2) (je_op kop_add (je_var 2) (je_op kop_mul (je_lst (ja_cons (je_tup (ja_cons (je_str) (ja_cons (je_callD D_high_of hr tk (ja_cons (je_var 3) (ja_nil))) (ja_nil)))) (ja_nil))) (je_var 3))) nd) (jss_nil))) (jss_cons (js_ret (je_op kop_add (je_var 2) (je_op kop_mul (je_comp (own := [("many", 3)]) rfl nd (ji_list (je_var 0)) (blkOk_by (own := [("many", 3)]) (N := N_grove_needs) (sc := defScope s_grove_needs) (by decide +kernel)) (fun _ _ _ _ _ => by exact jg_name (i := 3) nd) (fun _ _ _ _ _ => by exact jts_nil) (fun _ _ _ _ _ => by exact je_tup (ja_cons (je_str) (ja_cons (je_callD D_high_of hr takes0 (ja_cons (je_var 3) (ja_nil))) (ja_nil))))) (je_var 1)))) (jss_nil))), fun vs G M R Z h => pf_grove_needs h⟩
theorem df_grove_needs {P : Program} {w : World} {K : PySem.W.Frag} {mg : Str → Option Value} {base : Heap} {f : Addr} {fd : FuncData} (B : Bs mg) (C : Cs K mg) (F : Fun K "grove_needs" "grove_needs" s_grove_needs f fd) (b : Binds K fd ["trees", "most"] []) (gm : mg "grove_needs" = some (.ref f)) (D_high_of : Def P w K mg base 1 "high_of" ["many"] (S_high_of K)) :
    Def P w K mg base 2 "grove_needs" ["trees", "most"] (S_grove_needs K) := ⟨f, fd, fo_grove_needs B C F D_high_of, gm, F.kp, b⟩
abbrev s_trees_of : Stmt := topS 30
abbrev N_trees_of : List Str := ["many", "found"]
theorem sc_trees_of : FnScope N_trees_of ["many"] (defScope s_trees_of) := ⟨rfl, rfl, rfl, by decide +kernel, rfl, by decide +kernel, by decide +kernel⟩
theorem fo_trees_of {P : Program} {w : World} {K : PySem.W.Frag} {mg : Str → Option Value} {base : Heap} {f : Addr} {fd : FuncData} (B : Bs mg) (C : Cs K mg) (F : Fun K "trees_of" "trees_of" s_trees_of f fd)  :
    FnOk P w K mg base (L2.CX P w) 1 f fd ["many"] (lift (S_trees_of K)) := by
  refine fn_ok F sc_trees_of (fun vs G M R Z h => sp_len1 h) (fun cdv A outer s H E hr => ?_)
  have nd : N_trees_of.Nodup := sc_trees_of.nd
  have hu : _ + 64 < cLine := hr.units
  have tk : Takes (cxOf (L2.CX P w) P w K mg base N_trees_of "trees_of" (defScope s_trees_of) f cdv A outer s H E) (fun c d _ H => E c d H) := takes_of rfl rfl rfl rfl
  have po : PassesOwn (model P w) _ _ _ := passes_of (X := cxOf (L2.CX P w) P w K mg base N_trees_of "trees_of" (defScope s_trees_of) f cdv A outer s H E) rfl
  exact ⟨rd_trees_of K, jss_cons (js_set (i := 1) (je_lst (ja_cons (je_var 0) (ja_nil))) nd) (jss_cons (js_while po (jt_cmp (kop_gt) (je_ix (je_var 1) (je_neg (je_int))) (je_const C.k_TABLE) (nomark _)) (jss_cons (js_expr (je_bm PySem.F.plainAttrs_list PySem.F.slot_list_append PySem.F.type_list_append km_append (je_var 1) (ja_cons (je_op kop_fdiv (je_op kop_sub (je_op kop_add (je_ix (je_var 1) (je_neg (je_int))) (je_const C.k_TABLE)) (je_int)) (je_const C.k_TABLE)) (ja_nil)))) (jss_nil))) (jss_cons (js_ret (je_var 1)) (jss_nil))), fun vs G M R Z h => pf_trees_of h⟩
theorem df_trees_of {P : Program} {w : World} {K : PySem.W.Frag} {mg : Str → Option Value} {base : Heap} {f : Addr} {fd : FuncData} (B : Bs mg) (C : Cs K mg) (F : Fun K "trees_of" "trees_of" s_trees_of f fd) (b : Binds K fd ["many"] []) (gm : mg "trees_of" = some (.ref f))  :
    Def P w K mg base 1 "trees_of" ["many"] (S_trees_of K) := ⟨f, fd, fo_trees_of B C F , gm, F.kp, b⟩
abbrev s_kinds_of : Stmt := topS 46
abbrev N_kinds_of : List Str := ["way", "many", "most"]
theorem sc_kinds_of : FnScope N_kinds_of ["way", "many", "most"] (defScope s_kinds_of) := ⟨rfl, rfl, rfl, by decide +kernel, rfl, by decide +kernel, by decide +kernel⟩
theorem fo_kinds_of {P : Program} {w : World} {K : PySem.W.Frag} {mg : Str → Option Value} {base : Heap} {f : Addr} {fd : FuncData} (B : Bs mg) (C : Cs K mg) (F : Fun K "kinds_of" "kinds_of" s_kinds_of f fd) (D_spare_needs : Def P w K mg base 2 "spare_needs" ["many", "most"] (S_spare_needs K)) (D_stairs_needs : Def P w K mg base 4 "stairs_needs" ["many", "most"] (S_stairs_needs K)) (D_grove_needs : Def P w K mg base 2 "grove_needs" ["trees", "most"] (S_grove_needs K)) (D_trees_of : Def P w K mg base 1 "trees_of" ["many"] (S_trees_of K)) :
    FnOk P w K mg base (L2.CX P w) 5 f fd ["way", "many", "most"] (lift (S_kinds_of K)) := by
  refine fn_ok F sc_kinds_of (fun vs G M R Z h => sp_len3 h) (fun cdv A outer s H E hr => ?_)
  have nd : N_kinds_of.Nodup := sc_kinds_of.nd
  have hu : _ + 64 < cLine := hr.units
  have tk : Takes (cxOf (L2.CX P w) P w K mg base N_kinds_of "kinds_of" (defScope s_kinds_of) f cdv A outer s H E) (fun c d _ H => E c d H) := takes_of rfl rfl rfl rfl
  have po : PassesOwn (model P w) _ _ _ := passes_of (X := cxOf (L2.CX P w) P w K mg base N_kinds_of "kinds_of" (defScope s_kinds_of) f cdv A outer s H E) rfl
  exact ⟨rd_kinds_of K, jss_cons (js_if (jt_cmp (kop_eq hu) (je_var 0) (je_str) (nomark _)) (jss_cons (js_ret (je_callD D_spare_needs hr tk (ja_cons (je_var 1) (ja_cons (je_var 2) (ja_nil))))) (jss_nil)) (jss_nil)) (jss_cons (js_if (jt_cmp (kop_eq hu) (je_var 0) (je_str) (nomark _)) (jss_cons (js_ret (je_callD D_stairs_needs hr tk (ja_cons (je_var 1) (ja_cons (je_var 2) (ja_nil))))) (jss_nil)) (jss_nil)) (jss_cons (js_if (jt_cmp (kop_eq hu) (je_var 0) (je_str) (nomark _)) (jss_cons (js_ret (je_callD D_grove_needs hr tk (ja_cons (je_lst (ja_cons (je_var 1) (ja_nil))) (ja_cons (je_var 2) (ja_nil))))) (jss_nil)) (jss_nil)) (jss_cons (js_if (jt_cmp (kop_eq hu) (je_var 0) (je_str) (nomark _)) (jss_cons (js_ret (je_callD D_grove_needs hr tk (ja_cons (je_callD D_trees_of hr tk (ja_cons (je_var 1) (ja_nil))) (ja_cons (je_var 2) (ja_nil))))) (jss_nil)) (jss_nil)) (jss_cons (js_ret (je_lst (ja_nil))) (jss_nil))))), fun vs G M R Z h => pf_kinds_of h⟩
theorem df_kinds_of {P : Program} {w : World} {K : PySem.W.Frag} {mg : Str → Option Value} {base : Heap} {f : Addr} {fd : FuncData} (B : Bs mg) (C : Cs K mg) (F : Fun K "kinds_of" "kinds_of" s_kinds_of f fd) (b : Binds K fd ["way", "many", "most"] []) (gm : mg "kinds_of" = some (.ref f)) (D_spare_needs : Def P w K mg base 2 "spare_needs" ["many", "most"] (S_spare_needs K)) (D_stairs_needs : Def P w K mg base 4 "stairs_needs" ["many", "most"] (S_stairs_needs K)) (D_grove_needs : Def P w K mg base 2 "grove_needs" ["trees", "most"] (S_grove_needs K)) (D_trees_of : Def P w K mg base 1 "trees_of" ["many"] (S_trees_of K)) :
    Def P w K mg base 5 "kinds_of" ["way", "many", "most"] (S_kinds_of K) := ⟨f, fd, fo_kinds_of B C F D_spare_needs D_stairs_needs D_grove_needs D_trees_of, gm, F.kp, b⟩
abbrev s_leaves : Stmt := topS 39
abbrev N_leaves : List Str := ["high"]
theorem sc_leaves : FnScope N_leaves ["high"] (defScope s_leaves) := ⟨rfl, rfl, rfl, by decide +kernel, rfl, by decide +kernel, by decide +kernel⟩
theorem fo_leaves {P : Program} {w : World} {K : PySem.W.Frag} {mg : Str → Option Value} {base : Heap} {f : Addr} {fd : FuncData} (B : Bs mg) (C : Cs K mg) (F : Fun K "leaves" "leaves" s_leaves f fd)  :
    FnOk P w K mg base (L2.CX P w) 1 f fd ["high"] (lift (S_leaves K)) := by
  refine fn_ok F sc_leaves (fun vs G M R Z h => sp_len1 h) (fun cdv A outer s H E hr => ?_)
  have nd : N_leaves.Nodup := sc_leaves.nd
  have hu : _ + 64 < cLine := hr.units
  have tk : Takes (cxOf (L2.CX P w) P w K mg base N_leaves "leaves" (defScope s_leaves) f cdv A outer s H E) (fun c d _ H => E c d H) := takes_of rfl rfl rfl rfl
  have po : PassesOwn (model P w) _ _ _ := passes_of (X := cxOf (L2.CX P w) P w K mg base N_leaves "leaves" (defScope s_leaves) f cdv A outer s H E) rfl
  exact ⟨rd_leaves K, jss_cons (js_ret (je_op kop_shl (je_int) (je_var 0))) (jss_nil), fun vs G M R Z h => pf_leaves h⟩
theorem df_leaves {P : Program} {w : World} {K : PySem.W.Frag} {mg : Str → Option Value} {base : Heap} {f : Addr} {fd : FuncData} (B : Bs mg) (C : Cs K mg) (F : Fun K "leaves" "leaves" s_leaves f fd) (b : Binds K fd ["high"] []) (gm : mg "leaves" = some (.ref f))  :
    Def P w K mg base 1 "leaves" ["high"] (S_leaves K) := ⟨f, fd, fo_leaves B C F , gm, F.kp, b⟩
abbrev s_is_row : Stmt := topS 37
abbrev N_is_row : List Str := ["size", "thing", "place", "number"]
theorem sc_is_row : FnScope N_is_row ["size", "thing"] (defScope s_is_row) := ⟨rfl, rfl, rfl, by decide +kernel, rfl, by decide +kernel, by decide +kernel⟩
theorem fo_is_row {P : Program} {w : World} {K : PySem.W.Frag} {mg : Str → Option Value} {base : Heap} {f : Addr} {fd : FuncData} (B : Bs mg) (C : Cs K mg) (F : Fun K "is_row" "is_row" s_is_row f fd) (D_is_within : Def P w K mg base 2 "is_within" ["thing", "least", "most"] (S_is_within K)) :
    FnOk P w K mg base (L2.CX P w) 3 f fd ["size", "thing"] (lift (S_is_row K)) := by
  refine fn_ok F sc_is_row (fun vs G M R Z h => sp_len2 h) (fun cdv A outer s H E hr => ?_)
  have nd : N_is_row.Nodup := sc_is_row.nd
  have hu : _ + 64 < cLine := hr.units
  have tk : Takes (cxOf (L2.CX P w) P w K mg base N_is_row "is_row" (defScope s_is_row) f cdv A outer s H E) (fun c d _ H => E c d H) := takes_of rfl rfl rfl rfl
  have po : PassesOwn (model P w) _ _ _ := passes_of (X := cxOf (L2.CX P w) P w K mg base N_is_row "is_row" (defScope s_is_row) f cdv A outer s H E) rfl
  exact ⟨rd_is_row K, jss_cons (js_if ((jw_or (jt_not (jt_val (je_callB kc_isi B.isinstance (ja_cons (je_var 1) (ja_cons (je_ty B.list) (ja_nil)))))) (jw_or1 (jt_cmp (kop_ne hu) (je_callB kc_len B.len (ja_cons (je_var 1) (ja_nil))) (je_var 0) (nomark _)))).jt) (jss_cons (js_ret (je_bl)) (jss_nil)) (jss_nil)) (jss_cons (js_ret (je_callB kc_all B.all (ja_cons (je_comp (own := [("place", 2), ("number", 3)]) rfl nd (ji_enum B.enumerate (ja_cons (je_var 1) (ja_nil))) (blkOk_by (own := [("place", 2), ("number", 3)]) (N := N_is_row) (sc := defScope s_is_row) (by decide +kernel)) (fun _ _ _ _ _ => by exact jg_tup rfl (jgs_cons (jg_name (i := 2) nd) (jgs_cons (jg_name (i := 3) nd) (jgs_nil)))) (fun _ _ _ _ _ => by exact jts_nil) (fun _ _ _ _ _ => by exact je_callD D_is_within hr takes0 (ja_cons (je_var 3) (ja_cons (je_int) (ja_cons (je_var 2) (ja_nil)))))) (ja_nil)))) (jss_nil)), fun vs G M R Z h => pf_is_row h⟩
theorem df_is_row {P : Program} {w : World} {K : PySem.W.Frag} {mg : Str → Option Value} {base : Heap} {f : Addr} {fd : FuncData} (B : Bs mg) (C : Cs K mg) (F : Fun K "is_row" "is_row" s_is_row f fd) (b : Binds K fd ["size", "thing"] []) (gm : mg "is_row" = some (.ref f)) (D_is_within : Def P w K mg base 2 "is_within" ["thing", "least", "most"] (S_is_within K)) :
    Def P w K mg base 3 "is_row" ["size", "thing"] (S_is_row K) := ⟨f, fd, fo_is_row B C F D_is_within, gm, F.kp, b⟩
abbrev s_is_draw : Stmt := topS 38
abbrev N_is_draw : List Str := ["kind", "thing"]
theorem sc_is_draw : FnScope N_is_draw ["kind", "thing"] (defScope s_is_draw) := ⟨rfl, rfl, rfl, by decide +kernel, rfl, by decide +kernel, by decide +kernel⟩
theorem fo_is_draw {P : Program} {w : World} {K : PySem.W.Frag} {mg : Str → Option Value} {base : Heap} {f : Addr} {fd : FuncData} (B : Bs mg) (C : Cs K mg) (F : Fun K "is_draw" "is_draw" s_is_draw f fd) (D_leaves : Def P w K mg base 1 "leaves" ["high"] (S_leaves K)) (D_is_within : Def P w K mg base 2 "is_within" ["thing", "least", "most"] (S_is_within K)) (D_is_row : Def P w K mg base 3 "is_row" ["size", "thing"] (S_is_row K)) :
    FnOk P w K mg base (L2.CX P w) 4 f fd ["kind", "thing"] (lift (S_is_draw K)) := by
  refine fn_ok F sc_is_draw (fun vs G M R Z h => sp_len2 h) (fun cdv A outer s H E hr => ?_)
  have nd : N_is_draw.Nodup := sc_is_draw.nd
  have hu : _ + 64 < cLine := hr.units
  have tk : Takes (cxOf (L2.CX P w) P w K mg base N_is_draw "is_draw" (defScope s_is_draw) f cdv A outer s H E) (fun c d _ H => E c d H) := takes_of rfl rfl rfl rfl
  have po : PassesOwn (model P w) _ _ _ := passes_of (X := cxOf (L2.CX P w) P w K mg base N_is_draw "is_draw" (defScope s_is_draw) f cdv A outer s H E) rfl
  exact ⟨rd_is_draw K, jss_cons (js_if (jt_cmp (kop_eq hu) (je_ix (je_var 0) (je_int)) (je_str) (nomark _)) (jss_cons (js_ret (je_callD D_is_within hr tk (ja_cons (je_var 1) (ja_cons (je_int) (ja_cons (je_op kop_sub (je_callD D_leaves hr tk (ja_cons (je_ix (je_var 0) (je_int)) (ja_nil))) (je_int)) (ja_nil)))))) (jss_nil)) (jss_nil)) (jss_cons (js_ret (je_callD D_is_row hr tk (ja_cons (je_ix (je_var 0) (je_int)) (ja_cons (je_var 1) (ja_nil))))) (jss_nil)), fun vs G M R Z h => pf_is_draw h⟩
theorem df_is_draw {P : Program} {w : World} {K : PySem.W.Frag} {mg : Str → Option Value} {base : Heap} {f : Addr} {fd : FuncData} (B : Bs mg) (C : Cs K mg) (F : Fun K "is_draw" "is_draw" s_is_draw f fd) (b : Binds K fd ["kind", "thing"] []) (gm : mg "is_draw" = some (.ref f)) (D_leaves : Def P w K mg base 1 "leaves" ["high"] (S_leaves K)) (D_is_within : Def P w K mg base 2 "is_within" ["thing", "least", "most"] (S_is_within K)) (D_is_row : Def P w K mg base 3 "is_row" ["size", "thing"] (S_is_row K)) :
    Def P w K mg base 4 "is_draw" ["kind", "thing"] (S_is_draw K) := ⟨f, fd, fo_is_draw B C F D_leaves D_is_within D_is_row, gm, F.kp, b⟩
abbrev s_look_at_draws : Stmt := topS 40
abbrev N_look_at_draws : List Str := ["kinds", "thing", "place", "kind"]
theorem sc_look_at_draws : FnScope N_look_at_draws ["kinds", "thing"] (defScope s_look_at_draws) := ⟨rfl, rfl, rfl, by decide +kernel, rfl, by decide +kernel, by decide +kernel⟩
theorem fo_look_at_draws {P : Program} {w : World} {K : PySem.W.Frag} {mg : Str → Option Value} {base : Heap} {f : Addr} {fd : FuncData} (B : Bs mg) (C : Cs K mg) (F : Fun K "look_at_draws" "look_at_draws" s_look_at_draws f fd) (D_is_draw : Def P w K mg base 4 "is_draw" ["kind", "thing"] (S_is_draw K)) :
    FnOk P w K mg base (L2.CX P w) 5 f fd ["kinds", "thing"] (lift (S_look_at_draws K)) := by
  refine fn_ok F sc_look_at_draws (fun vs G M R Z h => sp_len2 h) (fun cdv A outer s H E hr => ?_)
  have nd : N_look_at_draws.Nodup := sc_look_at_draws.nd
  have hu : _ + 64 < cLine := hr.units
  have tk : Takes (cxOf (L2.CX P w) P w K mg base N_look_at_draws "look_at_draws" (defScope s_look_at_draws) f cdv A outer s H E) (fun c d _ H => E c d H) := takes_of rfl rfl rfl rfl
  have po : PassesOwn (model P w) _ _ _ := passes_of (X := cxOf (L2.CX P w) P w K mg base N_look_at_draws "look_at_draws" (defScope s_look_at_draws) f cdv A outer s H E) rfl
  exact ⟨rd_look_at_draws K, jss_cons (js_if ((jw_or (jt_not (jt_val (je_callB kc_isi B.isinstance (ja_cons (je_var 1) (ja_cons (je_ty B.list) (ja_nil)))))) (jw_or1 (jt_cmp (kop_ne hu) (je_callB kc_len B.len (ja_cons (je_var 1) (ja_nil))) (je_callB kc_len B.len (ja_cons (je_var 0) (ja_nil))) (nomark _)))).jt) (jss_cons (js_never) (jss_nil)) (jss_nil)) (jss_cons (js_for po rfl (ji_enum B.enumerate (ja_cons (je_var 0) (ja_nil))) (jg_tup rfl (jgs_cons (jg_name (i := 2) nd) (jgs_cons (jg_name (i := 3) nd) (jgs_nil)))) (jss_cons (js_if (jt_not (jt_val (je_callD D_is_draw hr tk (ja_cons (je_var 3) (ja_cons (je_ix (je_var 1) (je_var 2)) (ja_nil)))))) (jss_cons (js_never) (jss_nil)) (jss_nil)) (jss_nil))) (jss_nil)), fun vs G M R Z h => pf_look_at_draws h⟩
theorem df_look_at_draws {P : Program} {w : World} {K : PySem.W.Frag} {mg : Str → Option Value} {base : Heap} {f : Addr} {fd : FuncData} (B : Bs mg) (C : Cs K mg) (F : Fun K "look_at_draws" "look_at_draws" s_look_at_draws f fd) (b : Binds K fd ["kinds", "thing"] []) (gm : mg "look_at_draws" = some (.ref f)) (D_is_draw : Def P w K mg base 4 "is_draw" ["kind", "thing"] (S_is_draw K)) :
    Def P w K mg base 5 "look_at_draws" ["kinds", "thing"] (S_look_at_draws K) := ⟨f, fd, fo_look_at_draws B C F D_is_draw, gm, F.kp, b⟩
abbrev s_copied : Stmt := topS 41
abbrev N_copied : List Str := ["draws", "draw"]
theorem sc_copied : FnScope N_copied ["draws"] (defScope s_copied) := ⟨rfl, rfl, rfl, by decide +kernel, rfl, by decide +kernel, by decide +kernel⟩
theorem fo_copied {P : Program} {w : World} {K : PySem.W.Frag} {mg : Str → Option Value} {base : Heap} {f : Addr} {fd : FuncData} (B : Bs mg) (C : Cs K mg) (F : Fun K "copied" "copied" s_copied f fd)  :
    FnOk P w K mg base (L2.CX P w) 1 f fd ["draws"] (lift (S_copied K)) := by
  refine fn_ok F sc_copied (fun vs G M R Z h => sp_len1 h) (fun cdv A outer s H E hr => ?_)
  have nd : N_copied.Nodup := sc_copied.nd
  have hu : _ + 64 < cLine := hr.units
  have tk : Takes (cxOf (L2.CX P w) P w K mg base N_copied "copied" (defScope s_copied) f cdv A outer s H E) (fun c d _ H => E c d H) := takes_of rfl rfl rfl rfl
  have po : PassesOwn (model P w) _ _ _ := passes_of (X := cxOf (L2.CX P w) P w K mg base N_copied "copied" (defScope s_copied) f cdv A outer s H E) rfl
  exact ⟨rd_copied K, jss_cons (js_ret (je_comp (own := [("draw", 1)]) rfl nd (ji_list (je_var 0)) (blkOk_by (own := [("draw", 1)]) (N := N_copied) (sc := defScope s_copied) (by decide +kernel)) (fun _ _ _ _ _ => by exact jg_name (i := 1) nd) (fun _ _ _ _ _ => by exact jts_nil) (fun _ _ _ _ _ => by exact je_ite (jt_val (je_callB kc_isi B.isinstance (ja_cons (je_var 1) (ja_cons (je_ty B.list) (ja_nil))))) (je_callTy kc_list B.list (ja_cons (je_var 1) (ja_nil))) (je_var 1)))) (jss_nil), fun vs G M R Z h => pf_copied h⟩
theorem df_copied {P : Program} {w : World} {K : PySem.W.Frag} {mg : Str → Option Value} {base : Heap} {f : Addr} {fd : FuncData} (B : Bs mg) (C : Cs K mg) (F : Fun K "copied" "copied" s_copied f fd) (b : Binds K fd ["draws"] []) (gm : mg "copied" = some (.ref f))  :
    Def P w K mg base 1 "copied" ["draws"] (S_copied K) := ⟨f, fd, fo_copied B C F , gm, F.kp, b⟩
abbrev s_Keeper_init : Stmt := inClass (topS 12) 0
abbrev N_Keeper_init : List Str := ["self"]
theorem sc_Keeper_init : FnScope N_Keeper_init ["self"] (defScope s_Keeper_init) := ⟨rfl, rfl, rfl, by decide +kernel, rfl, by decide +kernel, by decide +kernel⟩
theorem fo_Keeper_init {P : Program} {w : World} {K : PySem.W.Frag} {mg : Str → Option Value} {base : Heap} {f : Addr} {fd : FuncData} (B : Bs mg) (C : Cs K mg) (F : Fun K "__init__" "Keeper.__init__" s_Keeper_init f fd)  :
    FnOk P w K mg base (L2.CX P w) 1 f fd ["self"] (lift (S_Keeper_init K)) := by
  refine fn_ok F sc_Keeper_init (fun vs G M R Z h => sp_len1 h) (fun cdv A outer s H E hr => ?_)
  have nd : N_Keeper_init.Nodup := sc_Keeper_init.nd
  have hu : _ + 64 < cLine := hr.units
  have tk : Takes (cxOf (L2.CX P w) P w K mg base N_Keeper_init "Keeper.__init__" (defScope s_Keeper_init) f cdv A outer s H E) (fun c d _ H => E c d H) := takes_of rfl rfl rfl rfl
  have po : PassesOwn (model P w) _ _ _ := passes_of (X := cxOf (L2.CX P w) P w K mg base N_Keeper_init "Keeper.__init__" (defScope s_Keeper_init) f cdv A outer s H E) rfl
  exact ⟨rd_Keeper_init K, jss_cons (js_fset (je_var 0) (je_lst (ja_nil)) C.f_log) (jss_nil), fun vs G M R Z h => pf_Keeper_init h⟩
abbrev s_Store_init : Stmt := inClass (topS 48) 0
abbrev N_Store_init : List Str := ["self", "way", "many", "most", "draws"]
theorem sc_Store_init : FnScope N_Store_init ["self", "way", "many", "most", "draws"] (defScope s_Store_init) := ⟨rfl, rfl, rfl, by decide +kernel, rfl, by decide +kernel, by decide +kernel⟩
theorem fo_Store_init {P : Program} {w : World} {K : PySem.W.Frag} {mg : Str → Option Value} {base : Heap} {f : Addr} {fd : FuncData} (B : Bs mg) (C : Cs K mg) (F : Fun K "__init__" "Store.__init__" s_Store_init f fd) (D_look_at_sizes : Def P w K mg base 4 "look_at_sizes" ["many", "most"] (S_look_at_sizes K)) (D_kinds_of : Def P w K mg base 5 "kinds_of" ["way", "many", "most"] (S_kinds_of K)) (D_look_at_draws : Def P w K mg base 5 "look_at_draws" ["kinds", "thing"] (S_look_at_draws K)) (D_copied : Def P w K mg base 1 "copied" ["draws"] (S_copied K)) (N_Keeper : CDef P w K mg base 1 1 "Keeper" (S_Keeper_init K)) :
    FnOk P w K mg base (L2.CX P w) 6 f fd ["self", "way", "many", "most", "draws"] (lift (S_Store_init K)) := by
  refine fn_ok F sc_Store_init (fun vs G M R Z h => sp_len5 h) (fun cdv A outer s H E hr => ?_)
  have nd : N_Store_init.Nodup := sc_Store_init.nd
  have hu : _ + 64 < cLine := hr.units
  have tk : Takes (cxOf (L2.CX P w) P w K mg base N_Store_init "Store.__init__" (defScope s_Store_init) f cdv A outer s H E) (fun c d _ H => E c d H) := takes_of rfl rfl rfl rfl
  have po : PassesOwn (model P w) _ _ _ := passes_of (X := cxOf (L2.CX P w) P w K mg base N_Store_init "Store.__init__" (defScope s_Store_init) f cdv A outer s H E) rfl
  exact ⟨rd_Store_init K, jss_cons (js_expr (je_callD D_look_at_sizes hr tk (ja_cons (je_var 2) (ja_cons (je_var 3) (ja_nil))))) (jss_cons (js_expr (je_callD D_look_at_draws hr tk (ja_cons (je_callD D_kinds_of hr tk (ja_cons (je_var 1) (ja_cons (je_var 2) (ja_cons (je_var 3) (ja_nil))))) (ja_cons (je_var 4) (ja_nil))))) (jss_cons (js_fset (je_var 0) (je_var 2) C.f_cells) (jss_cons (js_fset (je_var 0) (je_var 3) C.f_limit) (jss_cons (js_fset (je_var 0) (je_callD D_copied hr tk (ja_cons (je_var 4) (ja_nil))) C.f_draws) (jss_cons (js_fset (je_var 0) (je_make0 N_Keeper C.h_Keeper hr tk) C.f_keeper) (jss_cons (js_fset (je_var 0) (je_int) C.f_made) (jss_nil))))))), fun vs G M R Z h => pf_Store_init h⟩
abbrev s_Shelf_init : Stmt := inClass (topS 13) 0
abbrev N_Shelf_init : List Str := ["self", "keeper", "number", "things"]
theorem sc_Shelf_init : FnScope N_Shelf_init ["self", "keeper", "number", "things"] (defScope s_Shelf_init) := ⟨rfl, rfl, rfl, by decide +kernel, rfl, by decide +kernel, by decide +kernel⟩
theorem fo_Shelf_init {P : Program} {w : World} {K : PySem.W.Frag} {mg : Str → Option Value} {base : Heap} {f : Addr} {fd : FuncData} (B : Bs mg) (C : Cs K mg) (F : Fun K "__init__" "Shelf.__init__" s_Shelf_init f fd)  :
    FnOk P w K mg base (L2.CX P w) 1 f fd ["self", "keeper", "number", "things"] (lift (S_Shelf_init K)) := by
  refine fn_ok F sc_Shelf_init (fun vs G M R Z h => sp_len4 h) (fun cdv A outer s H E hr => ?_)
  have nd : N_Shelf_init.Nodup := sc_Shelf_init.nd
  have hu : _ + 64 < cLine := hr.units
  have tk : Takes (cxOf (L2.CX P w) P w K mg base N_Shelf_init "Shelf.__init__" (defScope s_Shelf_init) f cdv A outer s H E) (fun c d _ H => E c d H) := takes_of rfl rfl rfl rfl
  have po : PassesOwn (model P w) _ _ _ := passes_of (X := cxOf (L2.CX P w) P w K mg base N_Shelf_init "Shelf.__init__" (defScope s_Shelf_init) f cdv A outer s H E) rfl
  exact ⟨rd_Shelf_init K, jss_cons (js_fset (je_var 0) (je_var 1) C.f_keeper) (jss_cons (js_fset (je_var 0) (je_var 2) C.f_number) (jss_cons (js_fset (je_var 0) (je_callTy kc_list B.list (ja_cons (je_var 3) (ja_nil))) C.f_things) (jss_nil))), fun vs G M R Z h => pf_Shelf_init h⟩
abbrev s_Body_init : Stmt := inClass (topS 18) 0
abbrev N_Body_init : List Str := ["self", "keeper", "number", "high", "firsts"]
theorem sc_Body_init : FnScope N_Body_init ["self", "keeper", "number", "high", "firsts"] (defScope s_Body_init) := ⟨rfl, rfl, rfl, by decide +kernel, rfl, by decide +kernel, by decide +kernel⟩
theorem fo_Body_init {P : Program} {w : World} {K : PySem.W.Frag} {mg : Str → Option Value} {base : Heap} {f : Addr} {fd : FuncData} (B : Bs mg) (C : Cs K mg) (F : Fun K "__init__" "Body.__init__" s_Body_init f fd) (N_Shelf : CDef P w K mg base 1 2 "Shelf" (S_Shelf_init K)) :
    FnOk P w K mg base (L2.CX P w) 3 f fd ["self", "keeper", "number", "high", "firsts"] (lift (S_Body_init K)) := by
  refine fn_ok F sc_Body_init (fun vs G M R Z h => sp_len5 h) (fun cdv A outer s H E hr => ?_)
  have nd : N_Body_init.Nodup := sc_Body_init.nd
  have hu : _ + 64 < cLine := hr.units
  have tk : Takes (cxOf (L2.CX P w) P w K mg base N_Body_init "Body.__init__" (defScope s_Body_init) f cdv A outer s H E) (fun c d _ H => E c d H) := takes_of rfl rfl rfl rfl
  have po : PassesOwn (model P w) _ _ _ := passes_of (X := cxOf (L2.CX P w) P w K mg base N_Body_init "Body.__init__" (defScope s_Body_init) f cdv A outer s H E) rfl
  exact ⟨rd_Body_init K, jss_cons (js_fset (je_var 0) (je_make N_Shelf C.h_Shelf hr tk (ja_cons (je_var 1) (ja_cons (je_var 2) (ja_cons (je_op kop_mul (je_lst (ja_cons (je_non) (ja_nil))) (je_op kop_mul (je_int) (je_op kop_sub (je_op kop_shl (je_int) (je_var 3)) (je_int)))) (ja_nil))))) C.f_shelf) (jss_cons (js_fset (je_var 0) (je_var 3) C.f_high) (jss_cons (js_fset (je_var 0) (je_callTy kc_list B.list (ja_cons (je_var 4) (ja_nil))) C.f_firsts) (jss_cons (js_fset (je_var 0) (je_dnew) C.f_hand) (jss_nil)))), fun vs G M R Z h => pf_Body_init h⟩
abbrev s_packed : Stmt := topS 50
abbrev N_packed : List Str := ["leaves", "high", "word", "place", "leaf"]
theorem sc_packed : FnScope N_packed ["leaves", "high"] (defScope s_packed) := ⟨rfl, rfl, rfl, by decide +kernel, rfl, by decide +kernel, by decide +kernel⟩
theorem fo_packed {P : Program} {w : World} {K : PySem.W.Frag} {mg : Str → Option Value} {base : Heap} {f : Addr} {fd : FuncData} (B : Bs mg) (C : Cs K mg) (F : Fun K "packed" "packed" s_packed f fd)  :
    FnOk P w K mg base (L2.CX P w) 1 f fd ["leaves", "high"] (lift (S_packed K)) := by
  refine fn_ok F sc_packed (fun vs G M R Z h => sp_len2 h) (fun cdv A outer s H E hr => ?_)
  have nd : N_packed.Nodup := sc_packed.nd
  have hu : _ + 64 < cLine := hr.units
  have tk : Takes (cxOf (L2.CX P w) P w K mg base N_packed "packed" (defScope s_packed) f cdv A outer s H E) (fun c d _ H => E c d H) := takes_of rfl rfl rfl rfl
  have po : PassesOwn (model P w) _ _ _ := passes_of (X := cxOf (L2.CX P w) P w K mg base N_packed "packed" (defScope s_packed) f cdv A outer s H E) rfl
  exact ⟨rd_packed K, jss_cons (js_set (i := 2) (je_int) nd) (jss_cons (js_for po rfl (ji_enum B.enumerate (ja_cons (je_var 0) (ja_nil))) (jg_tup rfl (jgs_cons (jg_name (i := 3) nd) (jgs_cons (jg_name (i := 4) nd) (jgs_nil)))) (jss_cons (js_set (i := 2) (je_op kop_add (je_var 2) (je_op kop_shlW (je_var 4) (je_op kop_mul (je_var 1) (je_var 3)))) nd) (jss_nil))) (jss_cons (js_ret (je_var 2)) (jss_nil))), fun vs G M R Z h => pf_packed h⟩
theorem df_packed {P : Program} {w : World} {K : PySem.W.Frag} {mg : Str → Option Value} {base : Heap} {f : Addr} {fd : FuncData} (B : Bs mg) (C : Cs K mg) (F : Fun K "packed" "packed" s_packed f fd) (b : Binds K fd ["leaves", "high"] []) (gm : mg "packed" = some (.ref f))  :
    Def P w K mg base 1 "packed" ["leaves", "high"] (S_packed K) := ⟨f, fd, fo_packed B C F , gm, F.kp, b⟩
abbrev s_words_of : Stmt := topS 53
abbrev N_words_of : List Str := ["leaves", "high", "at"]
theorem sc_words_of : FnScope N_words_of ["leaves", "high"] (defScope s_words_of) := ⟨rfl, rfl, rfl, by decide +kernel, rfl, by decide +kernel, by decide +kernel⟩
theorem fo_words_of {P : Program} {w : World} {K : PySem.W.Frag} {mg : Str → Option Value} {base : Heap} {f : Addr} {fd : FuncData} (B : Bs mg) (C : Cs K mg) (F : Fun K "words_of" "words_of" s_words_of f fd) (D_packed : Def P w K mg base 1 "packed" ["leaves", "high"] (S_packed K)) :
    FnOk P w K mg base (L2.CX P w) 2 f fd ["leaves", "high"] (lift (S_words_of K)) := by
  refine fn_ok F sc_words_of (fun vs G M R Z h => sp_len2 h) (fun cdv A outer s H E hr => ?_)
  have nd : N_words_of.Nodup := sc_words_of.nd
  have hu : _ + 64 < cLine := hr.units
  have tk : Takes (cxOf (L2.CX P w) P w K mg base N_words_of "words_of" (defScope s_words_of) f cdv A outer s H E) (fun c d _ H => E c d H) := takes_of rfl rfl rfl rfl
  have po : PassesOwn (model P w) _ _ _ := passes_of (X := cxOf (L2.CX P w) P w K mg base N_words_of "words_of" (defScope s_words_of) f cdv A outer s H E) rfl
  exact ⟨rd_words_of K, jss_cons (js_ret (je_comp (own := [("at", 2)]) rfl nd (ji_range3 B.range (ja_cons (je_int) (ja_cons (je_callB kc_len B.len (ja_cons (je_var 0) (ja_nil))) (ja_cons (je_const C.k_TABLE) (ja_nil))))) (blkOk_by (own := [("at", 2)]) (N := N_words_of) (sc := defScope s_words_of) (by decide +kernel)) (fun _ _ _ _ _ => by exact jg_name (i := 2) nd) (fun _ _ _ _ _ => by exact jts_nil) (fun _ _ _ _ _ => by exact je_callD D_packed hr takes0 (ja_cons (je_slice (je_var 0) (jo_some (je_var 2)) (jo_some (je_op kop_add (je_var 2) (je_const C.k_TABLE)))) (ja_cons (je_var 1) (ja_nil)))))) (jss_nil), fun vs G M R Z h => pf_words_of h⟩
theorem df_words_of {P : Program} {w : World} {K : PySem.W.Frag} {mg : Str → Option Value} {base : Heap} {f : Addr} {fd : FuncData} (B : Bs mg) (C : Cs K mg) (F : Fun K "words_of" "words_of" s_words_of f fd) (b : Binds K fd ["leaves", "high"] []) (gm : mg "words_of" = some (.ref f)) (D_packed : Def P w K mg base 1 "packed" ["leaves", "high"] (S_packed K)) :
    Def P w K mg base 2 "words_of" ["leaves", "high"] (S_words_of K) := ⟨f, fd, fo_words_of B C F D_packed, gm, F.kp, b⟩
abbrev s_Grove_init : Stmt := inClass (topS 54) 0
abbrev N_Grove_init : List Str := ["self", "many", "most", "draws", "cells", "firsts", "number"]
theorem sc_Grove_init : FnScope N_Grove_init ["self", "many", "most", "draws"] (defScope s_Grove_init) := ⟨rfl, rfl, rfl, by decide +kernel, rfl, by decide +kernel, by decide +kernel⟩
theorem fo_Grove_init {P : Program} {w : World} {K : PySem.W.Frag} {mg : Str → Option Value} {base : Heap} {f : Addr} {fd : FuncData} (B : Bs mg) (C : Cs K mg) (F : Fun K "__init__" "Grove.__init__" s_Grove_init f fd) (D_trees_of : Def P w K mg base 1 "trees_of" ["many"] (S_trees_of K)) (D_high_of : Def P w K mg base 1 "high_of" ["many"] (S_high_of K)) (D_words_of : Def P w K mg base 2 "words_of" ["leaves", "high"] (S_words_of K)) (N_Body : CDef P w K mg base 3 8 "Body" (S_Body_init K)) (F_Store_init : FDef P w K mg base 6 "Store" "__init__" (S_Store_init K)) :
    FnOk P w K mg base (L2.CX P w) 7 f fd ["self", "many", "most", "draws"] (lift (S_Grove_init K)) := by
  refine fn_ok F sc_Grove_init (fun vs G M R Z h => sp_len4 h) (fun cdv A outer s H E hr => ?_)
  have nd : N_Grove_init.Nodup := sc_Grove_init.nd
  have hu : _ + 64 < cLine := hr.units
  have tk : Takes (cxOf (L2.CX P w) P w K mg base N_Grove_init "Grove.__init__" (defScope s_Grove_init) f cdv A outer s H E) (fun c d _ H => E c d H) := takes_of rfl rfl rfl rfl
  have po : PassesOwn (model P w) _ _ _ := passes_of (X := cxOf (L2.CX P w) P w K mg base N_Grove_init "Grove.__init__" (defScope s_Grove_init) f cdv A outer s H E) rfl
  exact ⟨rd_Grove_init K, jss_cons (js_expr (je_clsCall F_Store_init hr tk (ja_cons (je_var 0) (ja_cons (je_str) (ja_cons (je_var 1) (ja_cons (je_var 2) (ja_cons (je_var 3) (ja_nil)))))))) (jss_cons (js_fset (je_var 0) (je_comp (own := [("cells", 4)]) rfl nd (ji_list (je_callD D_trees_of hr tk (ja_cons (je_var 1) (ja_nil)))) (blkOk_by (own := [("cells", 4)]) (N := N_Grove_init) (sc := defScope s_Grove_init) (by decide +kernel)) (fun _ _ _ _ _ => by exact jg_name (i := 4) nd) (fun _ _ _ _ _ => by exact jts_nil) (fun _ _ _ _ _ => by exact je_callD D_high_of hr takes0 (ja_cons (je_var 4) (ja_nil)))) C.f_highs) (jss_cons (js_fset (je_var 0) (je_lst (ja_nil)) C.f_bodies) (jss_cons (js_fset (je_var 0) (je_int) C.f_start) (jss_cons (js_set (i := 5) (je_op kop_mul (je_lst (ja_cons (je_int) (ja_nil))) (je_var 1)) nd) (jss_cons (js_fset (je_var 0) (je_lst (ja_nil)) C.f_table) (jss_cons (js_for po rfl (ji_w (ji_enum B.enumerate (ja_cons (je_callD D_trees_of hr tk (ja_cons (je_var 1) (ja_nil))) (ja_nil)))) (jg_tup rfl (jgs_cons (jg_name (i := 6) nd) (jgs_cons (jg_name (i := 4) nd) (jgs_nil)))) (jss_cons (js_expr (je_bm PySem.F.plainAttrs_list PySem.F.slot_list_append PySem.F.type_list_append km_append (je_fld (je_var 0) C.f_bodies) (ja_cons (je_make N_Body C.h_Body hr tk (ja_cons (je_fld (je_var 0) C.f_keeper) (ja_cons (je_var 6) (ja_cons (je_ix (je_fld (je_var 0) C.f_highs) (je_var 6)) (ja_cons (je_var 5) (ja_nil)))))) (ja_nil)))) (jss_cons (js_fset (je_var 0) (je_slice (je_fld (je_var 0) C.f_draws) (jo_some (je_fld (je_var 0) C.f_start)) (jo_some (je_op kop_add (je_fld (je_var 0) C.f_start) (je_var 4)))) C.f_table) (jss_cons (js_set (i := 5) (je_callD D_words_of hr tk (ja_cons (je_fld (je_var 0) C.f_table) (ja_cons (je_ix (je_fld (je_var 0) C.f_highs) (je_var 6)) (ja_nil)))) nd) (jss_cons (js_fset (je_var 0) (je_op kop_add (je_fld (je_var 0) C.f_start) (je_var 4)) C.f_start) (jss_nil)))))) (jss_nil))))))), fun vs G M R Z h => pf_Grove_init h⟩
abbrev s_law_word : Stmt := topS 59
abbrev N_law_word : List Str := ["_law_pool_here"]
theorem sc_law_word : FnScope N_law_word ["_law_pool_here"] (defScope s_law_word) := ⟨rfl, rfl, rfl, by decide +kernel, rfl, by decide +kernel, by decide +kernel⟩
theorem fo_law_word {P : Program} {w : World} {K : PySem.W.Frag} {mg : Str → Option Value} {base : Heap} {f : Addr} {fd : FuncData} (B : Bs mg) (C : Cs K mg) (F : Fun K "_law_word" "_law_word" s_law_word f fd) (D_law_take : Def P w K mg base 1 "_law_take" ["_law_pool_here", "_law_many_here"] (S_law_take K)) :
    FnOk P w K mg base (L2.CX P w) 2 f fd ["_law_pool_here"] (lift (S_law_word K)) := by
  refine fn_ok F sc_law_word (fun vs G M R Z h => sp_len1 h) (fun cdv A outer s H E hr => ?_)
  have nd : N_law_word.Nodup := sc_law_word.nd
  have hu : _ + 64 < cLine := hr.units
  have tk : Takes (cxOf (L2.CX P w) P w K mg base N_law_word "_law_word" (defScope s_law_word) f cdv A outer s H E) (fun c d _ H => E c d H) := takes_of rfl rfl rfl rfl
  have po : PassesOwn (model P w) _ _ _ := passes_of (X := cxOf (L2.CX P w) P w K mg base N_law_word "_law_word" (defScope s_law_word) f cdv A outer s H E) rfl
  exact ⟨rd_law_word K, jss_cons (js_ret (je_ix (je_lst (ja_cons (je_int) (ja_cons (je_int) (ja_cons (je_op kop_sub (je_op kop_pow (je_int) (je_int)) (je_int)) (ja_cons (je_op kop_add (je_op kop_mul (je_callD D_law_take hr tk (ja_cons (je_var 0) (ja_cons (je_op kop_pow (je_int) (je_int)) (ja_nil)))) (je_op kop_pow (je_int) (je_int))) (je_callD D_law_take hr tk (ja_cons (je_var 0) (ja_cons (je_op kop_pow (je_int) (je_int)) (ja_nil))))) (ja_nil)))))) (je_op kop_mod (je_callD D_law_take hr tk (ja_cons (je_var 0) (ja_cons (je_int) (ja_nil)))) (je_int)))) (jss_nil), fun vs G M R Z h => pf_law_word h⟩
theorem df_law_word {P : Program} {w : World} {K : PySem.W.Frag} {mg : Str → Option Value} {base : Heap} {f : Addr} {fd : FuncData} (B : Bs mg) (C : Cs K mg) (F : Fun K "_law_word" "_law_word" s_law_word f fd) (b : Binds K fd ["_law_pool_here"] []) (gm : mg "_law_word" = some (.ref f)) (D_law_take : Def P w K mg base 1 "_law_take" ["_law_pool_here", "_law_many_here"] (S_law_take K)) :
    Def P w K mg base 2 "_law_word" ["_law_pool_here"] (S_law_word K) := ⟨f, fd, fo_law_word B C F D_law_take, gm, F.kp, b⟩
abbrev s_law_ask : Stmt := topS 60
abbrev N_law_ask : List Str := ["_law_pool_here", "_law_many_here", "_law_cell"]
theorem sc_law_ask : FnScope N_law_ask ["_law_pool_here", "_law_many_here"] (defScope s_law_ask) := ⟨rfl, rfl, rfl, by decide +kernel, rfl, by decide +kernel, by decide +kernel⟩
theorem fo_law_ask {P : Program} {w : World} {K : PySem.W.Frag} {mg : Str → Option Value} {base : Heap} {f : Addr} {fd : FuncData} (B : Bs mg) (C : Cs K mg) (F : Fun K "_law_ask" "_law_ask" s_law_ask f fd) (D_law_take : Def P w K mg base 1 "_law_take" ["_law_pool_here", "_law_many_here"] (S_law_take K)) (D_law_word : Def P w K mg base 2 "_law_word" ["_law_pool_here"] (S_law_word K)) :
    FnOk P w K mg base (L2.CX P w) 3 f fd ["_law_pool_here", "_law_many_here"] (lift (S_law_ask K)) := by
  refine fn_ok F sc_law_ask (fun vs G M R Z h => sp_len2 h) (fun cdv A outer s H E hr => ?_)
  have nd : N_law_ask.Nodup := sc_law_ask.nd
  have hu : _ + 64 < cLine := hr.units
  have tk : Takes (cxOf (L2.CX P w) P w K mg base N_law_ask "_law_ask" (defScope s_law_ask) f cdv A outer s H E) (fun c d _ H => E c d H) := takes_of rfl rfl rfl rfl
  have po : PassesOwn (model P w) _ _ _ := passes_of (X := cxOf (L2.CX P w) P w K mg base N_law_ask "_law_ask" (defScope s_law_ask) f cdv A outer s H E) rfl
  exact ⟨rd_law_ask K, jss_cons (js_set (i := 2) (je_callD D_law_take hr tk (ja_cons (je_var 0) (ja_cons (je_ix (je_lst (ja_cons (je_var 1) (ja_cons (je_callB kc_min2 B.min (ja_cons (je_var 1) (ja_cons (je_int) (ja_nil)))) (ja_nil)))) (je_op kop_fdiv (je_callD D_law_take hr tk (ja_cons (je_var 0) (ja_cons (je_int) (ja_nil)))) (je_int))) (ja_nil)))) nd) (jss_cons (js_if (jt_cmp (kop_eq hu) (je_callD D_law_take hr tk (ja_cons (je_var 0) (ja_cons (je_int) (ja_nil)))) (je_int) (nomark _)) (jss_cons (js_ret (je_tup (ja_cons (je_str) (ja_cons (je_var 2) (ja_nil))))) (jss_nil)) (jss_nil)) (jss_cons (js_ret (je_tup (ja_cons (je_str) (ja_cons (je_var 2) (ja_cons (je_callD D_law_word hr tk (ja_cons (je_var 0) (ja_nil))) (ja_nil)))))) (jss_nil))), fun vs G M R Z h => pf_law_ask h⟩
theorem df_law_ask {P : Program} {w : World} {K : PySem.W.Frag} {mg : Str → Option Value} {base : Heap} {f : Addr} {fd : FuncData} (B : Bs mg) (C : Cs K mg) (F : Fun K "_law_ask" "_law_ask" s_law_ask f fd) (b : Binds K fd ["_law_pool_here", "_law_many_here"] []) (gm : mg "_law_ask" = some (.ref f)) (D_law_take : Def P w K mg base 1 "_law_take" ["_law_pool_here", "_law_many_here"] (S_law_take K)) (D_law_word : Def P w K mg base 2 "_law_word" ["_law_pool_here"] (S_law_word K)) :
    Def P w K mg base 3 "_law_ask" ["_law_pool_here", "_law_many_here"] (S_law_ask K) := ⟨f, fd, fo_law_ask B C F D_law_take D_law_word, gm, F.kp, b⟩
abbrev s_is_ask : Stmt := topS 33
abbrev N_is_ask : List Str := ["many", "thing"]
theorem sc_is_ask : FnScope N_is_ask ["many", "thing"] (defScope s_is_ask) := ⟨rfl, rfl, rfl, by decide +kernel, rfl, by decide +kernel, by decide +kernel⟩
theorem fo_is_ask {P : Program} {w : World} {K : PySem.W.Frag} {mg : Str → Option Value} {base : Heap} {f : Addr} {fd : FuncData} (B : Bs mg) (C : Cs K mg) (F : Fun K "is_ask" "is_ask" s_is_ask f fd) (D_is_within : Def P w K mg base 2 "is_within" ["thing", "least", "most"] (S_is_within K)) :
    FnOk P w K mg base (L2.CX P w) 3 f fd ["many", "thing"] (lift (S_is_ask K)) := by
  refine fn_ok F sc_is_ask (fun vs G M R Z h => sp_len2 h) (fun cdv A outer s H E hr => ?_)
  have nd : N_is_ask.Nodup := sc_is_ask.nd
  have hu : _ + 64 < cLine := hr.units
  have tk : Takes (cxOf (L2.CX P w) P w K mg base N_is_ask "is_ask" (defScope s_is_ask) f cdv A outer s H E) (fun c d _ H => E c d H) := takes_of rfl rfl rfl rfl
  have po : PassesOwn (model P w) _ _ _ := passes_of (X := cxOf (L2.CX P w) P w K mg base N_is_ask "is_ask" (defScope s_is_ask) f cdv A outer s H E) rfl
  exact ⟨rd_is_ask K, jss_cons (js_if ((jw_or (jt_not (jt_val (je_callB kc_isi B.isinstance (ja_cons (je_var 1) (ja_cons (je_ty B.tuple) (ja_nil)))))) (jw_or (jt_cmp (kop_lt) (je_callB kc_len B.len (ja_cons (je_var 1) (ja_nil))) (je_int) (nomark _)) (jw_or1 (jt_not (jt_val (je_callD D_is_within hr tk (ja_cons (je_ix (je_var 1) (je_int)) (ja_cons (je_int) (ja_cons (je_op kop_sub (je_var 0) (je_int)) (ja_nil)))))))))).jt) (jss_cons (js_ret (je_bl)) (jss_nil)) (jss_nil)) (jss_cons (js_if (jt_cmp (kop_eq hu) (je_callB kc_len B.len (ja_cons (je_var 1) (ja_nil))) (je_int) (nomark _)) (jss_cons (js_ret (je_cmp (kop_eqD hu) (je_ix (je_var 1) (je_int)) (je_str) (nomark _))) (jss_nil)) (jss_nil)) (jss_cons (js_ret (je_and (je_cmp (kop_eq hu) (je_callB kc_len B.len (ja_cons (je_var 1) (ja_nil))) (je_int) (nomark _)) (je_and (je_cmp (kop_eqD hu) (je_ix (je_var 1) (je_int)) (je_str) (nomark _)) (je_one (je_callD D_is_within hr tk (ja_cons (je_ix (je_var 1) (je_int)) (ja_cons (je_int) (ja_cons (je_const C.k_GREATEST) (ja_nil))))))))) (jss_nil))), fun vs G M R Z h => pf_is_ask h⟩
theorem df_is_ask {P : Program} {w : World} {K : PySem.W.Frag} {mg : Str → Option Value} {base : Heap} {f : Addr} {fd : FuncData} (B : Bs mg) (C : Cs K mg) (F : Fun K "is_ask" "is_ask" s_is_ask f fd) (b : Binds K fd ["many", "thing"] []) (gm : mg "is_ask" = some (.ref f)) (D_is_within : Def P w K mg base 2 "is_within" ["thing", "least", "most"] (S_is_within K)) :
    Def P w K mg base 3 "is_ask" ["many", "thing"] (S_is_ask K) := ⟨f, fd, fo_is_ask B C F D_is_within, gm, F.kp, b⟩
abbrev s_need_ask : Stmt := topS 34
abbrev N_need_ask : List Str := ["many", "thing"]
theorem sc_need_ask : FnScope N_need_ask ["many", "thing"] (defScope s_need_ask) := ⟨rfl, rfl, rfl, by decide +kernel, rfl, by decide +kernel, by decide +kernel⟩
theorem fo_need_ask {P : Program} {w : World} {K : PySem.W.Frag} {mg : Str → Option Value} {base : Heap} {f : Addr} {fd : FuncData} (B : Bs mg) (C : Cs K mg) (F : Fun K "need_ask" "need_ask" s_need_ask f fd) (D_is_ask : Def P w K mg base 3 "is_ask" ["many", "thing"] (S_is_ask K)) :
    FnOk P w K mg base (L2.CX P w) 4 f fd ["many", "thing"] (lift (S_need_ask K)) := by
  refine fn_ok F sc_need_ask (fun vs G M R Z h => sp_len2 h) (fun cdv A outer s H E hr => ?_)
  have nd : N_need_ask.Nodup := sc_need_ask.nd
  have hu : _ + 64 < cLine := hr.units
  have tk : Takes (cxOf (L2.CX P w) P w K mg base N_need_ask "need_ask" (defScope s_need_ask) f cdv A outer s H E) (fun c d _ H => E c d H) := takes_of rfl rfl rfl rfl
  have po : PassesOwn (model P w) _ _ _ := passes_of (X := cxOf (L2.CX P w) P w K mg base N_need_ask "need_ask" (defScope s_need_ask) f cdv A outer s H E) rfl
  exact ⟨rd_need_ask K, jss_cons (js_if (jt_not (jt_val (je_callD D_is_ask hr tk (ja_cons (je_var 0) (ja_cons (je_var 1) (ja_nil)))))) (jss_cons (js_raise C.g_NoAsk C.r_NoAsk tk) (jss_nil)) (jss_nil)) (jss_nil), fun vs G M R Z h => pf_need_ask h⟩
theorem df_need_ask {P : Program} {w : World} {K : PySem.W.Frag} {mg : Str → Option Value} {base : Heap} {f : Addr} {fd : FuncData} (B : Bs mg) (C : Cs K mg) (F : Fun K "need_ask" "need_ask" s_need_ask f fd) (b : Binds K fd ["many", "thing"] []) (gm : mg "need_ask" = some (.ref f)) (D_is_ask : Def P w K mg base 3 "is_ask" ["many", "thing"] (S_is_ask K)) :
    Def P w K mg base 4 "need_ask" ["many", "thing"] (S_need_ask K) := ⟨f, fd, fo_need_ask B C F D_is_ask, gm, F.kp, b⟩
abbrev s_Store_left : Stmt := inClass (topS 48) 4
abbrev N_Store_left : List Str := ["self"]
theorem sc_Store_left : FnScope N_Store_left ["self"] (defScope s_Store_left) := ⟨rfl, rfl, rfl, by decide +kernel, rfl, by decide +kernel, by decide +kernel⟩
theorem fo_Store_left {P : Program} {w : World} {K : PySem.W.Frag} {mg : Str → Option Value} {base : Heap} {f : Addr} {fd : FuncData} (B : Bs mg) (C : Cs K mg) (F : Fun K "left" "Store.left" s_Store_left f fd)  :
    FnOk P w K mg base (L2.CX P w) 1 f fd ["self"] (lift (S_Store_left K)) := by
  refine fn_ok F sc_Store_left (fun vs G M R Z h => sp_len1 h) (fun cdv A outer s H E hr => ?_)
  have nd : N_Store_left.Nodup := sc_Store_left.nd
  have hu : _ + 64 < cLine := hr.units
  have tk : Takes (cxOf (L2.CX P w) P w K mg base N_Store_left "Store.left" (defScope s_Store_left) f cdv A outer s H E) (fun c d _ H => E c d H) := takes_of rfl rfl rfl rfl
  have po : PassesOwn (model P w) _ _ _ := passes_of (X := cxOf (L2.CX P w) P w K mg base N_Store_left "Store.left" (defScope s_Store_left) f cdv A outer s H E) rfl
  exact ⟨rd_Store_left K, jss_cons (js_ret (je_op kop_sub (je_fld (je_var 0) C.f_limit) (je_fld (je_var 0) C.f_made))) (jss_nil), fun vs G M R Z h => pf_Store_left h⟩
abbrev s_Grove_fresh : Stmt := inClass (topS 54) 1
abbrev N_Grove_fresh : List Str := ["self", "number"]
theorem sc_Grove_fresh : FnScope N_Grove_fresh ["self", "number"] (defScope s_Grove_fresh) := ⟨rfl, rfl, rfl, by decide +kernel, rfl, by decide +kernel, by decide +kernel⟩
theorem fo_Grove_fresh {P : Program} {w : World} {K : PySem.W.Frag} {mg : Str → Option Value} {base : Heap} {f : Addr} {fd : FuncData} (B : Bs mg) (C : Cs K mg) (F : Fun K "fresh" "Grove.fresh" s_Grove_fresh f fd)  :
    FnOk P w K mg base (L2.CX P w) 1 f fd ["self", "number"] (lift (S_Grove_fresh K)) := by
  refine fn_ok F sc_Grove_fresh (fun vs G M R Z h => sp_len2 h) (fun cdv A outer s H E hr => ?_)
  have nd : N_Grove_fresh.Nodup := sc_Grove_fresh.nd
  have hu : _ + 64 < cLine := hr.units
  have tk : Takes (cxOf (L2.CX P w) P w K mg base N_Grove_fresh "Grove.fresh" (defScope s_Grove_fresh) f cdv A outer s H E) (fun c d _ H => E c d H) := takes_of rfl rfl rfl rfl
  have po : PassesOwn (model P w) _ _ _ := passes_of (X := cxOf (L2.CX P w) P w K mg base N_Grove_fresh "Grove.fresh" (defScope s_Grove_fresh) f cdv A outer s H E) rfl
  exact ⟨rd_Grove_fresh K, jss_cons (js_ret (je_ix (je_fld (je_var 0) C.f_draws) (je_op kop_add (je_op kop_add (je_fld (je_var 0) C.f_start) (je_op kop_mul (je_fld (je_var 0) C.f_made) (je_callB kc_len B.len (ja_cons (je_fld (je_var 0) C.f_bodies) (ja_nil))))) (je_var 1)))) (jss_nil), fun vs G M R Z h => pf_Grove_fresh h⟩
abbrev s_Shelf_need_room : Stmt := inClass (topS 13) 2
abbrev N_Shelf_need_room : List Str := ["self", "room"]
theorem sc_Shelf_need_room : FnScope N_Shelf_need_room ["self", "room"] (defScope s_Shelf_need_room) := ⟨rfl, rfl, rfl, by decide +kernel, rfl, by decide +kernel, by decide +kernel⟩
theorem fo_Shelf_need_room {P : Program} {w : World} {K : PySem.W.Frag} {mg : Str → Option Value} {base : Heap} {f : Addr} {fd : FuncData} (B : Bs mg) (C : Cs K mg) (F : Fun K "need_room" "Shelf.need_room" s_Shelf_need_room f fd) (D_is_within : Def P w K mg base 2 "is_within" ["thing", "least", "most"] (S_is_within K)) :
    FnOk P w K mg base (L2.CX P w) 3 f fd ["self", "room"] (lift (S_Shelf_need_room K)) := by
  refine fn_ok F sc_Shelf_need_room (fun vs G M R Z h => sp_len2 h) (fun cdv A outer s H E hr => ?_)
  have nd : N_Shelf_need_room.Nodup := sc_Shelf_need_room.nd
  have hu : _ + 64 < cLine := hr.units
  have tk : Takes (cxOf (L2.CX P w) P w K mg base N_Shelf_need_room "Shelf.need_room" (defScope s_Shelf_need_room) f cdv A outer s H E) (fun c d _ H => E c d H) := takes_of rfl rfl rfl rfl
  have po : PassesOwn (model P w) _ _ _ := passes_of (X := cxOf (L2.CX P w) P w K mg base N_Shelf_need_room "Shelf.need_room" (defScope s_Shelf_need_room) f cdv A outer s H E) rfl
  exact ⟨rd_Shelf_need_room K, jss_cons (js_if (jt_not (jt_val (je_callD D_is_within hr tk (ja_cons (je_var 1) (ja_cons (je_int) (ja_cons (je_op kop_sub (je_callB kc_len B.len (ja_cons (je_fld (je_var 0) C.f_things) (ja_nil))) (je_int)) (ja_nil))))))) (jss_cons (js_raise C.g_NoRoom C.r_NoRoom tk) (jss_nil)) (jss_nil)) (jss_nil), fun vs G M R Z h => pf_Shelf_need_room h⟩
abbrev s_Keeper_sees : Stmt := inClass (topS 12) 1
abbrev N_Keeper_sees : List Str := ["self", "deed", "shelf", "room"]
theorem sc_Keeper_sees : FnScope N_Keeper_sees ["self", "deed", "shelf", "room"] (defScope s_Keeper_sees) := ⟨rfl, rfl, rfl, by decide +kernel, rfl, by decide +kernel, by decide +kernel⟩
theorem fo_Keeper_sees {P : Program} {w : World} {K : PySem.W.Frag} {mg : Str → Option Value} {base : Heap} {f : Addr} {fd : FuncData} (B : Bs mg) (C : Cs K mg) (F : Fun K "sees" "Keeper.sees" s_Keeper_sees f fd)  :
    FnOk P w K mg base (L2.CX P w) 1 f fd ["self", "deed", "shelf", "room"] (lift (S_Keeper_sees K)) := by
  refine fn_ok F sc_Keeper_sees (fun vs G M R Z h => sp_len4 h) (fun cdv A outer s H E hr => ?_)
  have nd : N_Keeper_sees.Nodup := sc_Keeper_sees.nd
  have hu : _ + 64 < cLine := hr.units
  have tk : Takes (cxOf (L2.CX P w) P w K mg base N_Keeper_sees "Keeper.sees" (defScope s_Keeper_sees) f cdv A outer s H E) (fun c d _ H => E c d H) := takes_of rfl rfl rfl rfl
  have po : PassesOwn (model P w) _ _ _ := passes_of (X := cxOf (L2.CX P w) P w K mg base N_Keeper_sees "Keeper.sees" (defScope s_Keeper_sees) f cdv A outer s H E) rfl
  exact ⟨rd_Keeper_sees K, jss_cons (js_expr (je_bm PySem.F.plainAttrs_list PySem.F.slot_list_append PySem.F.type_list_append km_append (je_fld (je_var 0) C.f_log) (ja_cons (je_tup (ja_cons (je_var 1) (ja_cons (je_var 2) (ja_cons (je_var 3) (ja_nil))))) (ja_nil)))) (jss_nil), fun vs G M R Z h => pf_Keeper_sees h⟩
abbrev s_Shelf_look : Stmt := inClass (topS 13) 3
abbrev N_Shelf_look : List Str := ["self", "room"]
theorem sc_Shelf_look : FnScope N_Shelf_look ["self", "room"] (defScope s_Shelf_look) := ⟨rfl, rfl, rfl, by decide +kernel, rfl, by decide +kernel, by decide +kernel⟩
theorem fo_Shelf_look {P : Program} {w : World} {K : PySem.W.Frag} {mg : Str → Option Value} {base : Heap} {f : Addr} {fd : FuncData} (B : Bs mg) (C : Cs K mg) (F : Fun K "look" "Shelf.look" s_Shelf_look f fd) (M_need_room : ∀ p ∈ tabM_need_room K, MDef P w K mg base 3 p.1 "need_room" p.2) (M_sees : ∀ p ∈ tabM_sees K, MDef P w K mg base 1 p.1 "sees" p.2) :
    FnOk P w K mg base (L2.CX P w) 4 f fd ["self", "room"] (lift (S_Shelf_look K)) := by
  refine fn_ok F sc_Shelf_look (fun vs G M R Z h => sp_len2 h) (fun cdv A outer s H E hr => ?_)
  have nd : N_Shelf_look.Nodup := sc_Shelf_look.nd
  have hu : _ + 64 < cLine := hr.units
  have tk : Takes (cxOf (L2.CX P w) P w K mg base N_Shelf_look "Shelf.look" (defScope s_Shelf_look) f cdv A outer s H E) (fun c d _ H => E c d H) := takes_of rfl rfl rfl rfl
  have po : PassesOwn (model P w) _ _ _ := passes_of (X := cxOf (L2.CX P w) P w K mg base N_Shelf_look "Shelf.look" (defScope s_Shelf_look) f cdv A outer s H E) rfl
  exact ⟨rd_Shelf_look K, jss_cons (js_expr (je_meth (fun p hp => (M_need_room p hp).mono (by decide)) hr tk (je_var 0) (ja_cons (je_var 1) (ja_nil)))) (jss_cons (js_expr (je_meth (fun p hp => (M_sees p hp).mono (by decide)) hr tk (je_fld (je_var 0) C.f_keeper) (ja_cons (je_str) (ja_cons (je_fld (je_var 0) C.f_number) (ja_cons (je_var 1) (ja_nil)))))) (jss_cons (js_ret (je_ix (je_fld (je_var 0) C.f_things) (je_var 1))) (jss_nil))), fun vs G M R Z h => pf_Shelf_look h⟩
abbrev s_node_at : Stmt := topS 16
abbrev N_node_at : List Str := ["high", "depth", "leaf"]
theorem sc_node_at : FnScope N_node_at ["high", "depth", "leaf"] (defScope s_node_at) := ⟨rfl, rfl, rfl, by decide +kernel, rfl, by decide +kernel, by decide +kernel⟩
theorem fo_node_at {P : Program} {w : World} {K : PySem.W.Frag} {mg : Str → Option Value} {base : Heap} {f : Addr} {fd : FuncData} (B : Bs mg) (C : Cs K mg) (F : Fun K "node_at" "node_at" s_node_at f fd)  :
    FnOk P w K mg base (L2.CX P w) 1 f fd ["high", "depth", "leaf"] (lift (S_node_at K)) := by
  refine fn_ok F sc_node_at (fun vs G M R Z h => sp_len3 h) (fun cdv A outer s H E hr => ?_)
  have nd : N_node_at.Nodup := sc_node_at.nd
  have hu : _ + 64 < cLine := hr.units
  have tk : Takes (cxOf (L2.CX P w) P w K mg base N_node_at "node_at" (defScope s_node_at) f cdv A outer s H E) (fun c d _ H => E c d H) := takes_of rfl rfl rfl rfl
  have po : PassesOwn (model P w) _ _ _ := passes_of (X := cxOf (L2.CX P w) P w K mg base N_node_at "node_at" (defScope s_node_at) f cdv A outer s H E) rfl
  exact ⟨rd_node_at K, jss_cons (js_ret (je_op kop_add (je_op kop_sub (je_op kop_shl (je_int) (je_var 1)) (je_int)) (je_op kop_shr (je_var 2) (je_op kop_sub (je_var 0) (je_var 1))))) (jss_nil), fun vs G M R Z h => pf_node_at h⟩
theorem df_node_at {P : Program} {w : World} {K : PySem.W.Frag} {mg : Str → Option Value} {base : Heap} {f : Addr} {fd : FuncData} (B : Bs mg) (C : Cs K mg) (F : Fun K "node_at" "node_at" s_node_at f fd) (b : Binds K fd ["high", "depth", "leaf"] []) (gm : mg "node_at" = some (.ref f))  :
    Def P w K mg base 1 "node_at" ["high", "depth", "leaf"] (S_node_at K) := ⟨f, fd, fo_node_at B C F , gm, F.kp, b⟩
abbrev s_room_of : Stmt := topS 17
abbrev N_room_of : List Str := ["node", "side"]
theorem sc_room_of : FnScope N_room_of ["node", "side"] (defScope s_room_of) := ⟨rfl, rfl, rfl, by decide +kernel, rfl, by decide +kernel, by decide +kernel⟩
theorem fo_room_of {P : Program} {w : World} {K : PySem.W.Frag} {mg : Str → Option Value} {base : Heap} {f : Addr} {fd : FuncData} (B : Bs mg) (C : Cs K mg) (F : Fun K "room_of" "room_of" s_room_of f fd)  :
    FnOk P w K mg base (L2.CX P w) 1 f fd ["node", "side"] (lift (S_room_of K)) := by
  refine fn_ok F sc_room_of (fun vs G M R Z h => sp_len2 h) (fun cdv A outer s H E hr => ?_)
  have nd : N_room_of.Nodup := sc_room_of.nd
  have hu : _ + 64 < cLine := hr.units
  have tk : Takes (cxOf (L2.CX P w) P w K mg base N_room_of "room_of" (defScope s_room_of) f cdv A outer s H E) (fun c d _ H => E c d H) := takes_of rfl rfl rfl rfl
  have po : PassesOwn (model P w) _ _ _ := passes_of (X := cxOf (L2.CX P w) P w K mg base N_room_of "room_of" (defScope s_room_of) f cdv A outer s H E) rfl
  exact ⟨rd_room_of K, jss_cons (js_ret (je_op kop_add (je_op kop_mul (je_int) (je_var 0)) (je_var 1))) (jss_nil), fun vs G M R Z h => pf_room_of h⟩
theorem df_room_of {P : Program} {w : World} {K : PySem.W.Frag} {mg : Str → Option Value} {base : Heap} {f : Addr} {fd : FuncData} (B : Bs mg) (C : Cs K mg) (F : Fun K "room_of" "room_of" s_room_of f fd) (b : Binds K fd ["node", "side"] []) (gm : mg "room_of" = some (.ref f))  :
    Def P w K mg base 1 "room_of" ["node", "side"] (S_room_of K) := ⟨f, fd, fo_room_of B C F , gm, F.kp, b⟩
abbrev s_Body_look_way : Stmt := inClass (topS 18) 1
abbrev N_Body_look_way : List Str := ["self", "leaf", "depth", "side", "thing"]
theorem sc_Body_look_way : FnScope N_Body_look_way ["self", "leaf"] (defScope s_Body_look_way) := ⟨rfl, rfl, rfl, by decide +kernel, rfl, by decide +kernel, by decide +kernel⟩
theorem fo_Body_look_way {P : Program} {w : World} {K : PySem.W.Frag} {mg : Str → Option Value} {base : Heap} {f : Addr} {fd : FuncData} (B : Bs mg) (C : Cs K mg) (F : Fun K "look_way" "Body.look_way" s_Body_look_way f fd) (D_node_at : Def P w K mg base 1 "node_at" ["high", "depth", "leaf"] (S_node_at K)) (D_room_of : Def P w K mg base 1 "room_of" ["node", "side"] (S_room_of K)) (M_look : ∀ p ∈ tabM_look K, MDef P w K mg base 4 p.1 "look" p.2) :
    FnOk P w K mg base (L2.CX P w) 5 f fd ["self", "leaf"] (lift (S_Body_look_way K)) := by
  refine fn_ok F sc_Body_look_way (fun vs G M R Z h => sp_len2 h) (fun cdv A outer s H E hr => ?_)
  have nd : N_Body_look_way.Nodup := sc_Body_look_way.nd
  have hu : _ + 64 < cLine := hr.units
  have tk : Takes (cxOf (L2.CX P w) P w K mg base N_Body_look_way "Body.look_way" (defScope s_Body_look_way) f cdv A outer s H E) (fun c d _ H => E c d H) := takes_of rfl rfl rfl rfl
  have po : PassesOwn (model P w) _ _ _ := passes_of (X := cxOf (L2.CX P w) P w K mg base N_Body_look_way "Body.look_way" (defScope s_Body_look_way) f cdv A outer s H E) rfl
  exact ⟨rd_Body_look_way K, jss_cons (js_for po rfl (ji_range1 B.range (ja_cons (je_op kop_add (je_fld (je_var 0) C.f_high) (je_int)) (ja_nil))) (jg_name (i := 2) nd) (jss_cons (js_for po rfl (ji_tup (je_conT C.k_SIDES)) (jg_name (i := 3) nd) (jss_cons (js_set (i := 4) (je_meth (fun p hp => (M_look p hp).mono (by decide)) hr tk (je_fld (je_var 0) C.f_shelf) (ja_cons (je_callD D_room_of hr tk (ja_cons (je_callD D_node_at hr tk (ja_cons (je_fld (je_var 0) C.f_high) (ja_cons (je_var 2) (ja_cons (je_var 1) (ja_nil))))) (ja_cons (je_var 3) (ja_nil)))) (ja_nil))) nd) (jss_cons (js_if (jt_cmp (kop_isnot2) (je_var 4) (je_non) (nomark _)) (jss_cons (js_dset hu (je_fld (je_var 0) C.f_hand) (je_ix (je_var 4) (je_int)) (je_tup (ja_cons (je_ix (je_var 4) (je_int)) (ja_cons (je_ix (je_var 4) (je_int)) (ja_nil))))) (jss_nil)) (jss_nil)) (jss_nil)))) (jss_nil))) (jss_nil), fun vs G M R Z h => pf_Body_look_way h⟩
abbrev s_Body_word_of : Stmt := inClass (topS 18) 2
abbrev N_Body_word_of : List Str := ["self", "cell"]
theorem sc_Body_word_of : FnScope N_Body_word_of ["self", "cell"] (defScope s_Body_word_of) := ⟨rfl, rfl, rfl, by decide +kernel, rfl, by decide +kernel, by decide +kernel⟩
theorem fo_Body_word_of {P : Program} {w : World} {K : PySem.W.Frag} {mg : Str → Option Value} {base : Heap} {f : Addr} {fd : FuncData} (B : Bs mg) (C : Cs K mg) (F : Fun K "word_of" "Body.word_of" s_Body_word_of f fd)  :
    FnOk P w K mg base (L2.CX P w) 1 f fd ["self", "cell"] (lift (S_Body_word_of K)) := by
  refine fn_ok F sc_Body_word_of (fun vs G M R Z h => sp_len2 h) (fun cdv A outer s H E hr => ?_)
  have nd : N_Body_word_of.Nodup := sc_Body_word_of.nd
  have hu : _ + 64 < cLine := hr.units
  have tk : Takes (cxOf (L2.CX P w) P w K mg base N_Body_word_of "Body.word_of" (defScope s_Body_word_of) f cdv A outer s H E) (fun c d _ H => E c d H) := takes_of rfl rfl rfl rfl
  have po : PassesOwn (model P w) _ _ _ := passes_of (X := cxOf (L2.CX P w) P w K mg base N_Body_word_of "Body.word_of" (defScope s_Body_word_of) f cdv A outer s H E) rfl
  exact ⟨rd_Body_word_of K, jss_cons (js_if (jt_din hu (je_var 1) (je_fld (je_var 0) C.f_hand)) (jss_cons (js_ret (je_ix (je_dget hu (je_fld (je_var 0) C.f_hand) (je_var 1)) (je_int))) (jss_nil)) (jss_nil)) (jss_cons (js_ret (je_ix (je_fld (je_var 0) C.f_firsts) (je_var 1))) (jss_nil)), fun vs G M R Z h => pf_Body_word_of h⟩
abbrev s_Body_keep : Stmt := inClass (topS 18) 3
abbrev N_Body_keep : List Str := ["self", "cell", "word", "leaf"]
theorem sc_Body_keep : FnScope N_Body_keep ["self", "cell", "word", "leaf"] (defScope s_Body_keep) := ⟨rfl, rfl, rfl, by decide +kernel, rfl, by decide +kernel, by decide +kernel⟩
theorem fo_Body_keep {P : Program} {w : World} {K : PySem.W.Frag} {mg : Str → Option Value} {base : Heap} {f : Addr} {fd : FuncData} (B : Bs mg) (C : Cs K mg) (F : Fun K "keep" "Body.keep" s_Body_keep f fd)  :
    FnOk P w K mg base (L2.CX P w) 1 f fd ["self", "cell", "word", "leaf"] (lift (S_Body_keep K)) := by
  refine fn_ok F sc_Body_keep (fun vs G M R Z h => sp_len4 h) (fun cdv A outer s H E hr => ?_)
  have nd : N_Body_keep.Nodup := sc_Body_keep.nd
  have hu : _ + 64 < cLine := hr.units
  have tk : Takes (cxOf (L2.CX P w) P w K mg base N_Body_keep "Body.keep" (defScope s_Body_keep) f cdv A outer s H E) (fun c d _ H => E c d H) := takes_of rfl rfl rfl rfl
  have po : PassesOwn (model P w) _ _ _ := passes_of (X := cxOf (L2.CX P w) P w K mg base N_Body_keep "Body.keep" (defScope s_Body_keep) f cdv A outer s H E) rfl
  exact ⟨rd_Body_keep K, jss_cons (js_dset hu (je_fld (je_var 0) C.f_hand) (je_var 1) (je_tup (ja_cons (je_var 2) (ja_cons (je_var 3) (ja_nil))))) (jss_nil), fun vs G M R Z h => pf_Body_keep h⟩
abbrev s_leaf_in : Stmt := topS 51
abbrev N_leaf_in : List Str := ["word", "high", "place"]
theorem sc_leaf_in : FnScope N_leaf_in ["word", "high", "place"] (defScope s_leaf_in) := ⟨rfl, rfl, rfl, by decide +kernel, rfl, by decide +kernel, by decide +kernel⟩
theorem fo_leaf_in {P : Program} {w : World} {K : PySem.W.Frag} {mg : Str → Option Value} {base : Heap} {f : Addr} {fd : FuncData} (B : Bs mg) (C : Cs K mg) (F : Fun K "leaf_in" "leaf_in" s_leaf_in f fd)  :
    FnOk P w K mg base (L2.CX P w) 1 f fd ["word", "high", "place"] (lift (S_leaf_in K)) := by
  refine fn_ok F sc_leaf_in (fun vs G M R Z h => sp_len3 h) (fun cdv A outer s H E hr => ?_)
  have nd : N_leaf_in.Nodup := sc_leaf_in.nd
  have hu : _ + 64 < cLine := hr.units
  have tk : Takes (cxOf (L2.CX P w) P w K mg base N_leaf_in "leaf_in" (defScope s_leaf_in) f cdv A outer s H E) (fun c d _ H => E c d H) := takes_of rfl rfl rfl rfl
  have po : PassesOwn (model P w) _ _ _ := passes_of (X := cxOf (L2.CX P w) P w K mg base N_leaf_in "leaf_in" (defScope s_leaf_in) f cdv A outer s H E) rfl
  exact ⟨rd_leaf_in K, jss_cons (js_ret (je_op kop_mod (je_op kop_shr (je_var 0) (je_op kop_mul (je_var 1) (je_var 2))) (je_op kop_shl (je_int) (je_var 1)))) (jss_nil), fun vs G M R Z h => pf_leaf_in h⟩
theorem df_leaf_in {P : Program} {w : World} {K : PySem.W.Frag} {mg : Str → Option Value} {base : Heap} {f : Addr} {fd : FuncData} (B : Bs mg) (C : Cs K mg) (F : Fun K "leaf_in" "leaf_in" s_leaf_in f fd) (b : Binds K fd ["word", "high", "place"] []) (gm : mg "leaf_in" = some (.ref f))  :
    Def P w K mg base 1 "leaf_in" ["word", "high", "place"] (S_leaf_in K) := ⟨f, fd, fo_leaf_in B C F , gm, F.kp, b⟩
abbrev s_with_leaf : Stmt := topS 52
abbrev N_with_leaf : List Str := ["word", "high", "place", "leaf"]
theorem sc_with_leaf : FnScope N_with_leaf ["word", "high", "place", "leaf"] (defScope s_with_leaf) := ⟨rfl, rfl, rfl, by decide +kernel, rfl, by decide +kernel, by decide +kernel⟩
theorem fo_with_leaf {P : Program} {w : World} {K : PySem.W.Frag} {mg : Str → Option Value} {base : Heap} {f : Addr} {fd : FuncData} (B : Bs mg) (C : Cs K mg) (F : Fun K "with_leaf" "with_leaf" s_with_leaf f fd) (D_leaf_in : Def P w K mg base 1 "leaf_in" ["word", "high", "place"] (S_leaf_in K)) :
    FnOk P w K mg base (L2.CX P w) 2 f fd ["word", "high", "place", "leaf"] (lift (S_with_leaf K)) := by
  refine fn_ok F sc_with_leaf (fun vs G M R Z h => sp_len4 h) (fun cdv A outer s H E hr => ?_)
  have nd : N_with_leaf.Nodup := sc_with_leaf.nd
  have hu : _ + 64 < cLine := hr.units
  have tk : Takes (cxOf (L2.CX P w) P w K mg base N_with_leaf "with_leaf" (defScope s_with_leaf) f cdv A outer s H E) (fun c d _ H => E c d H) := takes_of rfl rfl rfl rfl
  have po : PassesOwn (model P w) _ _ _ := passes_of (X := cxOf (L2.CX P w) P w K mg base N_with_leaf "with_leaf" (defScope s_with_leaf) f cdv A outer s H E) rfl
  exact ⟨rd_with_leaf K, jss_cons (js_ret (je_op kop_add (je_var 0) (je_op kop_shlW (je_op kop_sub (je_var 3) (je_callD D_leaf_in hr tk (ja_cons (je_var 0) (ja_cons (je_var 1) (ja_cons (je_var 2) (ja_nil)))))) (je_op kop_mul (je_var 1) (je_var 2))))) (jss_nil), fun vs G M R Z h => pf_with_leaf h⟩
theorem df_with_leaf {P : Program} {w : World} {K : PySem.W.Frag} {mg : Str → Option Value} {base : Heap} {f : Addr} {fd : FuncData} (B : Bs mg) (C : Cs K mg) (F : Fun K "with_leaf" "with_leaf" s_with_leaf f fd) (b : Binds K fd ["word", "high", "place", "leaf"] []) (gm : mg "with_leaf" = some (.ref f)) (D_leaf_in : Def P w K mg base 1 "leaf_in" ["word", "high", "place"] (S_leaf_in K)) :
    Def P w K mg base 2 "with_leaf" ["word", "high", "place", "leaf"] (S_with_leaf K) := ⟨f, fd, fo_with_leaf B C F D_leaf_in, gm, F.kp, b⟩
abbrev s_Body_fitting : Stmt := inClass (topS 18) 4
abbrev N_Body_fitting : List Str := ["self", "depth", "node", "found", "cell"]
theorem sc_Body_fitting : FnScope N_Body_fitting ["self", "depth", "node"] (defScope s_Body_fitting) := ⟨rfl, rfl, rfl, by decide +kernel, rfl, by decide +kernel, by decide +kernel⟩
theorem fo_Body_fitting {P : Program} {w : World} {K : PySem.W.Frag} {mg : Str → Option Value} {base : Heap} {f : Addr} {fd : FuncData} (B : Bs mg) (C : Cs K mg) (F : Fun K "fitting" "Body.fitting" s_Body_fitting f fd) (D_node_at : Def P w K mg base 1 "node_at" ["high", "depth", "leaf"] (S_node_at K)) :
    FnOk P w K mg base (L2.CX P w) 2 f fd ["self", "depth", "node"] (lift (S_Body_fitting K)) := by
  refine fn_ok F sc_Body_fitting (fun vs G M R Z h => sp_len3 h) (fun cdv A outer s H E hr => ?_)
  have nd : N_Body_fitting.Nodup := sc_Body_fitting.nd
  have hu : _ + 64 < cLine := hr.units
  have tk : Takes (cxOf (L2.CX P w) P w K mg base N_Body_fitting "Body.fitting" (defScope s_Body_fitting) f cdv A outer s H E) (fun c d _ H => E c d H) := takes_of rfl rfl rfl rfl
  have po : PassesOwn (model P w) _ _ _ := passes_of (X := cxOf (L2.CX P w) P w K mg base N_Body_fitting "Body.fitting" (defScope s_Body_fitting) f cdv A outer s H E) rfl
  exact ⟨rd_Body_fitting K, jss_cons (js_setComp (own := [("cell", 4)]) (i := 3) rfl nd (sw_true rfl rfl rfl (by decide +kernel)) (ji_list (je_callB kc_sortedD B.sorted (ja_cons (je_fld (je_var 0) C.f_hand) (ja_nil)))) (blkOk_by (own := [("cell", 4)]) (N := N_Body_fitting) (sc := defScope s_Body_fitting) (by decide +kernel)) (fun _ _ _ _ _ => by exact jg_name (i := 4) nd) (fun _ _ _ _ _ => by exact jts_one (jt_cmp (kop_eq hu) (je_callD D_node_at hr takes0 (ja_cons (je_fld (je_var 0) C.f_high) (ja_cons (je_var 1) (ja_cons (je_ix (je_dget hu (je_fld (je_var 0) C.f_hand) (je_var 4)) (je_int)) (ja_nil))))) (je_var 2) (nomark _))) (fun _ _ _ _ _ => by exact je_var 4)) (jss_cons (js_ret (je_slice (je_var 3) (jo_none) (jo_some (je_int)))) (jss_nil)), fun vs G M R Z h => pf_Body_fitting h⟩
abbrev s_Shelf_lay : Stmt := inClass (topS 13) 4
abbrev N_Shelf_lay : List Str := ["self", "room", "thing"]
theorem sc_Shelf_lay : FnScope N_Shelf_lay ["self", "room", "thing"] (defScope s_Shelf_lay) := ⟨rfl, rfl, rfl, by decide +kernel, rfl, by decide +kernel, by decide +kernel⟩
theorem fo_Shelf_lay {P : Program} {w : World} {K : PySem.W.Frag} {mg : Str → Option Value} {base : Heap} {f : Addr} {fd : FuncData} (B : Bs mg) (C : Cs K mg) (F : Fun K "lay" "Shelf.lay" s_Shelf_lay f fd) (M_need_room : ∀ p ∈ tabM_need_room K, MDef P w K mg base 3 p.1 "need_room" p.2) (M_sees : ∀ p ∈ tabM_sees K, MDef P w K mg base 1 p.1 "sees" p.2) :
    FnOk P w K mg base (L2.CX P w) 4 f fd ["self", "room", "thing"] (lift (S_Shelf_lay K)) := by
  refine fn_ok F sc_Shelf_lay (fun vs G M R Z h => sp_len3 h) (fun cdv A outer s H E hr => ?_)
  have nd : N_Shelf_lay.Nodup := sc_Shelf_lay.nd
  have hu : _ + 64 < cLine := hr.units
  have tk : Takes (cxOf (L2.CX P w) P w K mg base N_Shelf_lay "Shelf.lay" (defScope s_Shelf_lay) f cdv A outer s H E) (fun c d _ H => E c d H) := takes_of rfl rfl rfl rfl
  have po : PassesOwn (model P w) _ _ _ := passes_of (X := cxOf (L2.CX P w) P w K mg base N_Shelf_lay "Shelf.lay" (defScope s_Shelf_lay) f cdv A outer s H E) rfl
  exact ⟨rd_Shelf_lay K, jss_cons (js_expr (je_meth (fun p hp => (M_need_room p hp).mono (by decide)) hr tk (je_var 0) (ja_cons (je_var 1) (ja_nil)))) (jss_cons (js_expr (je_meth (fun p hp => (M_sees p hp).mono (by decide)) hr tk (je_fld (je_var 0) C.f_keeper) (ja_cons (je_str) (ja_cons (je_fld (je_var 0) C.f_number) (ja_cons (je_var 1) (ja_nil)))))) (jss_cons (js_asg (je_var 2) (jg_ix (je_fld (je_var 0) C.f_things) (je_var 1))) (jss_nil))), fun vs G M R Z h => pf_Shelf_lay h⟩
abbrev s_Body_lay_way : Stmt := inClass (topS 18) 5
abbrev N_Body_lay_way : List Str := ["self", "leaf", "depth", "node", "cells", "side", "thing", "word", "own"]
theorem sc_Body_lay_way : FnScope N_Body_lay_way ["self", "leaf"] (defScope s_Body_lay_way) := ⟨rfl, rfl, rfl, by decide +kernel, rfl, by decide +kernel, by decide +kernel⟩
theorem fo_Body_lay_way {P : Program} {w : World} {K : PySem.W.Frag} {mg : Str → Option Value} {base : Heap} {f : Addr} {fd : FuncData} (B : Bs mg) (C : Cs K mg) (F : Fun K "lay_way" "Body.lay_way" s_Body_lay_way f fd) (D_node_at : Def P w K mg base 1 "node_at" ["high", "depth", "leaf"] (S_node_at K)) (D_room_of : Def P w K mg base 1 "room_of" ["node", "side"] (S_room_of K)) (M_fitting : ∀ p ∈ tabM_fitting K, MDef P w K mg base 2 p.1 "fitting" p.2) (M_lay : ∀ p ∈ tabM_lay K, MDef P w K mg base 4 p.1 "lay" p.2) :
    FnOk P w K mg base (L2.CX P w) 5 f fd ["self", "leaf"] (lift (S_Body_lay_way K)) := by
  refine fn_ok F sc_Body_lay_way (fun vs G M R Z h => sp_len2 h) (fun cdv A outer s H E hr => ?_)
  have nd : N_Body_lay_way.Nodup := sc_Body_lay_way.nd
  have hu : _ + 64 < cLine := hr.units
  have tk : Takes (cxOf (L2.CX P w) P w K mg base N_Body_lay_way "Body.lay_way" (defScope s_Body_lay_way) f cdv A outer s H E) (fun c d _ H => E c d H) := takes_of rfl rfl rfl rfl
  have po : PassesOwn (model P w) _ _ _ := passes_of (X := cxOf (L2.CX P w) P w K mg base N_Body_lay_way "Body.lay_way" (defScope s_Body_lay_way) f cdv A outer s H E) rfl
  exact ⟨rd_Body_lay_way K, jss_cons (js_for po rfl (ji_range3 B.range (ja_cons (je_fld (je_var 0) C.f_high) (ja_cons (je_neg (je_int)) (ja_cons (je_neg (je_int)) (ja_nil))))) (jg_name (i := 2) nd) (jss_cons (js_set (i := 3) (je_callD D_node_at hr tk (ja_cons (je_fld (je_var 0) C.f_high) (ja_cons (je_var 2) (ja_cons (je_var 1) (ja_nil))))) nd) (jss_cons (js_set (i := 4) (je_meth (fun p hp => (M_fitting p hp).mono (by decide)) hr tk (je_var 0) (ja_cons (je_var 2) (ja_cons (je_var 3) (ja_nil)))) nd) (jss_cons (js_for po rfl (ji_tup (je_conT C.k_SIDES)) (jg_name (i := 5) nd) (jss_cons (js_set (i := 6) (je_non) nd) (jss_cons (js_if (jt_cmp (kop_lt) (je_var 5) (je_callB kc_len B.len (ja_cons (je_var 4) (ja_nil))) (nomark _)) (jss_cons (js_asg (je_dpop2 (je_fld (je_var 0) C.f_hand) (je_ix (je_var 4) (je_var 5)) (je_tup (ja_cons (je_int) (ja_cons (je_int) (ja_nil))))) (jg_tup rfl (jgs_cons (jg_name (i := 7) nd) (jgs_cons (jg_name (i := 8) nd) (jgs_nil))))) (jss_cons (js_set (i := 6) (je_tup (ja_cons (je_ix (je_var 4) (je_var 5)) (ja_cons (je_var 7) (ja_cons (je_var 8) (ja_nil))))) nd) (jss_nil))) (jss_nil)) (jss_cons (js_expr (je_meth (fun p hp => (M_lay p hp).mono (by decide)) hr tk (je_fld (je_var 0) C.f_shelf) (ja_cons (je_callD D_room_of hr tk (ja_cons (je_var 3) (ja_cons (je_var 5) (ja_nil)))) (ja_cons (je_var 6) (ja_nil))))) (jss_nil))))) (jss_nil))))) (jss_nil), fun vs G M R Z h => pf_Body_lay_way h⟩
abbrev s_Grove_passed : Stmt := inClass (topS 54) 3
abbrev N_Grove_passed : List Str := ["self", "number", "cell", "leaf", "own", "place", "high", "body", "old"]
theorem sc_Grove_passed : FnScope N_Grove_passed ["self", "number", "cell", "leaf"] (defScope s_Grove_passed) := ⟨rfl, rfl, rfl, by decide +kernel, rfl, by decide +kernel, by decide +kernel⟩
theorem fo_Grove_passed {P : Program} {w : World} {K : PySem.W.Frag} {mg : Str → Option Value} {base : Heap} {f : Addr} {fd : FuncData} (B : Bs mg) (C : Cs K mg) (F : Fun K "passed" "Grove.passed" s_Grove_passed f fd) (D_with_leaf : Def P w K mg base 2 "with_leaf" ["word", "high", "place", "leaf"] (S_with_leaf K)) (D_leaf_in : Def P w K mg base 1 "leaf_in" ["word", "high", "place"] (S_leaf_in K)) (M_look_way : ∀ p ∈ tabM_look_way K, MDef P w K mg base 5 p.1 "look_way" p.2) (M_word_of : ∀ p ∈ tabM_word_of K, MDef P w K mg base 1 p.1 "word_of" p.2) (M_keep : ∀ p ∈ tabM_keep K, MDef P w K mg base 1 p.1 "keep" p.2) (M_fresh : ∀ p ∈ tabM_fresh K, MDef P w K mg base 1 p.1 "fresh" p.2) (M_lay_way : ∀ p ∈ tabM_lay_way K, MDef P w K mg base 5 p.1 "lay_way" p.2) :
    FnOk P w K mg base (L2.CX P w) 6 f fd ["self", "number", "cell", "leaf"] (lift (S_Grove_passed K)) := by
  refine fn_ok F sc_Grove_passed (fun vs G M R Z h => sp_len4 h) (fun cdv A outer s H E hr => ?_)
  have nd : N_Grove_passed.Nodup := sc_Grove_passed.nd
  have hu : _ + 64 < cLine := hr.units
  have tk : Takes (cxOf (L2.CX P w) P w K mg base N_Grove_passed "Grove.passed" (defScope s_Grove_passed) f cdv A outer s H E) (fun c d _ H => E c d H) := takes_of rfl rfl rfl rfl
  have po : PassesOwn (model P w) _ _ _ := passes_of (X := cxOf (L2.CX P w) P w K mg base N_Grove_passed "Grove.passed" (defScope s_Grove_passed) f cdv A outer s H E) rfl
  exact ⟨rd_Grove_passed K, jss_cons (js_set (i := 4) (je_op kop_shr (je_var 2) (je_op kop_mul (je_int) (je_var 1))) nd) (jss_cons (js_set (i := 5) (je_op kop_mod (je_op kop_shr (je_var 2) (je_op kop_sub (je_op kop_mul (je_int) (je_var 1)) (je_int))) (je_const C.k_TABLE)) nd) (jss_cons (js_set (i := 6) (je_ix (je_fld (je_var 0) C.f_highs) (je_op kop_sub (je_var 1) (je_int))) nd) (jss_cons (js_set (i := 7) (je_ix (je_fld (je_var 0) C.f_bodies) (je_var 1)) nd) (jss_cons (js_expr (je_meth (fun p hp => (M_look_way p hp).mono (by decide)) hr tk (je_var 7) (ja_cons (je_var 3) (ja_nil)))) (jss_cons (js_set (i := 8) (je_meth (fun p hp => (M_word_of p hp).mono (by decide)) hr tk (je_var 7) (ja_cons (je_var 4) (ja_nil))) nd) (jss_cons (js_expr (je_meth (fun p hp => (M_keep p hp).mono (by decide)) hr tk (je_var 7) (ja_cons (je_var 4) (ja_cons (je_callD D_with_leaf hr tk (ja_cons (je_var 8) (ja_cons (je_var 6) (ja_cons (je_var 5) (ja_cons (je_meth (fun p hp => (M_fresh p hp).mono (by decide)) hr tk (je_var 0) (ja_cons (je_op kop_sub (je_var 1) (je_int)) (ja_nil))) (ja_nil)))))) (ja_cons (je_meth (fun p hp => (M_fresh p hp).mono (by decide)) hr tk (je_var 0) (ja_cons (je_var 1) (ja_nil))) (ja_nil)))))) (jss_cons (js_expr (je_meth (fun p hp => (M_lay_way p hp).mono (by decide)) hr tk (je_var 7) (ja_cons (je_var 3) (ja_nil)))) (jss_cons (js_ret (je_callD D_leaf_in hr tk (ja_cons (je_var 8) (ja_cons (je_var 6) (ja_cons (je_var 5) (ja_nil)))))) (jss_nil))))))))), fun vs G M R Z h => pf_Grove_passed h⟩
abbrev s_Grove_answered : Stmt := inClass (topS 54) 2
abbrev N_Grove_answered : List Str := ["self", "cell", "word", "last", "own", "leaf", "number", "body", "told"]
theorem sc_Grove_answered : FnScope N_Grove_answered ["self", "cell", "word"] (defScope s_Grove_answered) := ⟨rfl, rfl, rfl, by decide +kernel, rfl, by decide +kernel, by decide +kernel⟩
theorem fo_Grove_answered {P : Program} {w : World} {K : PySem.W.Frag} {mg : Str → Option Value} {base : Heap} {f : Addr} {fd : FuncData} (B : Bs mg) (C : Cs K mg) (F : Fun K "answered" "Grove.answered" s_Grove_answered f fd) (M_fresh : ∀ p ∈ tabM_fresh K, MDef P w K mg base 1 p.1 "fresh" p.2) (M_passed : ∀ p ∈ tabM_passed K, MDef P w K mg base 6 p.1 "passed" p.2) (M_look_way : ∀ p ∈ tabM_look_way K, MDef P w K mg base 5 p.1 "look_way" p.2) (M_word_of : ∀ p ∈ tabM_word_of K, MDef P w K mg base 1 p.1 "word_of" p.2) (M_keep : ∀ p ∈ tabM_keep K, MDef P w K mg base 1 p.1 "keep" p.2) (M_lay_way : ∀ p ∈ tabM_lay_way K, MDef P w K mg base 5 p.1 "lay_way" p.2) :
    FnOk P w K mg base (L2.CX P w) 7 f fd ["self", "cell", "word"] (lift (S_Grove_answered K)) := by
  refine fn_ok F sc_Grove_answered (fun vs G M R Z h => sp_len3 h) (fun cdv A outer s H E hr => ?_)
  have nd : N_Grove_answered.Nodup := sc_Grove_answered.nd
  have hu : _ + 64 < cLine := hr.units
  have tk : Takes (cxOf (L2.CX P w) P w K mg base N_Grove_answered "Grove.answered" (defScope s_Grove_answered) f cdv A outer s H E) (fun c d _ H => E c d H) := takes_of rfl rfl rfl rfl
  have po : PassesOwn (model P w) _ _ _ := passes_of (X := cxOf (L2.CX P w) P w K mg base N_Grove_answered "Grove.answered" (defScope s_Grove_answered) f cdv A outer s H E) rfl
  exact ⟨rd_Grove_answered K, jss_cons (js_set (i := 3) (je_op kop_sub (je_callB kc_len B.len (ja_cons (je_fld (je_var 0) C.f_bodies) (ja_nil))) (je_int)) nd) (jss_cons (js_set (i := 4) (je_op kop_shr (je_var 1) (je_op kop_mul (je_int) (je_var 3))) nd) (jss_cons (js_set (i := 5) (je_ix (je_fld (je_var 0) C.f_table) (je_var 4)) nd) (jss_cons (js_asg (je_meth (fun p hp => (M_fresh p hp).mono (by decide)) hr tk (je_var 0) (ja_cons (je_var 3) (ja_nil))) (jg_ix (je_fld (je_var 0) C.f_table) (je_var 4))) (jss_cons (js_for po rfl (ji_range3 B.range (ja_cons (je_var 3) (ja_cons (je_int) (ja_cons (je_neg (je_int)) (ja_nil))))) (jg_name (i := 6) nd) (jss_cons (js_set (i := 5) (je_meth (fun p hp => (M_passed p hp).mono (by decide)) hr tk (je_var 0) (ja_cons (je_var 6) (ja_cons (je_var 1) (ja_cons (je_var 5) (ja_nil))))) nd) (jss_nil))) (jss_cons (js_set (i := 7) (je_ix (je_fld (je_var 0) C.f_bodies) (je_int)) nd) (jss_cons (js_expr (je_meth (fun p hp => (M_look_way p hp).mono (by decide)) hr tk (je_var 7) (ja_cons (je_var 5) (ja_nil)))) (jss_cons (js_set (i := 8) (je_meth (fun p hp => (M_word_of p hp).mono (by decide)) hr tk (je_var 7) (ja_cons (je_var 1) (ja_nil))) nd) (jss_cons (js_expr (je_meth (fun p hp => (M_keep p hp).mono (by decide)) hr tk (je_var 7) (ja_cons (je_var 1) (ja_cons (je_ite (jt_cmp (kop_is2) (je_var 2) (je_non) (nomark _)) (je_var 8) (je_var 2)) (ja_cons (je_meth (fun p hp => (M_fresh p hp).mono (by decide)) hr tk (je_var 0) (ja_cons (je_int) (ja_nil))) (ja_nil)))))) (jss_cons (js_expr (je_meth (fun p hp => (M_lay_way p hp).mono (by decide)) hr tk (je_var 7) (ja_cons (je_var 5) (ja_nil)))) (jss_cons (js_ret (je_var 8)) (jss_nil))))))))))), fun vs G M R Z h => pf_Grove_answered h⟩
abbrev s_word_asked : Stmt := topS 35
abbrev N_word_asked : List Str := ["deed"]
theorem sc_word_asked : FnScope N_word_asked ["deed"] (defScope s_word_asked) := ⟨rfl, rfl, rfl, by decide +kernel, rfl, by decide +kernel, by decide +kernel⟩
theorem fo_word_asked {P : Program} {w : World} {K : PySem.W.Frag} {mg : Str → Option Value} {base : Heap} {f : Addr} {fd : FuncData} (B : Bs mg) (C : Cs K mg) (F : Fun K "word_asked" "word_asked" s_word_asked f fd)  :
    FnOk P w K mg base (L2.CX P w) 1 f fd ["deed"] (lift (S_word_asked K)) := by
  refine fn_ok F sc_word_asked (fun vs G M R Z h => sp_len1 h) (fun cdv A outer s H E hr => ?_)
  have nd : N_word_asked.Nodup := sc_word_asked.nd
  have hu : _ + 64 < cLine := hr.units
  have tk : Takes (cxOf (L2.CX P w) P w K mg base N_word_asked "word_asked" (defScope s_word_asked) f cdv A outer s H E) (fun c d _ H => E c d H) := takes_of rfl rfl rfl rfl
  have po : PassesOwn (model P w) _ _ _ := passes_of (X := cxOf (L2.CX P w) P w K mg base N_word_asked "word_asked" (defScope s_word_asked) f cdv A outer s H E) rfl
  exact ⟨rd_word_asked K, jss_cons (js_if (jt_cmp (kop_eq hu) (je_ix (je_var 0) (je_int)) (je_str) (nomark _)) (jss_cons (js_ret (je_non)) (jss_nil)) (jss_nil)) (jss_cons (js_ret (je_ix (je_var 0) (je_int))) (jss_nil)), fun vs G M R Z h => pf_word_asked h⟩
theorem df_word_asked {P : Program} {w : World} {K : PySem.W.Frag} {mg : Str → Option Value} {base : Heap} {f : Addr} {fd : FuncData} (B : Bs mg) (C : Cs K mg) (F : Fun K "word_asked" "word_asked" s_word_asked f fd) (b : Binds K fd ["deed"] []) (gm : mg "word_asked" = some (.ref f))  :
    Def P w K mg base 1 "word_asked" ["deed"] (S_word_asked K) := ⟨f, fd, fo_word_asked B C F , gm, F.kp, b⟩
abbrev s_Store_ask : Stmt := inClass (topS 48) 8
abbrev N_Store_ask : List Str := ["self", "deed", "told"]
theorem sc_Store_ask : FnScope N_Store_ask ["self", "deed"] (defScope s_Store_ask) := ⟨rfl, rfl, rfl, by decide +kernel, rfl, by decide +kernel, by decide +kernel⟩
theorem fo_Store_ask {P : Program} {w : World} {K : PySem.W.Frag} {mg : Str → Option Value} {base : Heap} {f : Addr} {fd : FuncData} (B : Bs mg) (C : Cs K mg) (F : Fun K "ask" "Store.ask" s_Store_ask f fd) (D_need_ask : Def P w K mg base 4 "need_ask" ["many", "thing"] (S_need_ask K)) (D_word_asked : Def P w K mg base 1 "word_asked" ["deed"] (S_word_asked K)) (M_left : ∀ p ∈ tabM_left K, MDef P w K mg base 1 p.1 "left" p.2) (M_answered : ∀ p ∈ tabM_answered K, MDef P w K mg base 7 p.1 "answered" p.2) :
    FnOk P w K mg base (L2.CX P w) 8 f fd ["self", "deed"] (lift (S_Store_ask K)) := by
  refine fn_ok F sc_Store_ask (fun vs G M R Z h => sp_len2 h) (fun cdv A outer s H E hr => ?_)
  have nd : N_Store_ask.Nodup := sc_Store_ask.nd
  have hu : _ + 64 < cLine := hr.units
  have tk : Takes (cxOf (L2.CX P w) P w K mg base N_Store_ask "Store.ask" (defScope s_Store_ask) f cdv A outer s H E) (fun c d _ H => E c d H) := takes_of rfl rfl rfl rfl
  have po : PassesOwn (model P w) _ _ _ := passes_of (X := cxOf (L2.CX P w) P w K mg base N_Store_ask "Store.ask" (defScope s_Store_ask) f cdv A outer s H E) rfl
  exact ⟨rd_Store_ask K, jss_cons (js_expr (je_callD D_need_ask hr tk (ja_cons (je_fld (je_var 0) C.f_cells) (ja_cons (je_var 1) (ja_nil))))) (jss_cons (js_if (jt_cmp (kop_lt) (je_meth0 (fun p hp => (M_left p hp).mono (by decide)) hr tk (je_var 0)) (je_int) (nomark _)) (jss_cons (js_raise C.g_Over C.r_Over tk) (jss_nil)) (jss_nil)) (jss_cons (js_set (i := 2) (je_meth (fun p hp => (M_answered p hp).mono (by decide)) hr tk (je_var 0) (ja_cons (je_ix (je_var 1) (je_int)) (ja_cons (je_callD D_word_asked hr tk (ja_cons (je_var 1) (ja_nil))) (ja_nil)))) nd) (jss_cons (js_fset (je_var 0) (je_op kop_add (je_fld (je_var 0) C.f_made) (je_int)) C.f_made) (jss_cons (js_ret (je_var 2)) (jss_nil))))), fun vs G M R Z h => pf_Store_ask h⟩
abbrev s_law_refused : Stmt := topS 68
abbrev N_law_refused : List Str := ["_law_pool_here", "_law_grove", "_law_many_here", "_law_odd", "_law_found", "e"]
theorem sc_law_refused : FnScope N_law_refused ["_law_pool_here", "_law_grove", "_law_many_here"] (defScope s_law_refused) := ⟨rfl, rfl, rfl, by decide +kernel, rfl, by decide +kernel, by decide +kernel⟩
theorem fo_law_refused {P : Program} {w : World} {K : PySem.W.Frag} {mg : Str → Option Value} {base : Heap} {f : Addr} {fd : FuncData} (B : Bs mg) (C : Cs K mg) (F : Fun K "_law_refused" "_law_refused" s_law_refused f fd) (D_law_take : Def P w K mg base 1 "_law_take" ["_law_pool_here", "_law_many_here"] (S_law_take K)) (M_ask : ∀ p ∈ tabM_ask K, MDef P w K mg base 8 p.1 "ask" p.2) :
    FnOk P w K mg base (L2.CX P w) 9 f fd ["_law_pool_here", "_law_grove", "_law_many_here"] (lift (S_law_refused K)) := by
  refine fn_ok F sc_law_refused (fun vs G M R Z h => sp_len3 h) (fun cdv A outer s H E hr => ?_)
  have nd : N_law_refused.Nodup := sc_law_refused.nd
  have hu : _ + 64 < cLine := hr.units
  have tk : Takes (cxOf (L2.CX P w) P w K mg base N_law_refused "_law_refused" (defScope s_law_refused) f cdv A outer s H E) (fun c d _ H => E c d H) := takes_of rfl rfl rfl rfl
  have po : PassesOwn (model P w) _ _ _ := passes_of (X := cxOf (L2.CX P w) P w K mg base N_law_refused "_law_refused" (defScope s_law_refused) f cdv A outer s H E) rfl
  exact ⟨rd_law_refused K, jss_cons (js_set (i := 3) (je_ix (je_lst (ja_cons (je_non) (ja_cons (je_tup (ja_cons (je_str) (ja_cons (je_var 2) (ja_nil)))) (ja_cons (je_tup (ja_cons (je_str) (ja_cons (je_int) (ja_nil)))) (ja_cons (je_tup (ja_cons (je_str) (ja_cons (je_int) (ja_cons (je_op kop_pow (je_int) (je_int)) (ja_nil))))) (ja_cons (je_tup (ja_cons (je_str) (ja_cons (je_bl) (ja_nil)))) (ja_nil))))))) (je_callD D_law_take hr tk (ja_cons (je_var 0) (ja_cons (je_int) (ja_nil))))) nd) (jss_cons (js_set (i := 4) (je_non) nd) (jss_cons (js_try (i := 5) (j := 4) C.g_TouchError C.t_TouchError nd tk (fun W pn xe tk po => by exact jss_cons (js_expr (je_meth (fun p hp => (M_ask p hp).mono (by decide)) hr tk (je_var 1) (ja_cons (je_var 3) (ja_nil)))) (jss_nil))) (jss_cons (js_ret (je_callB (kc_isX (ClsV.own _) C.n_NoAsk C.j_NoAsk) B.isinstance (ja_cons (je_var 4) (ja_cons (je_cls C.g_NoAsk) (ja_nil))))) (jss_nil)))), fun vs G M R Z h => pf_law_refused h⟩
theorem df_law_refused {P : Program} {w : World} {K : PySem.W.Frag} {mg : Str → Option Value} {base : Heap} {f : Addr} {fd : FuncData} (B : Bs mg) (C : Cs K mg) (F : Fun K "_law_refused" "_law_refused" s_law_refused f fd) (b : Binds K fd ["_law_pool_here", "_law_grove", "_law_many_here"] []) (gm : mg "_law_refused" = some (.ref f)) (D_law_take : Def P w K mg base 1 "_law_take" ["_law_pool_here", "_law_many_here"] (S_law_take K)) (M_ask : ∀ p ∈ tabM_ask K, MDef P w K mg base 8 p.1 "ask" p.2) :
    Def P w K mg base 9 "_law_refused" ["_law_pool_here", "_law_grove", "_law_many_here"] (S_law_refused K) := ⟨f, fd, fo_law_refused B C F D_law_take M_ask, gm, F.kp, b⟩
abbrev s_law_nodes : Stmt := topS 63
abbrev N_law_nodes : List Str := ["_law_high", "_law_leaf", "_law_nodes_here"]
theorem sc_law_nodes : FnScope N_law_nodes ["_law_high", "_law_leaf"] (defScope s_law_nodes) := ⟨rfl, rfl, rfl, by decide +kernel, rfl, by decide +kernel, by decide +kernel⟩
theorem fo_law_nodes {P : Program} {w : World} {K : PySem.W.Frag} {mg : Str → Option Value} {base : Heap} {f : Addr} {fd : FuncData} (B : Bs mg) (C : Cs K mg) (F : Fun K "_law_nodes" "_law_nodes" s_law_nodes f fd)  :
    FnOk P w K mg base (L2.CX P w) 1 f fd ["_law_high", "_law_leaf"] (lift (S_law_nodes K)) := by
  refine fn_ok F sc_law_nodes (fun vs G M R Z h => sp_len2 h) (fun cdv A outer s H E hr => ?_)
  have nd : N_law_nodes.Nodup := sc_law_nodes.nd
  have hu : _ + 64 < cLine := hr.units
  have tk : Takes (cxOf (L2.CX P w) P w K mg base N_law_nodes "_law_nodes" (defScope s_law_nodes) f cdv A outer s H E) (fun c d _ H => E c d H) := takes_of rfl rfl rfl rfl
  have po : PassesOwn (model P w) _ _ _ := passes_of (X := cxOf (L2.CX P w) P w K mg base N_law_nodes "_law_nodes" (defScope s_law_nodes) f cdv A outer s H E) rfl
  exact ⟨rd_law_nodes K, jss_cons (js_set (i := 2) (je_lst (ja_cons (je_op kop_add (je_op kop_sub (je_op kop_shl (je_int) (je_var 0)) (je_int)) (je_var 1)) (ja_nil))) nd) (jss_cons (js_while po (jt_cmp (kop_gt) (je_ix (je_var 2) (je_int)) (je_int) (nomark _)) (jss_cons (js_set (i := 2) (je_op kop_add (je_lst (ja_cons (je_op kop_fdiv (je_op kop_sub (je_ix (je_var 2) (je_int)) (je_int)) (je_int)) (ja_nil))) (je_var 2)) nd) (jss_nil))) (jss_cons (js_ret (je_var 2)) (jss_nil))), fun vs G M R Z h => pf_law_nodes h⟩
theorem df_law_nodes {P : Program} {w : World} {K : PySem.W.Frag} {mg : Str → Option Value} {base : Heap} {f : Addr} {fd : FuncData} (B : Bs mg) (C : Cs K mg) (F : Fun K "_law_nodes" "_law_nodes" s_law_nodes f fd) (b : Binds K fd ["_law_high", "_law_leaf"] []) (gm : mg "_law_nodes" = some (.ref f))  :
    Def P w K mg base 1 "_law_nodes" ["_law_high", "_law_leaf"] (S_law_nodes K) := ⟨f, fd, fo_law_nodes B C F , gm, F.kp, b⟩
abbrev s_law_touches : Stmt := topS 66
abbrev N_law_touches : List Str := ["_law_shelf", "_law_high", "_law_leaf", "_law_nodes_here", "_law_touches_here", "_law_node"]
theorem sc_law_touches : FnScope N_law_touches ["_law_shelf", "_law_high", "_law_leaf"] (defScope s_law_touches) := ⟨rfl, rfl, rfl, by decide +kernel, rfl, by decide +kernel, by decide +kernel⟩
theorem fo_law_touches {P : Program} {w : World} {K : PySem.W.Frag} {mg : Str → Option Value} {base : Heap} {f : Addr} {fd : FuncData} (B : Bs mg) (C : Cs K mg) (F : Fun K "_law_touches" "_law_touches" s_law_touches f fd) (D_law_nodes : Def P w K mg base 1 "_law_nodes" ["_law_high", "_law_leaf"] (S_law_nodes K)) :
    FnOk P w K mg base (L2.CX P w) 2 f fd ["_law_shelf", "_law_high", "_law_leaf"] (lift (S_law_touches K)) := by
  refine fn_ok F sc_law_touches (fun vs G M R Z h => sp_len3 h) (fun cdv A outer s H E hr => ?_)
  have nd : N_law_touches.Nodup := sc_law_touches.nd
  have hu : _ + 64 < cLine := hr.units
  have tk : Takes (cxOf (L2.CX P w) P w K mg base N_law_touches "_law_touches" (defScope s_law_touches) f cdv A outer s H E) (fun c d _ H => E c d H) := takes_of rfl rfl rfl rfl
  have po : PassesOwn (model P w) _ _ _ := passes_of (X := cxOf (L2.CX P w) P w K mg base N_law_touches "_law_touches" (defScope s_law_touches) f cdv A outer s H E) rfl
  exact ⟨rd_law_touches K, jss_cons (js_set (i := 3) (je_callD D_law_nodes hr tk (ja_cons (je_var 1) (ja_cons (je_var 2) (ja_nil)))) nd) (jss_cons (js_set (i := 4) (je_lst (ja_nil)) nd) (jss_cons (js_for po rfl (ji_list (je_var 3)) (jg_name (i := 5) nd) (jss_cons (js_expr (je_bm PySem.F.plainAttrs_list PySem.F.slot_list_extend PySem.F.type_list_extend km_extend (je_var 4) (ja_cons (je_lst (ja_cons (je_tup (ja_cons (je_str) (ja_cons (je_var 0) (ja_cons (je_op kop_mul (je_int) (je_var 5)) (ja_nil))))) (ja_cons (je_tup (ja_cons (je_str) (ja_cons (je_var 0) (ja_cons (je_op kop_add (je_op kop_mul (je_int) (je_var 5)) (je_int)) (ja_nil))))) (ja_nil)))) (ja_nil)))) (jss_nil))) (jss_cons (js_for po rfl (ji_rev B.reversed (ja_cons (je_var 3) (ja_nil))) (jg_name (i := 5) nd) (jss_cons (js_expr (je_bm PySem.F.plainAttrs_list PySem.F.slot_list_extend PySem.F.type_list_extend km_extend (je_var 4) (ja_cons (je_lst (ja_cons (je_tup (ja_cons (je_str) (ja_cons (je_var 0) (ja_cons (je_op kop_mul (je_int) (je_var 5)) (ja_nil))))) (ja_cons (je_tup (ja_cons (je_str) (ja_cons (je_var 0) (ja_cons (je_op kop_add (je_op kop_mul (je_int) (je_var 5)) (je_int)) (ja_nil))))) (ja_nil)))) (ja_nil)))) (jss_nil))) (jss_cons (js_ret (je_var 4)) (jss_nil))))), fun vs G M R Z h => pf_law_touches h⟩
theorem df_law_touches {P : Program} {w : World} {K : PySem.W.Frag} {mg : Str → Option Value} {base : Heap} {f : Addr} {fd : FuncData} (B : Bs mg) (C : Cs K mg) (F : Fun K "_law_touches" "_law_touches" s_law_touches f fd) (b : Binds K fd ["_law_shelf", "_law_high", "_law_leaf"] []) (gm : mg "_law_touches" = some (.ref f)) (D_law_nodes : Def P w K mg base 1 "_law_nodes" ["_law_high", "_law_leaf"] (S_law_nodes K)) :
    Def P w K mg base 2 "_law_touches" ["_law_shelf", "_law_high", "_law_leaf"] (S_law_touches K) := ⟨f, fd, fo_law_touches B C F D_law_nodes, gm, F.kp, b⟩
abbrev s_law_go : Stmt := topS 64
abbrev N_law_go : List Str := ["_law_model", "_law_cell", "_law_fresh", "_law_nodes_here", "_law_lies", "_law_other", "_law_node", "_law_hand_here", "_law_fits", "_law_one"]
theorem sc_law_go : FnScope N_law_go ["_law_model", "_law_cell", "_law_fresh"] (defScope s_law_go) := ⟨rfl, rfl, rfl, by decide +kernel, rfl, by decide +kernel, by decide +kernel⟩
theorem fo_law_go {P : Program} {w : World} {K : PySem.W.Frag} {mg : Str → Option Value} {base : Heap} {f : Addr} {fd : FuncData} (B : Bs mg) (C : Cs K mg) (F : Fun K "_law_go" "_law_go" s_law_go f fd) (D_law_nodes : Def P w K mg base 1 "_law_nodes" ["_law_high", "_law_leaf"] (S_law_nodes K)) :
    FnOk P w K mg base (L2.CX P w) 2 f fd ["_law_model", "_law_cell", "_law_fresh"] (lift (S_law_go K)) := by
  refine fn_ok F sc_law_go (fun vs G M R Z h => sp_len3 h) (fun cdv A outer s H E hr => ?_)
  have nd : N_law_go.Nodup := sc_law_go.nd
  have hu : _ + 64 < cLine := hr.units
  have tk : Takes (cxOf (L2.CX P w) P w K mg base N_law_go "_law_go" (defScope s_law_go) f cdv A outer s H E) (fun c d _ H => E c d H) := takes_of rfl rfl rfl rfl
  have po : PassesOwn (model P w) _ _ _ := passes_of (X := cxOf (L2.CX P w) P w K mg base N_law_go "_law_go" (defScope s_law_go) f cdv A outer s H E) rfl
  exact ⟨rd_law_go K, jss_cons (js_set (i := 3) (je_callD D_law_nodes hr tk (ja_cons (je_dget hu (je_var 0) (je_str)) (ja_cons (je_ix (je_dget hu (je_var 0) (je_str)) (je_var 1)) (ja_nil)))) nd) (jss_cons (js_set (i := 4) (je_dget hu (je_var 0) (je_str)) nd) (jss_cons (js_for po rfl (ji_w (ji_list (je_callB kc_sortedD B.sorted (ja_cons (je_var 4) (ja_nil))))) (jg_name (i := 5) nd) (jss_cons (js_if (jt_cmp (kop_in) (je_dget hu (je_var 4) (je_var 5)) (je_var 3) (by with_unfolding_all rfl)) (jss_cons (js_dset hu (je_var 4) (je_var 5) (je_non)) (jss_nil)) (jss_nil)) (jss_nil))) (jss_cons (js_dset hu (je_var 4) (je_var 1) (je_non)) (jss_cons (js_asg (je_var 2) (jg_ix (je_dget hu (je_var 0) (je_str)) (je_var 1))) (jss_cons (js_for po rfl (ji_rev B.reversed (ja_cons (je_var 3) (ja_nil))) (jg_name (i := 6) nd) (jss_cons (js_setComp (own := [("_law_one", 9)]) (i := 7) rfl nd (sw_true rfl rfl rfl (by decide +kernel)) (ji_list (je_callB kc_sortedD B.sorted (ja_cons (je_var 4) (ja_nil)))) (blkOk_by (own := [("_law_one", 9)]) (N := N_law_go) (sc := defScope s_law_go) (by decide +kernel)) (fun _ _ _ _ _ => by exact jg_name (i := 9) nd) (fun _ _ _ _ _ => by exact jts_one (jt_cmp (kop_is2) (je_dget hu (je_var 4) (je_var 9)) (je_non) (nomark _))) (fun _ _ _ _ _ => by exact je_var 9)) (jss_cons (js_setComp (own := [("_law_one", 9)]) (i := 8) rfl nd (sw_true rfl rfl rfl (by decide +kernel)) (ji_list (je_var 7)) (blkOk_by (own := [("_law_one", 9)]) (N := N_law_go) (sc := defScope s_law_go) (by decide +kernel)) (fun _ _ _ _ _ => by exact jg_name (i := 9) nd) (fun _ _ _ _ _ => by exact jts_one (jt_cmp (kop_in) (je_var 6) (je_callD D_law_nodes hr takes0 (ja_cons (je_dget hu (je_var 0) (je_str)) (ja_cons (je_ix (je_dget hu (je_var 0) (je_str)) (je_var 9)) (ja_nil)))) (by with_unfolding_all rfl))) (fun _ _ _ _ _ => by exact je_var 9)) (jss_cons (js_for po rfl (ji_w (ji_list (je_slice (je_var 8) (jo_none) (jo_some (je_int))))) (jg_name (i := 9) nd) (jss_cons (js_dset hu (je_var 4) (je_var 9) (je_var 6)) (jss_nil))) (jss_nil))))) (jss_nil)))))), fun vs G M R Z h => pf_law_go h⟩
theorem df_law_go {P : Program} {w : World} {K : PySem.W.Frag} {mg : Str → Option Value} {base : Heap} {f : Addr} {fd : FuncData} (B : Bs mg) (C : Cs K mg) (F : Fun K "_law_go" "_law_go" s_law_go f fd) (b : Binds K fd ["_law_model", "_law_cell", "_law_fresh"] []) (gm : mg "_law_go" = some (.ref f)) (D_law_nodes : Def P w K mg base 1 "_law_nodes" ["_law_high", "_law_leaf"] (S_law_nodes K)) :
    Def P w K mg base 2 "_law_go" ["_law_model", "_law_cell", "_law_fresh"] (S_law_go K) := ⟨f, fd, fo_law_go B C F D_law_nodes, gm, F.kp, b⟩
abbrev s_Body_cells_in_hand : Stmt := inClass (topS 18) 6
abbrev N_Body_cells_in_hand : List Str := ["self"]
theorem sc_Body_cells_in_hand : FnScope N_Body_cells_in_hand ["self"] (defScope s_Body_cells_in_hand) := ⟨rfl, rfl, rfl, by decide +kernel, rfl, by decide +kernel, by decide +kernel⟩
theorem fo_Body_cells_in_hand {P : Program} {w : World} {K : PySem.W.Frag} {mg : Str → Option Value} {base : Heap} {f : Addr} {fd : FuncData} (B : Bs mg) (C : Cs K mg) (F : Fun K "cells_in_hand" "Body.cells_in_hand" s_Body_cells_in_hand f fd)  :
    FnOk P w K mg base (L2.CX P w) 1 f fd ["self"] (lift (S_Body_cells_in_hand K)) := by
  refine fn_ok F sc_Body_cells_in_hand (fun vs G M R Z h => sp_len1 h) (fun cdv A outer s H E hr => ?_)
  have nd : N_Body_cells_in_hand.Nodup := sc_Body_cells_in_hand.nd
  have hu : _ + 64 < cLine := hr.units
  have tk : Takes (cxOf (L2.CX P w) P w K mg base N_Body_cells_in_hand "Body.cells_in_hand" (defScope s_Body_cells_in_hand) f cdv A outer s H E) (fun c d _ H => E c d H) := takes_of rfl rfl rfl rfl
  have po : PassesOwn (model P w) _ _ _ := passes_of (X := cxOf (L2.CX P w) P w K mg base N_Body_cells_in_hand "Body.cells_in_hand" (defScope s_Body_cells_in_hand) f cdv A outer s H E) rfl
  exact ⟨rd_Body_cells_in_hand K, jss_cons (js_ret (je_callB kc_sortedD B.sorted (ja_cons (je_fld (je_var 0) C.f_hand) (ja_nil)))) (jss_nil), fun vs G M R Z h => pf_Body_cells_in_hand h⟩
abbrev s_Grove_pocket : Stmt := inClass (topS 54) 4
abbrev N_Grove_pocket : List Str := ["self", "body"]
theorem sc_Grove_pocket : FnScope N_Grove_pocket ["self"] (defScope s_Grove_pocket) := ⟨rfl, rfl, rfl, by decide +kernel, rfl, by decide +kernel, by decide +kernel⟩
theorem fo_Grove_pocket {P : Program} {w : World} {K : PySem.W.Frag} {mg : Str → Option Value} {base : Heap} {f : Addr} {fd : FuncData} (B : Bs mg) (C : Cs K mg) (F : Fun K "pocket" "Grove.pocket" s_Grove_pocket f fd) (M_cells_in_hand : ∀ p ∈ tabM_cells_in_hand K, MDef P w K mg base 1 p.1 "cells_in_hand" p.2) :
    FnOk P w K mg base (L2.CX P w) 2 f fd ["self"] (lift (S_Grove_pocket K)) := by
  refine fn_ok F sc_Grove_pocket (fun vs G M R Z h => sp_len1 h) (fun cdv A outer s H E hr => ?_)
  have nd : N_Grove_pocket.Nodup := sc_Grove_pocket.nd
  have hu : _ + 64 < cLine := hr.units
  have tk : Takes (cxOf (L2.CX P w) P w K mg base N_Grove_pocket "Grove.pocket" (defScope s_Grove_pocket) f cdv A outer s H E) (fun c d _ H => E c d H) := takes_of rfl rfl rfl rfl
  have po : PassesOwn (model P w) _ _ _ := passes_of (X := cxOf (L2.CX P w) P w K mg base N_Grove_pocket "Grove.pocket" (defScope s_Grove_pocket) f cdv A outer s H E) rfl
  exact ⟨rd_Grove_pocket K, jss_cons (js_ret (je_comp (own := [("body", 1)]) rfl nd (ji_list (je_fld (je_var 0) C.f_bodies)) (blkOk_by (own := [("body", 1)]) (N := N_Grove_pocket) (sc := defScope s_Grove_pocket) (by decide +kernel)) (fun _ _ _ _ _ => by exact jg_name (i := 1) nd) (fun _ _ _ _ _ => by exact jts_nil) (fun _ _ _ _ _ => by exact je_meth0 (fun p hp => (M_cells_in_hand p hp).mono (by decide)) hr takes0 (je_var 1)))) (jss_nil), fun vs G M R Z h => pf_Grove_pocket h⟩
abbrev s_law_hand : Stmt := topS 65
abbrev N_law_hand : List Str := ["_law_model", "_law_one"]
theorem sc_law_hand : FnScope N_law_hand ["_law_model"] (defScope s_law_hand) := ⟨rfl, rfl, rfl, by decide +kernel, rfl, by decide +kernel, by decide +kernel⟩
theorem fo_law_hand {P : Program} {w : World} {K : PySem.W.Frag} {mg : Str → Option Value} {base : Heap} {f : Addr} {fd : FuncData} (B : Bs mg) (C : Cs K mg) (F : Fun K "_law_hand" "_law_hand" s_law_hand f fd)  :
    FnOk P w K mg base (L2.CX P w) 1 f fd ["_law_model"] (lift (S_law_hand K)) := by
  refine fn_ok F sc_law_hand (fun vs G M R Z h => sp_len1 h) (fun cdv A outer s H E hr => ?_)
  have nd : N_law_hand.Nodup := sc_law_hand.nd
  have hu : _ + 64 < cLine := hr.units
  have tk : Takes (cxOf (L2.CX P w) P w K mg base N_law_hand "_law_hand" (defScope s_law_hand) f cdv A outer s H E) (fun c d _ H => E c d H) := takes_of rfl rfl rfl rfl
  have po : PassesOwn (model P w) _ _ _ := passes_of (X := cxOf (L2.CX P w) P w K mg base N_law_hand "_law_hand" (defScope s_law_hand) f cdv A outer s H E) rfl
  exact ⟨rd_law_hand K, jss_cons (js_ret (je_comp (own := [("_law_one", 1)]) rfl nd (ji_list (je_callB kc_sortedD B.sorted (ja_cons (je_dget hu (je_var 0) (je_str)) (ja_nil)))) (blkOk_by (own := [("_law_one", 1)]) (N := N_law_hand) (sc := defScope s_law_hand) (by decide +kernel)) (fun _ _ _ _ _ => by exact jg_name (i := 1) nd) (fun _ _ _ _ _ => by exact jts_one (jt_cmp (kop_is2) (je_dget hu (je_dget hu (je_var 0) (je_str)) (je_var 1)) (je_non) (nomark _))) (fun _ _ _ _ _ => by exact je_var 1))) (jss_nil), fun vs G M R Z h => pf_law_hand h⟩
theorem df_law_hand {P : Program} {w : World} {K : PySem.W.Frag} {mg : Str → Option Value} {base : Heap} {f : Addr} {fd : FuncData} (B : Bs mg) (C : Cs K mg) (F : Fun K "_law_hand" "_law_hand" s_law_hand f fd) (b : Binds K fd ["_law_model"] []) (gm : mg "_law_hand" = some (.ref f))  :
    Def P w K mg base 1 "_law_hand" ["_law_model"] (S_law_hand K) := ⟨f, fd, fo_law_hand B C F , gm, F.kp, b⟩
abbrev s_law_whole : Stmt := topS 58
abbrev N_law_whole : List Str := ["_law_found"]
theorem sc_law_whole : FnScope N_law_whole ["_law_found"] (defScope s_law_whole) := ⟨rfl, rfl, rfl, by decide +kernel, rfl, by decide +kernel, by decide +kernel⟩
theorem fo_law_whole {P : Program} {w : World} {K : PySem.W.Frag} {mg : Str → Option Value} {base : Heap} {f : Addr} {fd : FuncData} (B : Bs mg) (C : Cs K mg) (F : Fun K "_law_whole" "_law_whole" s_law_whole f fd)  :
    FnOk P w K mg base (L2.CX P w) 1 f fd ["_law_found"] (lift (S_law_whole K)) := by
  refine fn_ok F sc_law_whole (fun vs G M R Z h => sp_len1 h) (fun cdv A outer s H E hr => ?_)
  have nd : N_law_whole.Nodup := sc_law_whole.nd
  have hu : _ + 64 < cLine := hr.units
  have tk : Takes (cxOf (L2.CX P w) P w K mg base N_law_whole "_law_whole" (defScope s_law_whole) f cdv A outer s H E) (fun c d _ H => E c d H) := takes_of rfl rfl rfl rfl
  have po : PassesOwn (model P w) _ _ _ := passes_of (X := cxOf (L2.CX P w) P w K mg base N_law_whole "_law_whole" (defScope s_law_whole) f cdv A outer s H E) rfl
  exact ⟨rd_law_whole K, jss_cons (js_ret (je_and (je_callB kc_isi B.isinstance (ja_cons (je_var 0) (ja_cons (je_ty B.int) (ja_nil)))) (je_one (je_not (je_callB kc_isi B.isinstance (ja_cons (je_var 0) (ja_cons (je_ty B.bool) (ja_nil)))))))) (jss_nil), fun vs G M R Z h => pf_law_whole h⟩
theorem df_law_whole {P : Program} {w : World} {K : PySem.W.Frag} {mg : Str → Option Value} {base : Heap} {f : Addr} {fd : FuncData} (B : Bs mg) (C : Cs K mg) (F : Fun K "_law_whole" "_law_whole" s_law_whole f fd) (b : Binds K fd ["_law_found"] []) (gm : mg "_law_whole" = some (.ref f))  :
    Def P w K mg base 1 "_law_whole" ["_law_found"] (S_law_whole K) := ⟨f, fd, fo_law_whole B C F , gm, F.kp, b⟩
abbrev s_law_pockets_right : Stmt := topS 69
abbrev N_law_pockets_right : List Str := ["_law_grove", "_law_models_here", "_law_found", "_law_model", "_law_pocket", "_law_one"]
theorem sc_law_pockets_right : FnScope N_law_pockets_right ["_law_grove", "_law_models_here"] (defScope s_law_pockets_right) := ⟨rfl, rfl, rfl, by decide +kernel, rfl, by decide +kernel, by decide +kernel⟩
theorem fo_law_pockets_right {P : Program} {w : World} {K : PySem.W.Frag} {mg : Str → Option Value} {base : Heap} {f : Addr} {fd : FuncData} (B : Bs mg) (C : Cs K mg) (F : Fun K "_law_pockets_right" "_law_pockets_right" s_law_pockets_right f fd) (D_law_hand : Def P w K mg base 1 "_law_hand" ["_law_model"] (S_law_hand K)) (D_law_whole : Def P w K mg base 1 "_law_whole" ["_law_found"] (S_law_whole K)) (M_pocket : ∀ p ∈ tabM_pocket K, MDef P w K mg base 2 p.1 "pocket" p.2) :
    FnOk P w K mg base (L2.CX P w) 3 f fd ["_law_grove", "_law_models_here"] (lift (S_law_pockets_right K)) := by
  refine fn_ok F sc_law_pockets_right (fun vs G M R Z h => sp_len2 h) (fun cdv A outer s H E hr => ?_)
  have nd : N_law_pockets_right.Nodup := sc_law_pockets_right.nd
  have hu : _ + 64 < cLine := hr.units
  have tk : Takes (cxOf (L2.CX P w) P w K mg base N_law_pockets_right "_law_pockets_right" (defScope s_law_pockets_right) f cdv A outer s H E) (fun c d _ H => E c d H) := takes_of rfl rfl rfl rfl
  have po : PassesOwn (model P w) _ _ _ := passes_of (X := cxOf (L2.CX P w) P w K mg base N_law_pockets_right "_law_pockets_right" (defScope s_law_pockets_right) f cdv A outer s H E) rfl
  exact ⟨rd_law_pockets_right K, jss_cons (js_set (i := 2) (je_meth0 (fun p hp => (M_pocket p hp).mono (by decide)) hr tk (je_var 0)) nd) (jss_cons (js_if ((jw_or (jt_not (jt_val (je_callB kc_isi B.isinstance (ja_cons (je_var 2) (ja_cons (je_ty B.list) (ja_nil)))))) (jw_or1 (jt_cmp (kop_ne hu) (je_var 2) (je_comp (own := [("_law_model", 3)]) rfl nd (ji_list (je_var 1)) (blkOk_by (own := [("_law_model", 3)]) (N := N_law_pockets_right) (sc := defScope s_law_pockets_right) (by decide +kernel)) (fun _ _ _ _ _ => by exact jg_name (i := 3) nd) (fun _ _ _ _ _ => by exact jts_nil) (fun _ _ _ _ _ => by exact je_callD D_law_hand hr takes0 (ja_cons (je_var 3) (ja_nil)))) (nomark _)))).jt) (jss_cons (js_ret (je_bl)) (jss_nil)) (jss_nil)) (jss_cons (js_for po rfl (ji_list (je_var 2)) (jg_name (i := 4) nd) (jss_cons (js_if ((jw_or (jt_not (jt_val (je_callB kc_isi B.isinstance (ja_cons (je_var 4) (ja_cons (je_ty B.list) (ja_nil)))))) (jw_or1 (jt_cmp (kop_ne hu) (je_comp (own := [("_law_one", 5)]) rfl nd (ji_list (je_var 4)) (blkOk_by (own := [("_law_one", 5)]) (N := N_law_pockets_right) (sc := defScope s_law_pockets_right) (by decide +kernel)) (fun _ _ _ _ _ => by exact jg_name (i := 5) nd) (fun _ _ _ _ _ => by exact jts_one (jt_not (jt_val (je_callD D_law_whole hr takes0 (ja_cons (je_var 5) (ja_nil)))))) (fun _ _ _ _ _ => by exact je_var 5)) (je_lst (ja_nil)) (nomark _)))).jt) (jss_cons (js_ret (je_bl)) (jss_nil)) (jss_nil)) (jss_cons (js_expr (je_bm PySem.F.plainAttrs_list PySem.F.slot_list_append PySem.F.type_list_append km_append (je_var 4) (ja_cons (je_int) (ja_nil)))) (jss_nil)))) (jss_cons (js_expr (je_bm PySem.F.plainAttrs_list PySem.F.slot_list_append PySem.F.type_list_append km_append (je_var 2) (ja_cons (je_lst (ja_nil)) (ja_nil)))) (jss_cons (js_ret (je_cmp (kop_eq hu) (je_meth0 (fun p hp => (M_pocket p hp).mono (by decide)) hr tk (je_var 0)) (je_comp (own := [("_law_model", 3)]) rfl nd (ji_list (je_var 1)) (blkOk_by (own := [("_law_model", 3)]) (N := N_law_pockets_right) (sc := defScope s_law_pockets_right) (by decide +kernel)) (fun _ _ _ _ _ => by exact jg_name (i := 3) nd) (fun _ _ _ _ _ => by exact jts_nil) (fun _ _ _ _ _ => by exact je_callD D_law_hand hr takes0 (ja_cons (je_var 3) (ja_nil)))) (nomark _))) (jss_nil))))), fun vs G M R Z h => pf_law_pockets_right h⟩
theorem df_law_pockets_right {P : Program} {w : World} {K : PySem.W.Frag} {mg : Str → Option Value} {base : Heap} {f : Addr} {fd : FuncData} (B : Bs mg) (C : Cs K mg) (F : Fun K "_law_pockets_right" "_law_pockets_right" s_law_pockets_right f fd) (b : Binds K fd ["_law_grove", "_law_models_here"] []) (gm : mg "_law_pockets_right" = some (.ref f)) (D_law_hand : Def P w K mg base 1 "_law_hand" ["_law_model"] (S_law_hand K)) (D_law_whole : Def P w K mg base 1 "_law_whole" ["_law_found"] (S_law_whole K)) (M_pocket : ∀ p ∈ tabM_pocket K, MDef P w K mg base 2 p.1 "pocket" p.2) :
    Def P w K mg base 3 "_law_pockets_right" ["_law_grove", "_law_models_here"] (S_law_pockets_right K) := ⟨f, fd, fo_law_pockets_right B C F D_law_hand D_law_whole M_pocket, gm, F.kp, b⟩
abbrev s_Keeper_seen : Stmt := inClass (topS 12) 2
abbrev N_Keeper_seen : List Str := ["self"]
theorem sc_Keeper_seen : FnScope N_Keeper_seen ["self"] (defScope s_Keeper_seen) := ⟨rfl, rfl, rfl, by decide +kernel, rfl, by decide +kernel, by decide +kernel⟩
theorem fo_Keeper_seen {P : Program} {w : World} {K : PySem.W.Frag} {mg : Str → Option Value} {base : Heap} {f : Addr} {fd : FuncData} (B : Bs mg) (C : Cs K mg) (F : Fun K "seen" "Keeper.seen" s_Keeper_seen f fd)  :
    FnOk P w K mg base (L2.CX P w) 1 f fd ["self"] (lift (S_Keeper_seen K)) := by
  refine fn_ok F sc_Keeper_seen (fun vs G M R Z h => sp_len1 h) (fun cdv A outer s H E hr => ?_)
  have nd : N_Keeper_seen.Nodup := sc_Keeper_seen.nd
  have hu : _ + 64 < cLine := hr.units
  have tk : Takes (cxOf (L2.CX P w) P w K mg base N_Keeper_seen "Keeper.seen" (defScope s_Keeper_seen) f cdv A outer s H E) (fun c d _ H => E c d H) := takes_of rfl rfl rfl rfl
  have po : PassesOwn (model P w) _ _ _ := passes_of (X := cxOf (L2.CX P w) P w K mg base N_Keeper_seen "Keeper.seen" (defScope s_Keeper_seen) f cdv A outer s H E) rfl
  exact ⟨rd_Keeper_seen K, jss_cons (js_ret (je_callTy kc_list B.list (ja_cons (je_fld (je_var 0) C.f_log) (ja_nil)))) (jss_nil), fun vs G M R Z h => pf_Keeper_seen h⟩
abbrev s_Store_touches : Stmt := inClass (topS 48) 5
abbrev N_Store_touches : List Str := ["self"]
theorem sc_Store_touches : FnScope N_Store_touches ["self"] (defScope s_Store_touches) := ⟨rfl, rfl, rfl, by decide +kernel, rfl, by decide +kernel, by decide +kernel⟩
theorem fo_Store_touches {P : Program} {w : World} {K : PySem.W.Frag} {mg : Str → Option Value} {base : Heap} {f : Addr} {fd : FuncData} (B : Bs mg) (C : Cs K mg) (F : Fun K "touches" "Store.touches" s_Store_touches f fd) (M_seen : ∀ p ∈ tabM_seen K, MDef P w K mg base 1 p.1 "seen" p.2) :
    FnOk P w K mg base (L2.CX P w) 2 f fd ["self"] (lift (S_Store_touches K)) := by
  refine fn_ok F sc_Store_touches (fun vs G M R Z h => sp_len1 h) (fun cdv A outer s H E hr => ?_)
  have nd : N_Store_touches.Nodup := sc_Store_touches.nd
  have hu : _ + 64 < cLine := hr.units
  have tk : Takes (cxOf (L2.CX P w) P w K mg base N_Store_touches "Store.touches" (defScope s_Store_touches) f cdv A outer s H E) (fun c d _ H => E c d H) := takes_of rfl rfl rfl rfl
  have po : PassesOwn (model P w) _ _ _ := passes_of (X := cxOf (L2.CX P w) P w K mg base N_Store_touches "Store.touches" (defScope s_Store_touches) f cdv A outer s H E) rfl
  exact ⟨rd_Store_touches K, jss_cons (js_ret (je_meth0 (fun p hp => (M_seen p hp).mono (by decide)) hr tk (je_fld (je_var 0) C.f_keeper))) (jss_nil), fun vs G M R Z h => pf_Store_touches h⟩
abbrev s_law : Stmt := topS 70
abbrev N_law : List Str := ["_law_script", "_law_pool_here", "_law_many_here", "_law_most", "_law_crowd", "_law_models_here", "_law_draws", "_law_model", "_law_fresh", "_law_k", "_law_grove", "_law_due", "_law_deed", "_law_at", "_law_cell"]
theorem sc_law : FnScope N_law ["_law_script"] (defScope s_law) := ⟨rfl, rfl, rfl, by decide +kernel, rfl, by decide +kernel, by decide +kernel⟩
theorem fo_law {P : Program} {w : World} {K : PySem.W.Frag} {mg : Str → Option Value} {base : Heap} {f : Addr} {fd : FuncData} (B : Bs mg) (C : Cs K mg) (F : Fun K "law" "law" s_law f fd) (D_law_pool : Def P w K mg base 1 "_law_pool" ["_law_script", "_law_k"] (S_law_pool K)) (D_law_many : Def P w K mg base 2 "_law_many" ["_law_pool_here"] (S_law_many K)) (D_law_take : Def P w K mg base 1 "_law_take" ["_law_pool_here", "_law_many_here"] (S_law_take K)) (D_law_models : Def P w K mg base 2 "_law_models" ["_law_pool_here", "_law_many_here", "_law_crowd"] (S_law_models K)) (D_law_ask : Def P w K mg base 3 "_law_ask" ["_law_pool_here", "_law_many_here"] (S_law_ask K)) (D_law_refused : Def P w K mg base 9 "_law_refused" ["_law_pool_here", "_law_grove", "_law_many_here"] (S_law_refused K)) (D_law_touches : Def P w K mg base 2 "_law_touches" ["_law_shelf", "_law_high", "_law_leaf"] (S_law_touches K)) (D_law_go : Def P w K mg base 2 "_law_go" ["_law_model", "_law_cell", "_law_fresh"] (S_law_go K)) (D_law_pockets_right : Def P w K mg base 3 "_law_pockets_right" ["_law_grove", "_law_models_here"] (S_law_pockets_right K)) (N_Grove : CDef P w K mg base 7 7 "Grove" (S_Grove_init K)) (M_ask : ∀ p ∈ tabM_ask K, MDef P w K mg base 8 p.1 "ask" p.2) (M_touches : ∀ p ∈ tabM_touches K, MDef P w K mg base 2 p.1 "touches" p.2) :
    FnOk P w K mg base (L2.CX P w) 10 f fd ["_law_script"] (lift (S_law K)) := by
  refine fn_ok F sc_law (fun vs G M R Z h => sp_len1 h) (fun cdv A outer s H E hr => ?_)
  have nd : N_law.Nodup := sc_law.nd
  have hu : _ + 64 < cLine := hr.units
  have tk : Takes (cxOf (L2.CX P w) P w K mg base N_law "law" (defScope s_law) f cdv A outer s H E) (fun c d _ H => E c d H) := takes_of rfl rfl rfl rfl
  have po : PassesOwn (model P w) _ _ _ := passes_of (X := cxOf (L2.CX P w) P w K mg base N_law "law" (defScope s_law) f cdv A outer s H E) rfl
  exact ⟨rd_law K, jss_cons (js_set (i := 1) (je_callD D_law_pool hr tk (ja_cons (je_var 0) (ja_cons (je_int) (ja_nil)))) nd) (jss_cons (js_set (i := 2) (je_callD D_law_many hr tk (ja_cons (je_var 1) (ja_nil))) nd) (jss_cons (js_set (i := 3) (je_callB kc_min2 B.min (ja_cons (je_callB kc_max2 B.max (ja_cons (je_int) (ja_cons (je_op kop_sub (je_callB kc_len B.len (ja_cons (je_var 0) (ja_nil))) (je_int)) (ja_nil)))) (ja_cons (je_int) (ja_nil)))) nd) (jss_cons (js_set (i := 4) (je_ix (je_lst (ja_cons (je_int) (ja_cons (je_int) (ja_cons (je_int) (ja_nil))))) (je_callD D_law_take hr tk (ja_cons (je_var 1) (ja_cons (je_int) (ja_nil))))) nd) (jss_cons (js_set (i := 5) (je_callD D_law_models hr tk (ja_cons (je_var 1) (ja_cons (je_var 2) (ja_cons (je_var 4) (ja_nil))))) nd) (jss_cons (js_set (i := 6) (je_lst (ja_nil)) nd) (jss_cons (js_for po rfl (ji_list (je_var 5)) (jg_name (i := 7) nd) (jss_cons (js_set (i := 6) (je_op kop_add (je_var 6) (je_dget hu (je_var 7) (je_str))) nd) (jss_nil))) (jss_cons (js_set (i := 8) (je_lst (ja_nil)) nd) (jss_cons (js_for po rfl (ji_range1 B.range (ja_cons (je_var 3) (ja_nil))) (jg_name (i := 9) nd) (jss_cons (js_expr (je_bm PySem.F.plainAttrs_list PySem.F.slot_list_append PySem.F.type_list_append km_append (je_var 8) (ja_cons (je_comp (own := [("_law_model", 7)]) rfl nd (ji_list (je_var 5)) (blkOk_by (own := [("_law_model", 7)]) (N := N_law) (sc := defScope s_law) (by decide +kernel)) (fun _ _ _ _ _ => by exact jg_name (i := 7) nd) (fun _ _ _ _ _ => by exact jts_nil) (fun _ _ _ _ _ => by exact je_op kop_mod (je_callD D_law_take hr takes0 (ja_cons (je_var 1) (ja_cons (je_op kop_shl (je_int) (je_dget hu (je_var 7) (je_str))) (ja_nil)))) (je_var 4))) (ja_nil)))) (jss_cons (js_set (i := 6) (je_op kop_add (je_var 6) (je_ix (je_var 8) (je_var 9))) nd) (jss_nil)))) (jss_cons (js_set (i := 10) (je_make N_Grove C.h_Grove hr tk (ja_cons (je_var 2) (ja_cons (je_var 3) (ja_cons (je_var 6) (ja_nil))))) nd) (jss_cons (js_set (i := 11) (je_lst (ja_nil)) nd) (jss_cons (js_for po rfl (ji_range1 B.range (ja_cons (je_var 3) (ja_nil))) (jg_name (i := 9) nd) (jss_cons (js_set (i := 1) (je_callD D_law_pool hr tk (ja_cons (je_var 0) (ja_cons (je_op kop_add (je_int) (je_var 9)) (ja_nil)))) nd) (jss_cons (js_set (i := 12) (je_callD D_law_ask hr tk (ja_cons (je_var 1) (ja_cons (je_var 2) (ja_nil)))) nd) (jss_cons (js_if ((jw_and (jt_cmp (kop_eq hu) (je_callD D_law_take hr tk (ja_cons (je_var 1) (ja_cons (je_int) (ja_nil)))) (je_int) (nomark _)) (jw_and1 (jt_not (jt_val (je_callD D_law_refused hr tk (ja_cons (je_var 1) (ja_cons (je_var 10) (ja_cons (je_var 2) (ja_nil))))))))).jt) (jss_cons (js_ret (je_bl)) (jss_nil)) (jss_nil)) (jss_cons (js_for po rfl (ji_rv1 B.reversed B.range (je_callB kc_len B.len (ja_cons (je_var 5) (ja_nil)))) (jg_name (i := 13) nd) (jss_cons (js_set (i := 14) (je_op kop_fdiv (je_ix (je_var 12) (je_int)) (je_ix (je_lst (ja_cons (je_int) (ja_cons (je_int) (ja_cons (je_int) (ja_nil))))) (je_var 13))) nd) (jss_cons (js_expr (je_bm PySem.F.plainAttrs_list PySem.F.slot_list_extend PySem.F.type_list_extend km_extend (je_var 11) (ja_cons (je_callD D_law_touches hr tk (ja_cons (je_var 13) (ja_cons (je_dget hu (je_ix (je_var 5) (je_var 13)) (je_str)) (ja_cons (je_ix (je_dget hu (je_ix (je_var 5) (je_var 13)) (je_str)) (je_var 14)) (ja_nil))))) (ja_nil)))) (jss_cons (js_expr (je_callD D_law_go hr tk (ja_cons (je_ix (je_var 5) (je_var 13)) (ja_cons (je_var 14) (ja_cons (je_ix (je_ix (je_var 8) (je_var 9)) (je_var 13)) (ja_nil)))))) (jss_nil))))) (jss_cons (js_expr (je_meth (fun p hp => (M_ask p hp).mono (by decide)) hr tk (je_var 10) (ja_cons (je_var 12) (ja_nil)))) (jss_cons (js_if ((jw_or (jt_not (jt_val (je_callD D_law_pockets_right hr tk (ja_cons (je_var 10) (ja_cons (je_var 5) (ja_nil)))))) (jw_or1 (jt_cmp (kop_ne hu) (je_meth0 (fun p hp => (M_touches p hp).mono (by decide)) hr tk (je_var 10)) (je_var 11) (nomark _)))).jt) (jss_cons (js_ret (je_bl)) (jss_nil)) (jss_nil)) (jss_nil)))))))) (jss_cons (js_ret (je_and (je_callD D_law_pockets_right hr tk (ja_cons (je_var 10) (ja_cons (je_var 5) (ja_nil)))) (je_one (je_cmp (kop_eq hu) (je_meth0 (fun p hp => (M_touches p hp).mono (by decide)) hr tk (je_var 10)) (je_var 11) (nomark _))))) (jss_nil))))))))))))), fun vs G M R Z h => pf_law h⟩
theorem df_law {P : Program} {w : World} {K : PySem.W.Frag} {mg : Str → Option Value} {base : Heap} {f : Addr} {fd : FuncData} (B : Bs mg) (C : Cs K mg) (F : Fun K "law" "law" s_law f fd) (b : Binds K fd ["_law_script"] []) (gm : mg "law" = some (.ref f)) (D_law_pool : Def P w K mg base 1 "_law_pool" ["_law_script", "_law_k"] (S_law_pool K)) (D_law_many : Def P w K mg base 2 "_law_many" ["_law_pool_here"] (S_law_many K)) (D_law_take : Def P w K mg base 1 "_law_take" ["_law_pool_here", "_law_many_here"] (S_law_take K)) (D_law_models : Def P w K mg base 2 "_law_models" ["_law_pool_here", "_law_many_here", "_law_crowd"] (S_law_models K)) (D_law_ask : Def P w K mg base 3 "_law_ask" ["_law_pool_here", "_law_many_here"] (S_law_ask K)) (D_law_refused : Def P w K mg base 9 "_law_refused" ["_law_pool_here", "_law_grove", "_law_many_here"] (S_law_refused K)) (D_law_touches : Def P w K mg base 2 "_law_touches" ["_law_shelf", "_law_high", "_law_leaf"] (S_law_touches K)) (D_law_go : Def P w K mg base 2 "_law_go" ["_law_model", "_law_cell", "_law_fresh"] (S_law_go K)) (D_law_pockets_right : Def P w K mg base 3 "_law_pockets_right" ["_law_grove", "_law_models_here"] (S_law_pockets_right K)) (N_Grove : CDef P w K mg base 7 7 "Grove" (S_Grove_init K)) (M_ask : ∀ p ∈ tabM_ask K, MDef P w K mg base 8 p.1 "ask" p.2) (M_touches : ∀ p ∈ tabM_touches K, MDef P w K mg base 2 p.1 "touches" p.2) :
    Def P w K mg base 10 "law" ["_law_script"] (S_law K) := ⟨f, fd, fo_law B C F D_law_pool D_law_many D_law_take D_law_models D_law_ask D_law_refused D_law_touches D_law_go D_law_pockets_right N_Grove M_ask M_touches, gm, F.kp, b⟩
theorem len_0 {α : Type} {P : List α → Prop} (h : P []) : ∀ us : List α, us.length = 0 → P us := fun us hl => match us, hl with
  | [], _ => h
theorem len_1 {α : Type} {P : List α → Prop} (h : ∀ a0, P [a0]) : ∀ us : List α, us.length = 1 → P us := fun us hl => match us, hl with
  | [a0], _ => h a0
theorem len_2 {α : Type} {P : List α → Prop} (h : ∀ a0 a1, P [a0, a1]) : ∀ us : List α, us.length = 2 → P us := fun us hl => match us, hl with
  | [a0, a1], _ => h a0 a1
theorem len_3 {α : Type} {P : List α → Prop} (h : ∀ a0 a1 a2, P [a0, a1, a2]) : ∀ us : List α, us.length = 3 → P us := fun us hl => match us, hl with
  | [a0, a1, a2], _ => h a0 a1 a2
theorem len_4 {α : Type} {P : List α → Prop} (h : ∀ a0 a1 a2 a3, P [a0, a1, a2, a3]) : ∀ us : List α, us.length = 4 → P us := fun us hl => match us, hl with
  | [a0, a1, a2, a3], _ => h a0 a1 a2 a3
theorem len_5 {α : Type} {P : List α → Prop} (h : ∀ a0 a1 a2 a3 a4, P [a0, a1, a2, a3, a4]) : ∀ us : List α, us.length = 5 → P us := fun us hl => match us, hl with
  | [a0, a1, a2, a3, a4], _ => h a0 a1 a2 a3 a4
theorem len_6 {α : Type} {P : List α → Prop} (h : ∀ a0 a1 a2 a3 a4 a5, P [a0, a1, a2, a3, a4, a5]) : ∀ us : List α, us.length = 6 → P us := fun us hl => match us, hl with
  | [a0, a1, a2, a3, a4, a5], _ => h a0 a1 a2 a3 a4 a5
theorem len_7 {α : Type} {P : List α → Prop} (h : ∀ a0 a1 a2 a3 a4 a5 a6, P [a0, a1, a2, a3, a4, a5, a6]) : ∀ us : List α, us.length = 7 → P us := fun us hl => match us, hl with
  | [a0, a1, a2, a3, a4, a5, a6], _ => h a0 a1 a2 a3 a4 a5 a6
theorem fa_nil {α : Type} {P : α → Prop} : ∀ x ∈ ([] : List α), P x := fun _ z => nomatch z
theorem all_mk {l : PySem.W.OpenLaw} {w : World} {K : PySem.W.Frag} {h : Heap} {mg : Str → Option Value} {fa f0 f1 f2 f3 f4 f5 f6 f7 f8 f9 f10 f11 f12 f13 f14 f15 f16 f17 f18 f19 f20 f21 f22 f23 f24 f25 f26 f27 f28 f29 f30 f31 f32 f33 f34 f35 f36 f37 f38 f39 f40 f41 f42 f43 f44 f45 f46 f47 f48 f49 f50 f51 f52 f53 f54 f55 f56 f57 f58 f59 f60 f61 f62 f63 f64 : Addr} (X : K.In h) (G : h.Ns mainGlobals mg) (hfa : mg "law" = some (.ref fa))
    {od0 an0 od1 an1 od2 an2 od3 an3 od4 an4 od5 an5 od6 an6 od7 an7 od8 an8 od9 an9 od10 an10 od11 an11 od12 an12 od13 an13 od14 an14 od15 an15 od16 an16 od17 an17 od18 an18 od19 an19 od20 an20 od21 an21 od22 an22 od23 an23 od24 an24 od25 an25 od26 an26 od27 an27 od28 an28 od29 an29 od30 an30 od31 an31 od32 an32 od33 an33 od34 an34 od35 an35 od36 an36 od37 an37 od38 an38 od39 an39 od40 an40 od41 an41 od42 an42 od43 an43 od44 an44 od45 an45 od46 an46 od47 an47 od48 an48 od49 an49 od50 an50 od51 an51 od52 an52 od53 an53 od54 an54 od55 an55 od56 an56 od57 an57 od58 an58 od59 an59 od60 an60 od61 an61 od62 an62 od63 an63 od64 an64 : Option Addr} {sl0 sl1 sl2 sl3 sl4 sl5 sl6 sl7 sl8 sl9 sl10 sl11 sl12 sl13 sl14 sl15 sl16 sl17 sl18 sl19 sl20 sl21 sl22 sl23 sl24 sl25 sl26 sl27 sl28 sl29 sl30 sl31 sl32 sl33 sl34 sl35 sl36 sl37 sl38 sl39 sl40 sl41 sl42 sl43 sl44 sl45 sl46 sl47 sl48 sl49 sl50 sl51 sl52 sl53 sl54 sl55 sl56 sl57 sl58 sl59 sl60 sl61 sl62 sl63 sl64 : Array (Option Value)} {oc0 kV0 dc0 pm0 cd0 ct0 oc1 kV1 dc1 pm1 cd1 ct1 oc2 kV2 dc2 pm2 cd2 ct2 oc3 kV3 dc3 pm3 cd3 ct3 oc4 kV4 dc4 pm4 cd4 ct4 oc5 kV5 dc5 pm5 cd5 ct5 oc6 kV6 dc6 pm6 cd6 ct6 oc7 kV7 dc7 pm7 cd7 ct7 oc8 kV8 dc8 pm8 cd8 ct8 oc9 kV9 dc9 pm9 cd9 ct9 oc10 kV10 dc10 pm10 cd10 ct10 oc11 kV11 dc11 pm11 cd11 ct11 oc12 kV12 dc12 pm12 cd12 ct12 oc13 kV13 dc13 pm13 cd13 ct13 oc14 kV14 dc14 pm14 cd14 ct14 oc15 kV15 dc15 pm15 cd15 ct15 oc16 kV16 dc16 pm16 cd16 ct16 oc17 kV17 dc17 pm17 cd17 ct17 oc18 kV18 dc18 pm18 cd18 ct18 oc19 kV19 dc19 pm19 cd19 ct19 oc20 kV20 dc20 pm20 cd20 ct20 oc21 kV21 dc21 pm21 cd21 ct21 oc22 kV22 dc22 pm22 cd22 ct22 oc23 kV23 dc23 pm23 cd23 ct23 oc24 kV24 dc24 pm24 cd24 ct24 oc25 kV25 dc25 pm25 cd25 ct25 oc26 kV26 dc26 pm26 cd26 ct26 oc27 kV27 dc27 pm27 cd27 ct27 oc28 kV28 dc28 pm28 cd28 ct28 oc29 kV29 dc29 pm29 cd29 ct29 oc30 kV30 dc30 pm30 cd30 ct30 oc31 kV31 dc31 pm31 cd31 ct31 oc32 kV32 dc32 pm32 cd32 ct32 oc33 kV33 dc33 pm33 cd33 ct33 oc34 kV34 dc34 pm34 cd34 ct34 oc35 kV35 dc35 pm35 cd35 ct35 oc36 kV36 dc36 pm36 cd36 ct36 oc37 kV37 dc37 pm37 cd37 ct37 oc38 kV38 dc38 pm38 cd38 ct38 oc39 kV39 dc39 pm39 cd39 ct39 oc40 kV40 dc40 pm40 cd40 ct40 oc41 kV41 dc41 pm41 cd41 ct41 oc42 kV42 dc42 pm42 cd42 ct42 oc43 kV43 dc43 pm43 cd43 ct43 oc44 kV44 dc44 pm44 cd44 ct44 oc45 kV45 dc45 pm45 cd45 ct45 oc46 kV46 dc46 pm46 cd46 ct46 oc47 kV47 dc47 pm47 cd47 ct47 oc48 kV48 dc48 pm48 cd48 ct48 oc49 kV49 dc49 pm49 cd49 ct49 oc50 kV50 dc50 pm50 cd50 ct50 oc51 kV51 dc51 pm51 cd51 ct51 oc52 kV52 dc52 pm52 cd52 ct52 oc53 kV53 dc53 pm53 cd53 ct53 oc54 kV54 dc54 pm54 cd54 ct54 oc55 kV55 dc55 pm55 cd55 ct55 oc56 kV56 dc56 pm56 cd56 ct56 oc57 kV57 dc57 pm57 cd57 ct57 oc58 kV58 dc58 pm58 cd58 ct58 oc59 kV59 dc59 pm59 cd59 ct59 oc60 kV60 dc60 pm60 cd60 ct60 oc61 kV61 dc61 pm61 cd61 ct61 oc62 kV62 dc62 pm62 cd62 ct62 oc63 kV63 dc63 pm63 cd63 ct63 oc64 kV64 dc64 pm64 cd64 ct64 : Value}
    (a0 : PySem.W.nsIn K mainGlobals "_law_pool" = some (some (.ref f0))) (l0 : K.lookup f0 = some ⟨oc0, od0, .func (PySem.W.fnOf "_law_pool" "_law_pool" (defArgs s_law_pool) (defBody s_law_pool) (defScope s_law_pool) .none kV0 dc0 pm0 an0 cd0 ct0), sl0⟩) (c0 : PySem.W.codeIn K cd0 "_law_pool" = true) (k0 : PySem.W.keepIn K (.ref f0) = true)
    (a1 : PySem.W.nsIn K mainGlobals "_law_take" = some (some (.ref f1))) (l1 : K.lookup f1 = some ⟨oc1, od1, .func (PySem.W.fnOf "_law_take" "_law_take" (defArgs s_law_take) (defBody s_law_take) (defScope s_law_take) .none kV1 dc1 pm1 an1 cd1 ct1), sl1⟩) (c1 : PySem.W.codeIn K cd1 "_law_take" = true) (k1 : PySem.W.keepIn K (.ref f1) = true)
    (a2 : PySem.W.nsIn K mainGlobals "_law_many" = some (some (.ref f2))) (l2 : K.lookup f2 = some ⟨oc2, od2, .func (PySem.W.fnOf "_law_many" "_law_many" (defArgs s_law_many) (defBody s_law_many) (defScope s_law_many) .none kV2 dc2 pm2 an2 cd2 ct2), sl2⟩) (c2 : PySem.W.codeIn K cd2 "_law_many" = true) (k2 : PySem.W.keepIn K (.ref f2) = true)
    (a3 : PySem.W.nsIn K mainGlobals "_law_models" = some (some (.ref f3))) (l3 : K.lookup f3 = some ⟨oc3, od3, .func (PySem.W.fnOf "_law_models" "_law_models" (defArgs s_law_models) (defBody s_law_models) (defScope s_law_models) .none kV3 dc3 pm3 an3 cd3 ct3), sl3⟩) (c3 : PySem.W.codeIn K cd3 "_law_models" = true) (k3 : PySem.W.keepIn K (.ref f3) = true)
    (a4 : PySem.W.nsIn K mainGlobals "is_whole" = some (some (.ref f4))) (l4 : K.lookup f4 = some ⟨oc4, od4, .func (PySem.W.fnOf "is_whole" "is_whole" (defArgs s_is_whole) (defBody s_is_whole) (defScope s_is_whole) .none kV4 dc4 pm4 an4 cd4 ct4), sl4⟩) (c4 : PySem.W.codeIn K cd4 "is_whole" = true) (k4 : PySem.W.keepIn K (.ref f4) = true)
    (a5 : PySem.W.nsIn K mainGlobals "is_within" = some (some (.ref f5))) (l5 : K.lookup f5 = some ⟨oc5, od5, .func (PySem.W.fnOf "is_within" "is_within" (defArgs s_is_within) (defBody s_is_within) (defScope s_is_within) .none kV5 dc5 pm5 an5 cd5 ct5), sl5⟩) (c5 : PySem.W.codeIn K cd5 "is_within" = true) (k5 : PySem.W.keepIn K (.ref f5) = true)
    (a6 : PySem.W.nsIn K mainGlobals "look_at_many" = some (some (.ref f6))) (l6 : K.lookup f6 = some ⟨oc6, od6, .func (PySem.W.fnOf "look_at_many" "look_at_many" (defArgs s_look_at_many) (defBody s_look_at_many) (defScope s_look_at_many) .none kV6 dc6 pm6 an6 cd6 ct6), sl6⟩) (c6 : PySem.W.codeIn K cd6 "look_at_many" = true) (k6 : PySem.W.keepIn K (.ref f6) = true)
    (a7 : PySem.W.nsIn K mainGlobals "look_at_sizes" = some (some (.ref f7))) (l7 : K.lookup f7 = some ⟨oc7, od7, .func (PySem.W.fnOf "look_at_sizes" "look_at_sizes" (defArgs s_look_at_sizes) (defBody s_look_at_sizes) (defScope s_look_at_sizes) .none kV7 dc7 pm7 an7 cd7 ct7), sl7⟩) (c7 : PySem.W.codeIn K cd7 "look_at_sizes" = true) (k7 : PySem.W.keepIn K (.ref f7) = true)
    (a8 : PySem.W.nsIn K mainGlobals "side_of" = some (some (.ref f8))) (l8 : K.lookup f8 = some ⟨oc8, od8, .func (PySem.W.fnOf "side_of" "side_of" (defArgs s_side_of) (defBody s_side_of) (defScope s_side_of) .none kV8 dc8 pm8 an8 cd8 ct8), sl8⟩) (c8 : PySem.W.codeIn K cd8 "side_of" = true) (k8 : PySem.W.keepIn K (.ref f8) = true)
    (a9 : PySem.W.nsIn K mainGlobals "spare_needs" = some (some (.ref f9))) (l9 : K.lookup f9 = some ⟨oc9, od9, .func (PySem.W.fnOf "spare_needs" "spare_needs" (defArgs s_spare_needs) (defBody s_spare_needs) (defScope s_spare_needs) .none kV9 dc9 pm9 an9 cd9 ct9), sl9⟩) (c9 : PySem.W.codeIn K cd9 "spare_needs" = true) (k9 : PySem.W.keepIn K (.ref f9) = true)
    (a10 : PySem.W.nsIn K mainGlobals "high_of" = some (some (.ref f10))) (l10 : K.lookup f10 = some ⟨oc10, od10, .func (PySem.W.fnOf "high_of" "high_of" (defArgs s_high_of) (defBody s_high_of) (defScope s_high_of) .none kV10 dc10 pm10 an10 cd10 ct10), sl10⟩) (c10 : PySem.W.codeIn K cd10 "high_of" = true) (k10 : PySem.W.keepIn K (.ref f10) = true)
    (a11 : PySem.W.nsIn K mainGlobals "last_of" = some (some (.ref f11))) (l11 : K.lookup f11 = some ⟨oc11, od11, .func (PySem.W.fnOf "last_of" "last_of" (defArgs s_last_of) (defBody s_last_of) (defScope s_last_of) .none kV11 dc11 pm11 an11 cd11 ct11), sl11⟩) (c11 : PySem.W.codeIn K cd11 "last_of" = true) (k11 : PySem.W.keepIn K (.ref f11) = true)
    (a12 : PySem.W.nsIn K mainGlobals "stair_of" = some (some (.ref f12))) (l12 : K.lookup f12 = some ⟨oc12, od12, .func (PySem.W.fnOf "stair_of" "stair_of" (defArgs s_stair_of) (defBody s_stair_of) (defScope s_stair_of) .none kV12 dc12 pm12 an12 cd12 ct12), sl12⟩) (c12 : PySem.W.codeIn K cd12 "stair_of" = true) (k12 : PySem.W.keepIn K (.ref f12) = true)
    (a13 : PySem.W.nsIn K mainGlobals "slots_of" = some (some (.ref f13))) (l13 : K.lookup f13 = some ⟨oc13, od13, .func (PySem.W.fnOf "slots_of" "slots_of" (defArgs s_slots_of) (defBody s_slots_of) (defScope s_slots_of) .none kV13 dc13 pm13 an13 cd13 ct13), sl13⟩) (c13 : PySem.W.codeIn K cd13 "slots_of" = true) (k13 : PySem.W.keepIn K (.ref f13) = true)
    (a14 : PySem.W.nsIn K mainGlobals "stairs_needs" = some (some (.ref f14))) (l14 : K.lookup f14 = some ⟨oc14, od14, .func (PySem.W.fnOf "stairs_needs" "stairs_needs" (defArgs s_stairs_needs) (defBody s_stairs_needs) (defScope s_stairs_needs) .none kV14 dc14 pm14 an14 cd14 ct14), sl14⟩) (c14 : PySem.W.codeIn K cd14 "stairs_needs" = true) (k14 : PySem.W.keepIn K (.ref f14) = true)
    (a15 : PySem.W.nsIn K mainGlobals "grove_needs" = some (some (.ref f15))) (l15 : K.lookup f15 = some ⟨oc15, od15, .func (PySem.W.fnOf "grove_needs" "grove_needs" (defArgs s_grove_needs) (defBody s_grove_needs) (defScope s_grove_needs) .none kV15 dc15 pm15 an15 cd15 ct15), sl15⟩) (c15 : PySem.W.codeIn K cd15 "grove_needs" = true) (k15 : PySem.W.keepIn K (.ref f15) = true)
    (a16 : PySem.W.nsIn K mainGlobals "trees_of" = some (some (.ref f16))) (l16 : K.lookup f16 = some ⟨oc16, od16, .func (PySem.W.fnOf "trees_of" "trees_of" (defArgs s_trees_of) (defBody s_trees_of) (defScope s_trees_of) .none kV16 dc16 pm16 an16 cd16 ct16), sl16⟩) (c16 : PySem.W.codeIn K cd16 "trees_of" = true) (k16 : PySem.W.keepIn K (.ref f16) = true)
    (a17 : PySem.W.nsIn K mainGlobals "kinds_of" = some (some (.ref f17))) (l17 : K.lookup f17 = some ⟨oc17, od17, .func (PySem.W.fnOf "kinds_of" "kinds_of" (defArgs s_kinds_of) (defBody s_kinds_of) (defScope s_kinds_of) .none kV17 dc17 pm17 an17 cd17 ct17), sl17⟩) (c17 : PySem.W.codeIn K cd17 "kinds_of" = true) (k17 : PySem.W.keepIn K (.ref f17) = true)
    (a18 : PySem.W.nsIn K mainGlobals "leaves" = some (some (.ref f18))) (l18 : K.lookup f18 = some ⟨oc18, od18, .func (PySem.W.fnOf "leaves" "leaves" (defArgs s_leaves) (defBody s_leaves) (defScope s_leaves) .none kV18 dc18 pm18 an18 cd18 ct18), sl18⟩) (c18 : PySem.W.codeIn K cd18 "leaves" = true) (k18 : PySem.W.keepIn K (.ref f18) = true)
    (a19 : PySem.W.nsIn K mainGlobals "is_row" = some (some (.ref f19))) (l19 : K.lookup f19 = some ⟨oc19, od19, .func (PySem.W.fnOf "is_row" "is_row" (defArgs s_is_row) (defBody s_is_row) (defScope s_is_row) .none kV19 dc19 pm19 an19 cd19 ct19), sl19⟩) (c19 : PySem.W.codeIn K cd19 "is_row" = true) (k19 : PySem.W.keepIn K (.ref f19) = true)
    (a20 : PySem.W.nsIn K mainGlobals "is_draw" = some (some (.ref f20))) (l20 : K.lookup f20 = some ⟨oc20, od20, .func (PySem.W.fnOf "is_draw" "is_draw" (defArgs s_is_draw) (defBody s_is_draw) (defScope s_is_draw) .none kV20 dc20 pm20 an20 cd20 ct20), sl20⟩) (c20 : PySem.W.codeIn K cd20 "is_draw" = true) (k20 : PySem.W.keepIn K (.ref f20) = true)
    (a21 : PySem.W.nsIn K mainGlobals "look_at_draws" = some (some (.ref f21))) (l21 : K.lookup f21 = some ⟨oc21, od21, .func (PySem.W.fnOf "look_at_draws" "look_at_draws" (defArgs s_look_at_draws) (defBody s_look_at_draws) (defScope s_look_at_draws) .none kV21 dc21 pm21 an21 cd21 ct21), sl21⟩) (c21 : PySem.W.codeIn K cd21 "look_at_draws" = true) (k21 : PySem.W.keepIn K (.ref f21) = true)
    (a22 : PySem.W.nsIn K mainGlobals "copied" = some (some (.ref f22))) (l22 : K.lookup f22 = some ⟨oc22, od22, .func (PySem.W.fnOf "copied" "copied" (defArgs s_copied) (defBody s_copied) (defScope s_copied) .none kV22 dc22 pm22 an22 cd22 ct22), sl22⟩) (c22 : PySem.W.codeIn K cd22 "copied" = true) (k22 : PySem.W.keepIn K (.ref f22) = true)
    (a23 : PySem.W.isFn K (.ref f23) = true) (l23 : K.lookup f23 = some ⟨oc23, od23, .func (PySem.W.fnOf "__init__" "Keeper.__init__" (defArgs s_Keeper_init) (defBody s_Keeper_init) (defScope s_Keeper_init) .none kV23 dc23 pm23 an23 cd23 ct23), sl23⟩) (c23 : PySem.W.codeIn K cd23 "Keeper.__init__" = true) (k23 : PySem.W.keepIn K (.ref f23) = true)
    (a24 : PySem.W.isFn K (.ref f24) = true) (l24 : K.lookup f24 = some ⟨oc24, od24, .func (PySem.W.fnOf "__init__" "Store.__init__" (defArgs s_Store_init) (defBody s_Store_init) (defScope s_Store_init) .none kV24 dc24 pm24 an24 cd24 ct24), sl24⟩) (c24 : PySem.W.codeIn K cd24 "Store.__init__" = true) (k24 : PySem.W.keepIn K (.ref f24) = true)
    (a25 : PySem.W.isFn K (.ref f25) = true) (l25 : K.lookup f25 = some ⟨oc25, od25, .func (PySem.W.fnOf "__init__" "Shelf.__init__" (defArgs s_Shelf_init) (defBody s_Shelf_init) (defScope s_Shelf_init) .none kV25 dc25 pm25 an25 cd25 ct25), sl25⟩) (c25 : PySem.W.codeIn K cd25 "Shelf.__init__" = true) (k25 : PySem.W.keepIn K (.ref f25) = true)
    (a26 : PySem.W.isFn K (.ref f26) = true) (l26 : K.lookup f26 = some ⟨oc26, od26, .func (PySem.W.fnOf "__init__" "Body.__init__" (defArgs s_Body_init) (defBody s_Body_init) (defScope s_Body_init) .none kV26 dc26 pm26 an26 cd26 ct26), sl26⟩) (c26 : PySem.W.codeIn K cd26 "Body.__init__" = true) (k26 : PySem.W.keepIn K (.ref f26) = true)
    (a27 : PySem.W.nsIn K mainGlobals "packed" = some (some (.ref f27))) (l27 : K.lookup f27 = some ⟨oc27, od27, .func (PySem.W.fnOf "packed" "packed" (defArgs s_packed) (defBody s_packed) (defScope s_packed) .none kV27 dc27 pm27 an27 cd27 ct27), sl27⟩) (c27 : PySem.W.codeIn K cd27 "packed" = true) (k27 : PySem.W.keepIn K (.ref f27) = true)
    (a28 : PySem.W.nsIn K mainGlobals "words_of" = some (some (.ref f28))) (l28 : K.lookup f28 = some ⟨oc28, od28, .func (PySem.W.fnOf "words_of" "words_of" (defArgs s_words_of) (defBody s_words_of) (defScope s_words_of) .none kV28 dc28 pm28 an28 cd28 ct28), sl28⟩) (c28 : PySem.W.codeIn K cd28 "words_of" = true) (k28 : PySem.W.keepIn K (.ref f28) = true)
    (a29 : PySem.W.isFn K (.ref f29) = true) (l29 : K.lookup f29 = some ⟨oc29, od29, .func (PySem.W.fnOf "__init__" "Grove.__init__" (defArgs s_Grove_init) (defBody s_Grove_init) (defScope s_Grove_init) .none kV29 dc29 pm29 an29 cd29 ct29), sl29⟩) (c29 : PySem.W.codeIn K cd29 "Grove.__init__" = true) (k29 : PySem.W.keepIn K (.ref f29) = true)
    (a30 : PySem.W.nsIn K mainGlobals "_law_word" = some (some (.ref f30))) (l30 : K.lookup f30 = some ⟨oc30, od30, .func (PySem.W.fnOf "_law_word" "_law_word" (defArgs s_law_word) (defBody s_law_word) (defScope s_law_word) .none kV30 dc30 pm30 an30 cd30 ct30), sl30⟩) (c30 : PySem.W.codeIn K cd30 "_law_word" = true) (k30 : PySem.W.keepIn K (.ref f30) = true)
    (a31 : PySem.W.nsIn K mainGlobals "_law_ask" = some (some (.ref f31))) (l31 : K.lookup f31 = some ⟨oc31, od31, .func (PySem.W.fnOf "_law_ask" "_law_ask" (defArgs s_law_ask) (defBody s_law_ask) (defScope s_law_ask) .none kV31 dc31 pm31 an31 cd31 ct31), sl31⟩) (c31 : PySem.W.codeIn K cd31 "_law_ask" = true) (k31 : PySem.W.keepIn K (.ref f31) = true)
    (a32 : PySem.W.nsIn K mainGlobals "is_ask" = some (some (.ref f32))) (l32 : K.lookup f32 = some ⟨oc32, od32, .func (PySem.W.fnOf "is_ask" "is_ask" (defArgs s_is_ask) (defBody s_is_ask) (defScope s_is_ask) .none kV32 dc32 pm32 an32 cd32 ct32), sl32⟩) (c32 : PySem.W.codeIn K cd32 "is_ask" = true) (k32 : PySem.W.keepIn K (.ref f32) = true)
    (a33 : PySem.W.nsIn K mainGlobals "need_ask" = some (some (.ref f33))) (l33 : K.lookup f33 = some ⟨oc33, od33, .func (PySem.W.fnOf "need_ask" "need_ask" (defArgs s_need_ask) (defBody s_need_ask) (defScope s_need_ask) .none kV33 dc33 pm33 an33 cd33 ct33), sl33⟩) (c33 : PySem.W.codeIn K cd33 "need_ask" = true) (k33 : PySem.W.keepIn K (.ref f33) = true)
    (a34 : PySem.W.isFn K (.ref f34) = true) (l34 : K.lookup f34 = some ⟨oc34, od34, .func (PySem.W.fnOf "left" "Store.left" (defArgs s_Store_left) (defBody s_Store_left) (defScope s_Store_left) .none kV34 dc34 pm34 an34 cd34 ct34), sl34⟩) (c34 : PySem.W.codeIn K cd34 "Store.left" = true) (k34 : PySem.W.keepIn K (.ref f34) = true)
    (a35 : PySem.W.isFn K (.ref f35) = true) (l35 : K.lookup f35 = some ⟨oc35, od35, .func (PySem.W.fnOf "fresh" "Grove.fresh" (defArgs s_Grove_fresh) (defBody s_Grove_fresh) (defScope s_Grove_fresh) .none kV35 dc35 pm35 an35 cd35 ct35), sl35⟩) (c35 : PySem.W.codeIn K cd35 "Grove.fresh" = true) (k35 : PySem.W.keepIn K (.ref f35) = true)
    (a36 : PySem.W.isFn K (.ref f36) = true) (l36 : K.lookup f36 = some ⟨oc36, od36, .func (PySem.W.fnOf "need_room" "Shelf.need_room" (defArgs s_Shelf_need_room) (defBody s_Shelf_need_room) (defScope s_Shelf_need_room) .none kV36 dc36 pm36 an36 cd36 ct36), sl36⟩) (c36 : PySem.W.codeIn K cd36 "Shelf.need_room" = true) (k36 : PySem.W.keepIn K (.ref f36) = true)
    (a37 : PySem.W.isFn K (.ref f37) = true) (l37 : K.lookup f37 = some ⟨oc37, od37, .func (PySem.W.fnOf "sees" "Keeper.sees" (defArgs s_Keeper_sees) (defBody s_Keeper_sees) (defScope s_Keeper_sees) .none kV37 dc37 pm37 an37 cd37 ct37), sl37⟩) (c37 : PySem.W.codeIn K cd37 "Keeper.sees" = true) (k37 : PySem.W.keepIn K (.ref f37) = true)
    (a38 : PySem.W.isFn K (.ref f38) = true) (l38 : K.lookup f38 = some ⟨oc38, od38, .func (PySem.W.fnOf "look" "Shelf.look" (defArgs s_Shelf_look) (defBody s_Shelf_look) (defScope s_Shelf_look) .none kV38 dc38 pm38 an38 cd38 ct38), sl38⟩) (c38 : PySem.W.codeIn K cd38 "Shelf.look" = true) (k38 : PySem.W.keepIn K (.ref f38) = true)
    (a39 : PySem.W.nsIn K mainGlobals "node_at" = some (some (.ref f39))) (l39 : K.lookup f39 = some ⟨oc39, od39, .func (PySem.W.fnOf "node_at" "node_at" (defArgs s_node_at) (defBody s_node_at) (defScope s_node_at) .none kV39 dc39 pm39 an39 cd39 ct39), sl39⟩) (c39 : PySem.W.codeIn K cd39 "node_at" = true) (k39 : PySem.W.keepIn K (.ref f39) = true)
    (a40 : PySem.W.nsIn K mainGlobals "room_of" = some (some (.ref f40))) (l40 : K.lookup f40 = some ⟨oc40, od40, .func (PySem.W.fnOf "room_of" "room_of" (defArgs s_room_of) (defBody s_room_of) (defScope s_room_of) .none kV40 dc40 pm40 an40 cd40 ct40), sl40⟩) (c40 : PySem.W.codeIn K cd40 "room_of" = true) (k40 : PySem.W.keepIn K (.ref f40) = true)
    (a41 : PySem.W.isFn K (.ref f41) = true) (l41 : K.lookup f41 = some ⟨oc41, od41, .func (PySem.W.fnOf "look_way" "Body.look_way" (defArgs s_Body_look_way) (defBody s_Body_look_way) (defScope s_Body_look_way) .none kV41 dc41 pm41 an41 cd41 ct41), sl41⟩) (c41 : PySem.W.codeIn K cd41 "Body.look_way" = true) (k41 : PySem.W.keepIn K (.ref f41) = true)
    (a42 : PySem.W.isFn K (.ref f42) = true) (l42 : K.lookup f42 = some ⟨oc42, od42, .func (PySem.W.fnOf "word_of" "Body.word_of" (defArgs s_Body_word_of) (defBody s_Body_word_of) (defScope s_Body_word_of) .none kV42 dc42 pm42 an42 cd42 ct42), sl42⟩) (c42 : PySem.W.codeIn K cd42 "Body.word_of" = true) (k42 : PySem.W.keepIn K (.ref f42) = true)
    (a43 : PySem.W.isFn K (.ref f43) = true) (l43 : K.lookup f43 = some ⟨oc43, od43, .func (PySem.W.fnOf "keep" "Body.keep" (defArgs s_Body_keep) (defBody s_Body_keep) (defScope s_Body_keep) .none kV43 dc43 pm43 an43 cd43 ct43), sl43⟩) (c43 : PySem.W.codeIn K cd43 "Body.keep" = true) (k43 : PySem.W.keepIn K (.ref f43) = true)
    (a44 : PySem.W.nsIn K mainGlobals "leaf_in" = some (some (.ref f44))) (l44 : K.lookup f44 = some ⟨oc44, od44, .func (PySem.W.fnOf "leaf_in" "leaf_in" (defArgs s_leaf_in) (defBody s_leaf_in) (defScope s_leaf_in) .none kV44 dc44 pm44 an44 cd44 ct44), sl44⟩) (c44 : PySem.W.codeIn K cd44 "leaf_in" = true) (k44 : PySem.W.keepIn K (.ref f44) = true)
    (a45 : PySem.W.nsIn K mainGlobals "with_leaf" = some (some (.ref f45))) (l45 : K.lookup f45 = some ⟨oc45, od45, .func (PySem.W.fnOf "with_leaf" "with_leaf" (defArgs s_with_leaf) (defBody s_with_leaf) (defScope s_with_leaf) .none kV45 dc45 pm45 an45 cd45 ct45), sl45⟩) (c45 : PySem.W.codeIn K cd45 "with_leaf" = true) (k45 : PySem.W.keepIn K (.ref f45) = true)
    (a46 : PySem.W.isFn K (.ref f46) = true) (l46 : K.lookup f46 = some ⟨oc46, od46, .func (PySem.W.fnOf "fitting" "Body.fitting" (defArgs s_Body_fitting) (defBody s_Body_fitting) (defScope s_Body_fitting) .none kV46 dc46 pm46 an46 cd46 ct46), sl46⟩) (c46 : PySem.W.codeIn K cd46 "Body.fitting" = true) (k46 : PySem.W.keepIn K (.ref f46) = true)
    (a47 : PySem.W.isFn K (.ref f47) = true) (l47 : K.lookup f47 = some ⟨oc47, od47, .func (PySem.W.fnOf "lay" "Shelf.lay" (defArgs s_Shelf_lay) (defBody s_Shelf_lay) (defScope s_Shelf_lay) .none kV47 dc47 pm47 an47 cd47 ct47), sl47⟩) (c47 : PySem.W.codeIn K cd47 "Shelf.lay" = true) (k47 : PySem.W.keepIn K (.ref f47) = true)
    (a48 : PySem.W.isFn K (.ref f48) = true) (l48 : K.lookup f48 = some ⟨oc48, od48, .func (PySem.W.fnOf "lay_way" "Body.lay_way" (defArgs s_Body_lay_way) (defBody s_Body_lay_way) (defScope s_Body_lay_way) .none kV48 dc48 pm48 an48 cd48 ct48), sl48⟩) (c48 : PySem.W.codeIn K cd48 "Body.lay_way" = true) (k48 : PySem.W.keepIn K (.ref f48) = true)
    (a49 : PySem.W.isFn K (.ref f49) = true) (l49 : K.lookup f49 = some ⟨oc49, od49, .func (PySem.W.fnOf "passed" "Grove.passed" (defArgs s_Grove_passed) (defBody s_Grove_passed) (defScope s_Grove_passed) .none kV49 dc49 pm49 an49 cd49 ct49), sl49⟩) (c49 : PySem.W.codeIn K cd49 "Grove.passed" = true) (k49 : PySem.W.keepIn K (.ref f49) = true)
    (a50 : PySem.W.isFn K (.ref f50) = true) (l50 : K.lookup f50 = some ⟨oc50, od50, .func (PySem.W.fnOf "answered" "Grove.answered" (defArgs s_Grove_answered) (defBody s_Grove_answered) (defScope s_Grove_answered) .none kV50 dc50 pm50 an50 cd50 ct50), sl50⟩) (c50 : PySem.W.codeIn K cd50 "Grove.answered" = true) (k50 : PySem.W.keepIn K (.ref f50) = true)
    (a51 : PySem.W.nsIn K mainGlobals "word_asked" = some (some (.ref f51))) (l51 : K.lookup f51 = some ⟨oc51, od51, .func (PySem.W.fnOf "word_asked" "word_asked" (defArgs s_word_asked) (defBody s_word_asked) (defScope s_word_asked) .none kV51 dc51 pm51 an51 cd51 ct51), sl51⟩) (c51 : PySem.W.codeIn K cd51 "word_asked" = true) (k51 : PySem.W.keepIn K (.ref f51) = true)
    (a52 : PySem.W.isFn K (.ref f52) = true) (l52 : K.lookup f52 = some ⟨oc52, od52, .func (PySem.W.fnOf "ask" "Store.ask" (defArgs s_Store_ask) (defBody s_Store_ask) (defScope s_Store_ask) .none kV52 dc52 pm52 an52 cd52 ct52), sl52⟩) (c52 : PySem.W.codeIn K cd52 "Store.ask" = true) (k52 : PySem.W.keepIn K (.ref f52) = true)
    (a53 : PySem.W.nsIn K mainGlobals "_law_refused" = some (some (.ref f53))) (l53 : K.lookup f53 = some ⟨oc53, od53, .func (PySem.W.fnOf "_law_refused" "_law_refused" (defArgs s_law_refused) (defBody s_law_refused) (defScope s_law_refused) .none kV53 dc53 pm53 an53 cd53 ct53), sl53⟩) (c53 : PySem.W.codeIn K cd53 "_law_refused" = true) (k53 : PySem.W.keepIn K (.ref f53) = true)
    (a54 : PySem.W.nsIn K mainGlobals "_law_nodes" = some (some (.ref f54))) (l54 : K.lookup f54 = some ⟨oc54, od54, .func (PySem.W.fnOf "_law_nodes" "_law_nodes" (defArgs s_law_nodes) (defBody s_law_nodes) (defScope s_law_nodes) .none kV54 dc54 pm54 an54 cd54 ct54), sl54⟩) (c54 : PySem.W.codeIn K cd54 "_law_nodes" = true) (k54 : PySem.W.keepIn K (.ref f54) = true)
    (a55 : PySem.W.nsIn K mainGlobals "_law_touches" = some (some (.ref f55))) (l55 : K.lookup f55 = some ⟨oc55, od55, .func (PySem.W.fnOf "_law_touches" "_law_touches" (defArgs s_law_touches) (defBody s_law_touches) (defScope s_law_touches) .none kV55 dc55 pm55 an55 cd55 ct55), sl55⟩) (c55 : PySem.W.codeIn K cd55 "_law_touches" = true) (k55 : PySem.W.keepIn K (.ref f55) = true)
    (a56 : PySem.W.nsIn K mainGlobals "_law_go" = some (some (.ref f56))) (l56 : K.lookup f56 = some ⟨oc56, od56, .func (PySem.W.fnOf "_law_go" "_law_go" (defArgs s_law_go) (defBody s_law_go) (defScope s_law_go) .none kV56 dc56 pm56 an56 cd56 ct56), sl56⟩) (c56 : PySem.W.codeIn K cd56 "_law_go" = true) (k56 : PySem.W.keepIn K (.ref f56) = true)
    (a57 : PySem.W.isFn K (.ref f57) = true) (l57 : K.lookup f57 = some ⟨oc57, od57, .func (PySem.W.fnOf "cells_in_hand" "Body.cells_in_hand" (defArgs s_Body_cells_in_hand) (defBody s_Body_cells_in_hand) (defScope s_Body_cells_in_hand) .none kV57 dc57 pm57 an57 cd57 ct57), sl57⟩) (c57 : PySem.W.codeIn K cd57 "Body.cells_in_hand" = true) (k57 : PySem.W.keepIn K (.ref f57) = true)
    (a58 : PySem.W.isFn K (.ref f58) = true) (l58 : K.lookup f58 = some ⟨oc58, od58, .func (PySem.W.fnOf "pocket" "Grove.pocket" (defArgs s_Grove_pocket) (defBody s_Grove_pocket) (defScope s_Grove_pocket) .none kV58 dc58 pm58 an58 cd58 ct58), sl58⟩) (c58 : PySem.W.codeIn K cd58 "Grove.pocket" = true) (k58 : PySem.W.keepIn K (.ref f58) = true)
    (a59 : PySem.W.nsIn K mainGlobals "_law_hand" = some (some (.ref f59))) (l59 : K.lookup f59 = some ⟨oc59, od59, .func (PySem.W.fnOf "_law_hand" "_law_hand" (defArgs s_law_hand) (defBody s_law_hand) (defScope s_law_hand) .none kV59 dc59 pm59 an59 cd59 ct59), sl59⟩) (c59 : PySem.W.codeIn K cd59 "_law_hand" = true) (k59 : PySem.W.keepIn K (.ref f59) = true)
    (a60 : PySem.W.nsIn K mainGlobals "_law_whole" = some (some (.ref f60))) (l60 : K.lookup f60 = some ⟨oc60, od60, .func (PySem.W.fnOf "_law_whole" "_law_whole" (defArgs s_law_whole) (defBody s_law_whole) (defScope s_law_whole) .none kV60 dc60 pm60 an60 cd60 ct60), sl60⟩) (c60 : PySem.W.codeIn K cd60 "_law_whole" = true) (k60 : PySem.W.keepIn K (.ref f60) = true)
    (a61 : PySem.W.nsIn K mainGlobals "_law_pockets_right" = some (some (.ref f61))) (l61 : K.lookup f61 = some ⟨oc61, od61, .func (PySem.W.fnOf "_law_pockets_right" "_law_pockets_right" (defArgs s_law_pockets_right) (defBody s_law_pockets_right) (defScope s_law_pockets_right) .none kV61 dc61 pm61 an61 cd61 ct61), sl61⟩) (c61 : PySem.W.codeIn K cd61 "_law_pockets_right" = true) (k61 : PySem.W.keepIn K (.ref f61) = true)
    (a62 : PySem.W.isFn K (.ref f62) = true) (l62 : K.lookup f62 = some ⟨oc62, od62, .func (PySem.W.fnOf "seen" "Keeper.seen" (defArgs s_Keeper_seen) (defBody s_Keeper_seen) (defScope s_Keeper_seen) .none kV62 dc62 pm62 an62 cd62 ct62), sl62⟩) (c62 : PySem.W.codeIn K cd62 "Keeper.seen" = true) (k62 : PySem.W.keepIn K (.ref f62) = true)
    (a63 : PySem.W.isFn K (.ref f63) = true) (l63 : K.lookup f63 = some ⟨oc63, od63, .func (PySem.W.fnOf "touches" "Store.touches" (defArgs s_Store_touches) (defBody s_Store_touches) (defScope s_Store_touches) .none kV63 dc63 pm63 an63 cd63 ct63), sl63⟩) (c63 : PySem.W.codeIn K cd63 "Store.touches" = true) (k63 : PySem.W.keepIn K (.ref f63) = true)
    (a64 : PySem.W.nsIn K mainGlobals "law" = some (some (.ref f64))) (l64 : K.lookup f64 = some ⟨oc64, od64, .func (PySem.W.fnOf "law" "law" (defArgs s_law) (defBody s_law) (defScope s_law) .none kV64 dc64 pm64 an64 cd64 ct64), sl64⟩) (c64 : PySem.W.codeIn K cd64 "law" = true) (k64 : PySem.W.keepIn K (.ref f64) = true)
    (z_all : PySem.W.nsIn K mainGlobals "all" = some none)
    (z_bool : PySem.W.nsIn K mainGlobals "bool" = some none)
    (z_enumerate : PySem.W.nsIn K mainGlobals "enumerate" = some none)
    (z_int : PySem.W.nsIn K mainGlobals "int" = some none)
    (z_isinstance : PySem.W.nsIn K mainGlobals "isinstance" = some none)
    (z_len : PySem.W.nsIn K mainGlobals "len" = some none)
    (z_list : PySem.W.nsIn K mainGlobals "list" = some none)
    (z_max : PySem.W.nsIn K mainGlobals "max" = some none)
    (z_min : PySem.W.nsIn K mainGlobals "min" = some none)
    (z_range : PySem.W.nsIn K mainGlobals "range" = some none)
    (z_reversed : PySem.W.nsIn K mainGlobals "reversed" = some none)
    (z_sorted : PySem.W.nsIn K mainGlobals "sorted" = some none)
    (z_sum : PySem.W.nsIn K mainGlobals "sum" = some none)
    (z_tuple : PySem.W.nsIn K mainGlobals "tuple" = some none)
    {X_TouchError X_NoRoom X_NoAsk X_NoSize X_Over : Addr}
    {tk_MOST_CELLS : Tok}
    {tk_MOST_ASKS : Tok}
    {tk_TABLE : Tok}
    {tk_GREATEST : Tok}
    {KA_SIDES : Addr} {ko_SIDES : Option Addr} {ki_SIDES : Array Value} {kn_SIDES : Nat} {ks_SIDES : Array (Option Value)}
    {O_Keeper O_Shelf O_Body O_Grove O_Store : Addr}
    (xa_TouchError : PySem.W.nsIn K mainGlobals "TouchError" = some (some (.ref X_TouchError)))
    (xk_TouchError : PySem.W.keepIn K (.ref X_TouchError) = true)
    (xb_TouchError : PySem.W.subIn K (.ref X_TouchError) (.type "BaseException") = some true)
    (xt_TouchError : PySem.W.typeIn K (.ref X_TouchError) = some (.type "type"))
    (x4_TouchError : PySem.W.hasDictIn K X_TouchError = true)
    (xa_NoRoom : PySem.W.nsIn K mainGlobals "NoRoom" = some (some (.ref X_NoRoom)))
    (xk_NoRoom : PySem.W.keepIn K (.ref X_NoRoom) = true)
    (xx_NoRoom : PySem.W.excIn K X_NoRoom [.type "ValueError", .type "Exception", .type "BaseException", .type "object"] "ValueError.__new__" = true)
    (xb_NoRoom : PySem.W.subIn K (.ref X_NoRoom) (.type "BaseException") = some true)
    (xt_NoRoom : PySem.W.typeIn K (.ref X_NoRoom) = some (.type "type"))
    (x4_NoRoom : PySem.W.hasDictIn K X_NoRoom = true)
    (x1_NoRoom : PySem.W.findIn K (.ref X_NoRoom) "__getattribute__" = some (some (.builtin "BaseException.__getattribute__")))
    (x2_NoRoom : PySem.W.findIn K (.ref X_NoRoom) "__getattr__" = some none)
    (x5_NoRoom : PySem.W.findIn K (.ref X_NoRoom) "__class__" = some (some (.builtin "object.__class__")))
    (x8_NoRoom : PySem.W.mroIn K X_NoRoom (.type "object") = some true)
    (xa_NoAsk : PySem.W.nsIn K mainGlobals "NoAsk" = some (some (.ref X_NoAsk)))
    (xk_NoAsk : PySem.W.keepIn K (.ref X_NoAsk) = true)
    (xx_NoAsk : PySem.W.excIn K X_NoAsk [.type "ValueError", .type "Exception", .type "BaseException", .type "object"] "ValueError.__new__" = true)
    (xb_NoAsk : PySem.W.subIn K (.ref X_NoAsk) (.type "BaseException") = some true)
    (xt_NoAsk : PySem.W.typeIn K (.ref X_NoAsk) = some (.type "type"))
    (x4_NoAsk : PySem.W.hasDictIn K X_NoAsk = true)
    (xs_NoAsk : PySem.W.subIn K (.ref X_NoAsk) (.ref X_NoAsk) = some true)
    (x1_NoAsk : PySem.W.findIn K (.ref X_NoAsk) "__getattribute__" = some (some (.builtin "BaseException.__getattribute__")))
    (x2_NoAsk : PySem.W.findIn K (.ref X_NoAsk) "__getattr__" = some none)
    (x5_NoAsk : PySem.W.findIn K (.ref X_NoAsk) "__class__" = some (some (.builtin "object.__class__")))
    (x8_NoAsk : PySem.W.mroIn K X_NoAsk (.type "object") = some true)
    (xa_NoSize : PySem.W.nsIn K mainGlobals "NoSize" = some (some (.ref X_NoSize)))
    (xk_NoSize : PySem.W.keepIn K (.ref X_NoSize) = true)
    (xx_NoSize : PySem.W.excIn K X_NoSize [.type "ValueError", .type "Exception", .type "BaseException", .type "object"] "ValueError.__new__" = true)
    (xb_NoSize : PySem.W.subIn K (.ref X_NoSize) (.type "BaseException") = some true)
    (xt_NoSize : PySem.W.typeIn K (.ref X_NoSize) = some (.type "type"))
    (x4_NoSize : PySem.W.hasDictIn K X_NoSize = true)
    (x1_NoSize : PySem.W.findIn K (.ref X_NoSize) "__getattribute__" = some (some (.builtin "BaseException.__getattribute__")))
    (x2_NoSize : PySem.W.findIn K (.ref X_NoSize) "__getattr__" = some none)
    (x5_NoSize : PySem.W.findIn K (.ref X_NoSize) "__class__" = some (some (.builtin "object.__class__")))
    (x8_NoSize : PySem.W.mroIn K X_NoSize (.type "object") = some true)
    (xa_Over : PySem.W.nsIn K mainGlobals "Over" = some (some (.ref X_Over)))
    (xk_Over : PySem.W.keepIn K (.ref X_Over) = true)
    (xx_Over : PySem.W.excIn K X_Over [.type "ValueError", .type "Exception", .type "BaseException", .type "object"] "ValueError.__new__" = true)
    (xb_Over : PySem.W.subIn K (.ref X_Over) (.type "BaseException") = some true)
    (xt_Over : PySem.W.typeIn K (.ref X_Over) = some (.type "type"))
    (x4_Over : PySem.W.hasDictIn K X_Over = true)
    (x1_Over : PySem.W.findIn K (.ref X_Over) "__getattribute__" = some (some (.builtin "BaseException.__getattribute__")))
    (x2_Over : PySem.W.findIn K (.ref X_Over) "__getattr__" = some none)
    (x5_Over : PySem.W.findIn K (.ref X_Over) "__class__" = some (some (.builtin "object.__class__")))
    (x8_Over : PySem.W.mroIn K X_Over (.type "object") = some true)
    (x6 : PySem.W.specialIn K (.builtin "object.__class__") "__get__" = some (some (.builtin "getset_descriptor.__get__")))
    (x7 : PySem.W.takesIn K (.builtin "object.__class__") = some true)
    (ni_NoAsk : PySem.W.subIn K (.type "NoneType") (.ref X_NoAsk) = some false)
    (su_NoRoom_NoAsk : PySem.W.subIn K (.ref X_NoRoom) (.ref X_NoAsk) = some false)
    (su_NoAsk_NoAsk : PySem.W.subIn K (.ref X_NoAsk) (.ref X_NoAsk) = some true)
    (su_NoSize_NoAsk : PySem.W.subIn K (.ref X_NoSize) (.ref X_NoAsk) = some false)
    (su_Over_NoAsk : PySem.W.subIn K (.ref X_Over) (.ref X_NoAsk) = some false)
    (su_NoRoom_TouchError : PySem.W.subIn K (.ref X_NoRoom) (.ref X_TouchError) = some true)
    (su_NoAsk_TouchError : PySem.W.subIn K (.ref X_NoAsk) (.ref X_TouchError) = some true)
    (su_NoSize_TouchError : PySem.W.subIn K (.ref X_NoSize) (.ref X_TouchError) = some true)
    (su_Over_TouchError : PySem.W.subIn K (.ref X_Over) (.ref X_TouchError) = some true)
    (ka_MOST_CELLS : PySem.W.nsIn K mainGlobals "MOST_CELLS" = some (some (.int 32 tk_MOST_CELLS)))
    (ka_MOST_ASKS : PySem.W.nsIn K mainGlobals "MOST_ASKS" = some (some (.int 60 tk_MOST_ASKS)))
    (ka_TABLE : PySem.W.nsIn K mainGlobals "TABLE" = some (some (.int 4 tk_TABLE)))
    (ka_GREATEST : PySem.W.nsIn K mainGlobals "GREATEST" = some (some (.int 999999999999999999 tk_GREATEST)))
    (ka_SIDES : PySem.W.nsIn K mainGlobals "SIDES" = some (some (.ref KA_SIDES)))
    (kl_SIDES : K.lookup KA_SIDES = some ⟨.type "tuple", ko_SIDES, .seq ki_SIDES kn_SIDES, ks_SIDES⟩)
    (kv_SIDES : ki_SIDES.toList.map absV = con_SIDES.map some)
    (kz_SIDES : ki_SIDES.size ≤ 1000)
    (oa_Keeper : PySem.W.nsIn K mainGlobals "Keeper" = some (some (.ref O_Keeper)))
    (oa_Shelf : PySem.W.nsIn K mainGlobals "Shelf" = some (some (.ref O_Shelf)))
    (oa_Body : PySem.W.nsIn K mainGlobals "Body" = some (some (.ref O_Body)))
    (oa_Grove : PySem.W.nsIn K mainGlobals "Grove" = some (some (.ref O_Grove)))
    (oa_Store : PySem.W.nsIn K mainGlobals "Store" = some (some (.ref O_Store)))
    (o1_Keeper : PySem.W.plainGet K O_Keeper Str.empty = true)
    (o2_Keeper : PySem.W.hasDictIn K O_Keeper = true)
    (o3_Keeper : PySem.W.plainOver K O_Keeper = true)
    (o4_Keeper : PySem.W.findIn K (.ref O_Keeper) "__setattr__" = some (some (.builtin "object.__setattr__")))
    (on_Keeper_log : PySem.W.findIn K (.ref O_Keeper) "log" = some none)
    (o1_Shelf : PySem.W.plainGet K O_Shelf Str.empty = true)
    (o2_Shelf : PySem.W.hasDictIn K O_Shelf = true)
    (o3_Shelf : PySem.W.plainOver K O_Shelf = true)
    (o4_Shelf : PySem.W.findIn K (.ref O_Shelf) "__setattr__" = some (some (.builtin "object.__setattr__")))
    (on_Shelf_keeper : PySem.W.findIn K (.ref O_Shelf) "keeper" = some none)
    (on_Shelf_number : PySem.W.findIn K (.ref O_Shelf) "number" = some none)
    (on_Shelf_things : PySem.W.findIn K (.ref O_Shelf) "things" = some none)
    (o1_Body : PySem.W.plainGet K O_Body Str.empty = true)
    (o2_Body : PySem.W.hasDictIn K O_Body = true)
    (o3_Body : PySem.W.plainOver K O_Body = true)
    (o4_Body : PySem.W.findIn K (.ref O_Body) "__setattr__" = some (some (.builtin "object.__setattr__")))
    (on_Body_shelf : PySem.W.findIn K (.ref O_Body) "shelf" = some none)
    (on_Body_high : PySem.W.findIn K (.ref O_Body) "high" = some none)
    (on_Body_firsts : PySem.W.findIn K (.ref O_Body) "firsts" = some none)
    (on_Body_hand : PySem.W.findIn K (.ref O_Body) "hand" = some none)
    (o1_Grove : PySem.W.plainGet K O_Grove Str.empty = true)
    (o2_Grove : PySem.W.hasDictIn K O_Grove = true)
    (o3_Grove : PySem.W.plainOver K O_Grove = true)
    (o4_Grove : PySem.W.findIn K (.ref O_Grove) "__setattr__" = some (some (.builtin "object.__setattr__")))
    (on_Grove_cells : PySem.W.findIn K (.ref O_Grove) "cells" = some none)
    (on_Grove_limit : PySem.W.findIn K (.ref O_Grove) "limit" = some none)
    (on_Grove_draws : PySem.W.findIn K (.ref O_Grove) "draws" = some none)
    (on_Grove_keeper : PySem.W.findIn K (.ref O_Grove) "keeper" = some none)
    (on_Grove_made : PySem.W.findIn K (.ref O_Grove) "made" = some none)
    (on_Grove_highs : PySem.W.findIn K (.ref O_Grove) "highs" = some none)
    (on_Grove_bodies : PySem.W.findIn K (.ref O_Grove) "bodies" = some none)
    (on_Grove_start : PySem.W.findIn K (.ref O_Grove) "start" = some none)
    (on_Grove_table : PySem.W.findIn K (.ref O_Grove) "table" = some none)
    (om_Keeper : PySem.W.makesIn K O_Keeper = true)
    (ok_Keeper : PySem.W.keepIn K (.ref O_Keeper) = true)
    (oi_Keeper : PySem.W.findIn K (.ref O_Keeper) "__init__" = some (some (.ref f23)))
    (om_Shelf : PySem.W.makesIn K O_Shelf = true)
    (ok_Shelf : PySem.W.keepIn K (.ref O_Shelf) = true)
    (oi_Shelf : PySem.W.findIn K (.ref O_Shelf) "__init__" = some (some (.ref f25)))
    (om_Body : PySem.W.makesIn K O_Body = true)
    (ok_Body : PySem.W.keepIn K (.ref O_Body) = true)
    (oi_Body : PySem.W.findIn K (.ref O_Body) "__init__" = some (some (.ref f26)))
    (om_Grove : PySem.W.makesIn K O_Grove = true)
    (ok_Grove : PySem.W.keepIn K (.ref O_Grove) = true)
    (oi_Grove : PySem.W.findIn K (.ref O_Grove) "__init__" = some (some (.ref f29)))
    (of_Grove_answered : PySem.W.findIn K (.ref O_Grove) "answered" = some (some (.ref f50)))
    (of_Grove_ask : PySem.W.findIn K (.ref O_Grove) "ask" = some (some (.ref f52)))
    (of_Body_cells_in_hand : PySem.W.findIn K (.ref O_Body) "cells_in_hand" = some (some (.ref f57)))
    (of_Body_fitting : PySem.W.findIn K (.ref O_Body) "fitting" = some (some (.ref f46)))
    (of_Grove_fresh : PySem.W.findIn K (.ref O_Grove) "fresh" = some (some (.ref f35)))
    (of_Body_keep : PySem.W.findIn K (.ref O_Body) "keep" = some (some (.ref f43)))
    (of_Shelf_lay : PySem.W.findIn K (.ref O_Shelf) "lay" = some (some (.ref f47)))
    (of_Body_lay_way : PySem.W.findIn K (.ref O_Body) "lay_way" = some (some (.ref f48)))
    (of_Grove_left : PySem.W.findIn K (.ref O_Grove) "left" = some (some (.ref f34)))
    (of_Shelf_look : PySem.W.findIn K (.ref O_Shelf) "look" = some (some (.ref f38)))
    (of_Body_look_way : PySem.W.findIn K (.ref O_Body) "look_way" = some (some (.ref f41)))
    (of_Shelf_need_room : PySem.W.findIn K (.ref O_Shelf) "need_room" = some (some (.ref f36)))
    (of_Grove_passed : PySem.W.findIn K (.ref O_Grove) "passed" = some (some (.ref f49)))
    (of_Grove_pocket : PySem.W.findIn K (.ref O_Grove) "pocket" = some (some (.ref f58)))
    (of_Keeper_seen : PySem.W.findIn K (.ref O_Keeper) "seen" = some (some (.ref f62)))
    (of_Keeper_sees : PySem.W.findIn K (.ref O_Keeper) "sees" = some (some (.ref f37)))
    (of_Grove_touches : PySem.W.findIn K (.ref O_Grove) "touches" = some (some (.ref f63)))
    (of_Body_word_of : PySem.W.findIn K (.ref O_Body) "word_of" = some (some (.ref f42)))
    (or_Store : PySem.W.readsIn K O_Store (.type "type") = true)
    (og_Store : PySem.W.specialIn K (.ref O_Store) "__getattribute__" = some (some (.builtin "type.__getattribute__")))
    (oc_Store___init__ : PySem.W.findCls K (.ref O_Store) (.type "type") "__init__" = some (.val (.ref f24)))
    : ∃ fd : FuncData, (∀ (s : Shared) (v : Value), BindsTo s fd ⟨[v], []⟩ [("_law_script", v)]) ∧ ∀ base : Heap, K.In base → base.Ns mainGlobals mg → FnOk l.prog w K mg base (L2.CX l.prog w) 10 fa fd ["_law_script"] (lift (S_law K)) := by
  have e := hfa.symm.trans (PySem.W.mg_of X G a64)
  cases e
  have B : Bs mg := ⟨PySem.W.mg_none_of X G z_all, PySem.W.mg_none_of X G z_bool, PySem.W.mg_none_of X G z_enumerate, PySem.W.mg_none_of X G z_int, PySem.W.mg_none_of X G z_isinstance, PySem.W.mg_none_of X G z_len, PySem.W.mg_none_of X G z_list, PySem.W.mg_none_of X G z_max, PySem.W.mg_none_of X G z_min, PySem.W.mg_none_of X G z_range, PySem.W.mg_none_of X G z_reversed, PySem.W.mg_none_of X G z_sorted, PySem.W.mg_none_of X G z_sum, PySem.W.mg_none_of X G z_tuple⟩
  have ck_Keeper : CK K 1 := ck_mk (k := 1) oa_Keeper o1_Keeper o2_Keeper o3_Keeper o4_Keeper (List.forall_mem_cons.mpr ⟨on_Keeper_log, fa_nil⟩)
  have ck_Shelf : CK K 2 := ck_mk (k := 2) oa_Shelf o1_Shelf o2_Shelf o3_Shelf o4_Shelf (List.forall_mem_cons.mpr ⟨on_Shelf_keeper, List.forall_mem_cons.mpr ⟨on_Shelf_number, List.forall_mem_cons.mpr ⟨on_Shelf_things, fa_nil⟩⟩⟩)
  have ck_Body : CK K 8 := ck_mk (k := 8) oa_Body o1_Body o2_Body o3_Body o4_Body (List.forall_mem_cons.mpr ⟨on_Body_shelf, List.forall_mem_cons.mpr ⟨on_Body_high, List.forall_mem_cons.mpr ⟨on_Body_firsts, List.forall_mem_cons.mpr ⟨on_Body_hand, fa_nil⟩⟩⟩⟩)
  have ck_Grove : CK K 7 := ck_mk (k := 7) oa_Grove o1_Grove o2_Grove o3_Grove o4_Grove (List.forall_mem_cons.mpr ⟨on_Grove_cells, List.forall_mem_cons.mpr ⟨on_Grove_limit, List.forall_mem_cons.mpr ⟨on_Grove_draws, List.forall_mem_cons.mpr ⟨on_Grove_keeper, List.forall_mem_cons.mpr ⟨on_Grove_made, List.forall_mem_cons.mpr ⟨on_Grove_highs, List.forall_mem_cons.mpr ⟨on_Grove_bodies, List.forall_mem_cons.mpr ⟨on_Grove_start, List.forall_mem_cons.mpr ⟨on_Grove_table, fa_nil⟩⟩⟩⟩⟩⟩⟩⟩⟩)
  have C : Cs K mg := ⟨xg_mk X G xa_TouchError xk_TouchError, xg_mk X G xa_NoRoom xk_NoRoom, xg_mk X G xa_NoAsk xk_NoAsk, xg_mk X G xa_NoSize xk_NoSize, xg_mk X G xa_Over xk_Over, xr_mk xa_NoRoom xx_NoRoom xb_NoRoom xt_NoRoom, xr_mk xa_NoAsk xx_NoAsk xb_NoAsk xt_NoAsk, xr_mk xa_NoSize xx_NoSize xb_NoSize xt_NoSize, xr_mk xa_Over xx_Over xb_Over xt_Over, List.forall_mem_cons.mpr ⟨by rw [cl_of xa_NoRoom, cl_of xa_TouchError]; exact PySem.W.exm_ref xb_TouchError x4_TouchError xt_TouchError su_NoRoom_TouchError, List.forall_mem_cons.mpr ⟨by rw [cl_of xa_NoAsk, cl_of xa_TouchError]; exact PySem.W.exm_ref xb_TouchError x4_TouchError xt_TouchError su_NoAsk_TouchError, List.forall_mem_cons.mpr ⟨by rw [cl_of xa_NoSize, cl_of xa_TouchError]; exact PySem.W.exm_ref xb_TouchError x4_TouchError xt_TouchError su_NoSize_TouchError, List.forall_mem_cons.mpr ⟨by rw [cl_of xa_Over, cl_of xa_TouchError]; exact PySem.W.exm_ref xb_TouchError x4_TouchError xt_TouchError su_Over_TouchError, fa_nil⟩⟩⟩⟩, (by rw [cl_of xa_NoAsk]; exact kit_ref x4_NoAsk xt_NoAsk xs_NoAsk ni_NoAsk), List.forall_mem_cons.mpr ⟨⟨xe_mk xa_NoRoom ⟨x1_NoRoom, x2_NoRoom, xb_NoRoom, x4_NoRoom, x5_NoRoom, x6, x7, x8_NoRoom⟩, by rw [cl_of xa_NoRoom, cl_of xa_NoAsk]; exact kit_ref x4_NoAsk xt_NoAsk xs_NoAsk su_NoRoom_NoAsk⟩, List.forall_mem_cons.mpr ⟨⟨xe_mk xa_NoAsk ⟨x1_NoAsk, x2_NoAsk, xb_NoAsk, x4_NoAsk, x5_NoAsk, x6, x7, x8_NoAsk⟩, by rw [cl_of xa_NoAsk]; exact kit_ref x4_NoAsk xt_NoAsk xs_NoAsk su_NoAsk_NoAsk⟩, List.forall_mem_cons.mpr ⟨⟨xe_mk xa_NoSize ⟨x1_NoSize, x2_NoSize, xb_NoSize, x4_NoSize, x5_NoSize, x6, x7, x8_NoSize⟩, by rw [cl_of xa_NoSize, cl_of xa_NoAsk]; exact kit_ref x4_NoAsk xt_NoAsk xs_NoAsk su_NoSize_NoAsk⟩, List.forall_mem_cons.mpr ⟨⟨xe_mk xa_Over ⟨x1_Over, x2_Over, xb_Over, x4_Over, x5_Over, x6, x7, x8_Over⟩, by rw [cl_of xa_Over, cl_of xa_NoAsk]; exact kit_ref x4_NoAsk xt_NoAsk xs_NoAsk su_Over_NoAsk⟩, fa_nil⟩⟩⟩⟩, ⟨_, PySem.W.mg_of X G ka_MOST_CELLS, _, rfl⟩, ⟨_, PySem.W.mg_of X G ka_MOST_ASKS, _, rfl⟩, ⟨_, PySem.W.mg_of X G ka_TABLE, _, rfl⟩, ⟨_, PySem.W.mg_of X G ka_GREATEST, _, rfl⟩, xt_mk X G ka_SIDES kl_SIDES kv_SIDES (by intro y hy; simp only [con_SIDES, List.mem_cons, List.not_mem_nil, or_false] at hy; rcases hy with rfl | rfl <;> first | exact .inl ⟨_, rfl⟩ | exact .inr ⟨_, rfl⟩) kz_SIDES, ck_Keeper, ck_Shelf, ck_Body, ck_Grove, List.forall_mem_cons.mpr ⟨⟨ck_Grove, rfl⟩, fa_nil⟩, List.forall_mem_cons.mpr ⟨⟨ck_Grove, rfl⟩, fa_nil⟩, List.forall_mem_cons.mpr ⟨⟨ck_Grove, rfl⟩, fa_nil⟩, List.forall_mem_cons.mpr ⟨⟨ck_Body, rfl⟩, fa_nil⟩, List.forall_mem_cons.mpr ⟨⟨ck_Body, rfl⟩, fa_nil⟩, List.forall_mem_cons.mpr ⟨⟨ck_Body, rfl⟩, fa_nil⟩, List.forall_mem_cons.mpr ⟨⟨ck_Grove, rfl⟩, fa_nil⟩, List.forall_mem_cons.mpr ⟨⟨ck_Shelf, rfl⟩, List.forall_mem_cons.mpr ⟨⟨ck_Grove, rfl⟩, fa_nil⟩⟩, List.forall_mem_cons.mpr ⟨⟨ck_Grove, rfl⟩, fa_nil⟩, List.forall_mem_cons.mpr ⟨⟨ck_Keeper, rfl⟩, fa_nil⟩, List.forall_mem_cons.mpr ⟨⟨ck_Grove, rfl⟩, fa_nil⟩, List.forall_mem_cons.mpr ⟨⟨ck_Shelf, rfl⟩, fa_nil⟩, List.forall_mem_cons.mpr ⟨⟨ck_Body, rfl⟩, fa_nil⟩, List.forall_mem_cons.mpr ⟨⟨ck_Grove, rfl⟩, fa_nil⟩, List.forall_mem_cons.mpr ⟨⟨ck_Grove, rfl⟩, fa_nil⟩, List.forall_mem_cons.mpr ⟨⟨ck_Shelf, rfl⟩, fa_nil⟩, keep_mk (k := 1) oa_Keeper ok_Keeper, keep_mk (k := 2) oa_Shelf ok_Shelf, keep_mk (k := 8) oa_Body ok_Body, keep_mk (k := 7) oa_Grove ok_Grove⟩
  have F0 := fun_mk (st := s_law_pool) l0 c0 k0
  have b0 := F0.binds (ps := ["_law_script", "_law_k"]) fun _ _ _ _ _ _ us hl => len_2 (P := fun us => bindArgs _ { pos := us } = pure (List.zip _ us)) (fun _ _ => rfl) us hl
  have F1 := fun_mk (st := s_law_take) l1 c1 k1
  have b1 := F1.binds (ps := ["_law_pool_here", "_law_many_here"]) fun _ _ _ _ _ _ us hl => len_2 (P := fun us => bindArgs _ { pos := us } = pure (List.zip _ us)) (fun _ _ => rfl) us hl
  have F2 := fun_mk (st := s_law_many) l2 c2 k2
  have b2 := F2.binds (ps := ["_law_pool_here"]) fun _ _ _ _ _ _ us hl => len_1 (P := fun us => bindArgs _ { pos := us } = pure (List.zip _ us)) (fun _ => rfl) us hl
  have F3 := fun_mk (st := s_law_models) l3 c3 k3
  have b3 := F3.binds (ps := ["_law_pool_here", "_law_many_here", "_law_crowd"]) fun _ _ _ _ _ _ us hl => len_3 (P := fun us => bindArgs _ { pos := us } = pure (List.zip _ us)) (fun _ _ _ => rfl) us hl
  have F4 := fun_mk (st := s_is_whole) l4 c4 k4
  have b4 := F4.binds (ps := ["thing"]) fun _ _ _ _ _ _ us hl => len_1 (P := fun us => bindArgs _ { pos := us } = pure (List.zip _ us)) (fun _ => rfl) us hl
  have F5 := fun_mk (st := s_is_within) l5 c5 k5
  have b5 := F5.binds (ps := ["thing", "least", "most"]) fun _ _ _ _ _ _ us hl => len_3 (P := fun us => bindArgs _ { pos := us } = pure (List.zip _ us)) (fun _ _ _ => rfl) us hl
  have F6 := fun_mk (st := s_look_at_many) l6 c6 k6
  have b6 := F6.binds (ps := ["many"]) fun _ _ _ _ _ _ us hl => len_1 (P := fun us => bindArgs _ { pos := us } = pure (List.zip _ us)) (fun _ => rfl) us hl
  have F7 := fun_mk (st := s_look_at_sizes) l7 c7 k7
  have b7 := F7.binds (ps := ["many", "most"]) fun _ _ _ _ _ _ us hl => len_2 (P := fun us => bindArgs _ { pos := us } = pure (List.zip _ us)) (fun _ _ => rfl) us hl
  have F8 := fun_mk (st := s_side_of) l8 c8 k8
  have b8 := F8.binds (ps := ["many"]) fun _ _ _ _ _ _ us hl => len_1 (P := fun us => bindArgs _ { pos := us } = pure (List.zip _ us)) (fun _ => rfl) us hl
  have F9 := fun_mk (st := s_spare_needs) l9 c9 k9
  have b9 := F9.binds (ps := ["many", "most"]) fun _ _ _ _ _ _ us hl => len_2 (P := fun us => bindArgs _ { pos := us } = pure (List.zip _ us)) (fun _ _ => rfl) us hl
  have F10 := fun_mk (st := s_high_of) l10 c10 k10
  have b10 := F10.binds (ps := ["many"]) fun _ _ _ _ _ _ us hl => len_1 (P := fun us => bindArgs _ { pos := us } = pure (List.zip _ us)) (fun _ => rfl) us hl
  have F11 := fun_mk (st := s_last_of) l11 c11 k11
  have b11 := F11.binds (ps := ["many"]) fun _ _ _ _ _ _ us hl => len_1 (P := fun us => bindArgs _ { pos := us } = pure (List.zip _ us)) (fun _ => rfl) us hl
  have F12 := fun_mk (st := s_stair_of) l12 c12 k12
  have b12 := F12.binds (ps := ["many", "pour"]) fun _ _ _ _ _ _ us hl => len_2 (P := fun us => bindArgs _ { pos := us } = pure (List.zip _ us)) (fun _ _ => rfl) us hl
  have F13 := fun_mk (st := s_slots_of) l13 c13 k13
  have b13 := F13.binds (ps := ["many", "stair"]) fun _ _ _ _ _ _ us hl => len_2 (P := fun us => bindArgs _ { pos := us } = pure (List.zip _ us)) (fun _ _ => rfl) us hl
  have F14 := fun_mk (st := s_stairs_needs) l14 c14 k14
  have b14 := F14.binds (ps := ["many", "most"]) fun _ _ _ _ _ _ us hl => len_2 (P := fun us => bindArgs _ { pos := us } = pure (List.zip _ us)) (fun _ _ => rfl) us hl
  have F15 := fun_mk (st := s_grove_needs) l15 c15 k15
  have b15 := F15.binds (ps := ["trees", "most"]) fun _ _ _ _ _ _ us hl => len_2 (P := fun us => bindArgs _ { pos := us } = pure (List.zip _ us)) (fun _ _ => rfl) us hl
  have F16 := fun_mk (st := s_trees_of) l16 c16 k16
  have b16 := F16.binds (ps := ["many"]) fun _ _ _ _ _ _ us hl => len_1 (P := fun us => bindArgs _ { pos := us } = pure (List.zip _ us)) (fun _ => rfl) us hl
  have F17 := fun_mk (st := s_kinds_of) l17 c17 k17
  have b17 := F17.binds (ps := ["way", "many", "most"]) fun _ _ _ _ _ _ us hl => len_3 (P := fun us => bindArgs _ { pos := us } = pure (List.zip _ us)) (fun _ _ _ => rfl) us hl
  have F18 := fun_mk (st := s_leaves) l18 c18 k18
  have b18 := F18.binds (ps := ["high"]) fun _ _ _ _ _ _ us hl => len_1 (P := fun us => bindArgs _ { pos := us } = pure (List.zip _ us)) (fun _ => rfl) us hl
  have F19 := fun_mk (st := s_is_row) l19 c19 k19
  have b19 := F19.binds (ps := ["size", "thing"]) fun _ _ _ _ _ _ us hl => len_2 (P := fun us => bindArgs _ { pos := us } = pure (List.zip _ us)) (fun _ _ => rfl) us hl
  have F20 := fun_mk (st := s_is_draw) l20 c20 k20
  have b20 := F20.binds (ps := ["kind", "thing"]) fun _ _ _ _ _ _ us hl => len_2 (P := fun us => bindArgs _ { pos := us } = pure (List.zip _ us)) (fun _ _ => rfl) us hl
  have F21 := fun_mk (st := s_look_at_draws) l21 c21 k21
  have b21 := F21.binds (ps := ["kinds", "thing"]) fun _ _ _ _ _ _ us hl => len_2 (P := fun us => bindArgs _ { pos := us } = pure (List.zip _ us)) (fun _ _ => rfl) us hl
  have F22 := fun_mk (st := s_copied) l22 c22 k22
  have b22 := F22.binds (ps := ["draws"]) fun _ _ _ _ _ _ us hl => len_1 (P := fun us => bindArgs _ { pos := us } = pure (List.zip _ us)) (fun _ => rfl) us hl
  have F23 := fun_mk (st := s_Keeper_init) l23 c23 k23
  have b23 := F23.binds (ps := ["self"]) fun _ _ _ _ _ _ us hl => len_1 (P := fun us => bindArgs _ { pos := us } = pure (List.zip _ us)) (fun _ => rfl) us hl
  have F24 := fun_mk (st := s_Store_init) l24 c24 k24
  have b24 := F24.binds (ps := ["self", "way", "many", "most", "draws"]) fun _ _ _ _ _ _ us hl => len_5 (P := fun us => bindArgs _ { pos := us } = pure (List.zip _ us)) (fun _ _ _ _ _ => rfl) us hl
  have F25 := fun_mk (st := s_Shelf_init) l25 c25 k25
  have b25 := F25.binds (ps := ["self", "keeper", "number", "things"]) fun _ _ _ _ _ _ us hl => len_4 (P := fun us => bindArgs _ { pos := us } = pure (List.zip _ us)) (fun _ _ _ _ => rfl) us hl
  have F26 := fun_mk (st := s_Body_init) l26 c26 k26
  have b26 := F26.binds (ps := ["self", "keeper", "number", "high", "firsts"]) fun _ _ _ _ _ _ us hl => len_5 (P := fun us => bindArgs _ { pos := us } = pure (List.zip _ us)) (fun _ _ _ _ _ => rfl) us hl
  have F27 := fun_mk (st := s_packed) l27 c27 k27
  have b27 := F27.binds (ps := ["leaves", "high"]) fun _ _ _ _ _ _ us hl => len_2 (P := fun us => bindArgs _ { pos := us } = pure (List.zip _ us)) (fun _ _ => rfl) us hl
  have F28 := fun_mk (st := s_words_of) l28 c28 k28
  have b28 := F28.binds (ps := ["leaves", "high"]) fun _ _ _ _ _ _ us hl => len_2 (P := fun us => bindArgs _ { pos := us } = pure (List.zip _ us)) (fun _ _ => rfl) us hl
  have F29 := fun_mk (st := s_Grove_init) l29 c29 k29
  have b29 := F29.binds (ps := ["self", "many", "most", "draws"]) fun _ _ _ _ _ _ us hl => len_4 (P := fun us => bindArgs _ { pos := us } = pure (List.zip _ us)) (fun _ _ _ _ => rfl) us hl
  have F30 := fun_mk (st := s_law_word) l30 c30 k30
  have b30 := F30.binds (ps := ["_law_pool_here"]) fun _ _ _ _ _ _ us hl => len_1 (P := fun us => bindArgs _ { pos := us } = pure (List.zip _ us)) (fun _ => rfl) us hl
  have F31 := fun_mk (st := s_law_ask) l31 c31 k31
  have b31 := F31.binds (ps := ["_law_pool_here", "_law_many_here"]) fun _ _ _ _ _ _ us hl => len_2 (P := fun us => bindArgs _ { pos := us } = pure (List.zip _ us)) (fun _ _ => rfl) us hl
  have F32 := fun_mk (st := s_is_ask) l32 c32 k32
  have b32 := F32.binds (ps := ["many", "thing"]) fun _ _ _ _ _ _ us hl => len_2 (P := fun us => bindArgs _ { pos := us } = pure (List.zip _ us)) (fun _ _ => rfl) us hl
  have F33 := fun_mk (st := s_need_ask) l33 c33 k33
  have b33 := F33.binds (ps := ["many", "thing"]) fun _ _ _ _ _ _ us hl => len_2 (P := fun us => bindArgs _ { pos := us } = pure (List.zip _ us)) (fun _ _ => rfl) us hl
  have F34 := fun_mk (st := s_Store_left) l34 c34 k34
  have b34 := F34.binds (ps := ["self"]) fun _ _ _ _ _ _ us hl => len_1 (P := fun us => bindArgs _ { pos := us } = pure (List.zip _ us)) (fun _ => rfl) us hl
  have F35 := fun_mk (st := s_Grove_fresh) l35 c35 k35
  have b35 := F35.binds (ps := ["self", "number"]) fun _ _ _ _ _ _ us hl => len_2 (P := fun us => bindArgs _ { pos := us } = pure (List.zip _ us)) (fun _ _ => rfl) us hl
  have F36 := fun_mk (st := s_Shelf_need_room) l36 c36 k36
  have b36 := F36.binds (ps := ["self", "room"]) fun _ _ _ _ _ _ us hl => len_2 (P := fun us => bindArgs _ { pos := us } = pure (List.zip _ us)) (fun _ _ => rfl) us hl
  have F37 := fun_mk (st := s_Keeper_sees) l37 c37 k37
  have b37 := F37.binds (ps := ["self", "deed", "shelf", "room"]) fun _ _ _ _ _ _ us hl => len_4 (P := fun us => bindArgs _ { pos := us } = pure (List.zip _ us)) (fun _ _ _ _ => rfl) us hl
  have F38 := fun_mk (st := s_Shelf_look) l38 c38 k38
  have b38 := F38.binds (ps := ["self", "room"]) fun _ _ _ _ _ _ us hl => len_2 (P := fun us => bindArgs _ { pos := us } = pure (List.zip _ us)) (fun _ _ => rfl) us hl
  have F39 := fun_mk (st := s_node_at) l39 c39 k39
  have b39 := F39.binds (ps := ["high", "depth", "leaf"]) fun _ _ _ _ _ _ us hl => len_3 (P := fun us => bindArgs _ { pos := us } = pure (List.zip _ us)) (fun _ _ _ => rfl) us hl
  have F40 := fun_mk (st := s_room_of) l40 c40 k40
  have b40 := F40.binds (ps := ["node", "side"]) fun _ _ _ _ _ _ us hl => len_2 (P := fun us => bindArgs _ { pos := us } = pure (List.zip _ us)) (fun _ _ => rfl) us hl
  have F41 := fun_mk (st := s_Body_look_way) l41 c41 k41
  have b41 := F41.binds (ps := ["self", "leaf"]) fun _ _ _ _ _ _ us hl => len_2 (P := fun us => bindArgs _ { pos := us } = pure (List.zip _ us)) (fun _ _ => rfl) us hl
  have F42 := fun_mk (st := s_Body_word_of) l42 c42 k42
  have b42 := F42.binds (ps := ["self", "cell"]) fun _ _ _ _ _ _ us hl => len_2 (P := fun us => bindArgs _ { pos := us } = pure (List.zip _ us)) (fun _ _ => rfl) us hl
  have F43 := fun_mk (st := s_Body_keep) l43 c43 k43
  have b43 := F43.binds (ps := ["self", "cell", "word", "leaf"]) fun _ _ _ _ _ _ us hl => len_4 (P := fun us => bindArgs _ { pos := us } = pure (List.zip _ us)) (fun _ _ _ _ => rfl) us hl
  have F44 := fun_mk (st := s_leaf_in) l44 c44 k44
  have b44 := F44.binds (ps := ["word", "high", "place"]) fun _ _ _ _ _ _ us hl => len_3 (P := fun us => bindArgs _ { pos := us } = pure (List.zip _ us)) (fun _ _ _ => rfl) us hl
  have F45 := fun_mk (st := s_with_leaf) l45 c45 k45
  have b45 := F45.binds (ps := ["word", "high", "place", "leaf"]) fun _ _ _ _ _ _ us hl => len_4 (P := fun us => bindArgs _ { pos := us } = pure (List.zip _ us)) (fun _ _ _ _ => rfl) us hl
  have F46 := fun_mk (st := s_Body_fitting) l46 c46 k46
  have b46 := F46.binds (ps := ["self", "depth", "node"]) fun _ _ _ _ _ _ us hl => len_3 (P := fun us => bindArgs _ { pos := us } = pure (List.zip _ us)) (fun _ _ _ => rfl) us hl
  have F47 := fun_mk (st := s_Shelf_lay) l47 c47 k47
  have b47 := F47.binds (ps := ["self", "room", "thing"]) fun _ _ _ _ _ _ us hl => len_3 (P := fun us => bindArgs _ { pos := us } = pure (List.zip _ us)) (fun _ _ _ => rfl) us hl
  have F48 := fun_mk (st := s_Body_lay_way) l48 c48 k48
  have b48 := F48.binds (ps := ["self", "leaf"]) fun _ _ _ _ _ _ us hl => len_2 (P := fun us => bindArgs _ { pos := us } = pure (List.zip _ us)) (fun _ _ => rfl) us hl
  have F49 := fun_mk (st := s_Grove_passed) l49 c49 k49
  have b49 := F49.binds (ps := ["self", "number", "cell", "leaf"]) fun _ _ _ _ _ _ us hl => len_4 (P := fun us => bindArgs _ { pos := us } = pure (List.zip _ us)) (fun _ _ _ _ => rfl) us hl
  have F50 := fun_mk (st := s_Grove_answered) l50 c50 k50
  have b50 := F50.binds (ps := ["self", "cell", "word"]) fun _ _ _ _ _ _ us hl => len_3 (P := fun us => bindArgs _ { pos := us } = pure (List.zip _ us)) (fun _ _ _ => rfl) us hl
  have F51 := fun_mk (st := s_word_asked) l51 c51 k51
  have b51 := F51.binds (ps := ["deed"]) fun _ _ _ _ _ _ us hl => len_1 (P := fun us => bindArgs _ { pos := us } = pure (List.zip _ us)) (fun _ => rfl) us hl
  have F52 := fun_mk (st := s_Store_ask) l52 c52 k52
  have b52 := F52.binds (ps := ["self", "deed"]) fun _ _ _ _ _ _ us hl => len_2 (P := fun us => bindArgs _ { pos := us } = pure (List.zip _ us)) (fun _ _ => rfl) us hl
  have F53 := fun_mk (st := s_law_refused) l53 c53 k53
  have b53 := F53.binds (ps := ["_law_pool_here", "_law_grove", "_law_many_here"]) fun _ _ _ _ _ _ us hl => len_3 (P := fun us => bindArgs _ { pos := us } = pure (List.zip _ us)) (fun _ _ _ => rfl) us hl
  have F54 := fun_mk (st := s_law_nodes) l54 c54 k54
  have b54 := F54.binds (ps := ["_law_high", "_law_leaf"]) fun _ _ _ _ _ _ us hl => len_2 (P := fun us => bindArgs _ { pos := us } = pure (List.zip _ us)) (fun _ _ => rfl) us hl
  have F55 := fun_mk (st := s_law_touches) l55 c55 k55
  have b55 := F55.binds (ps := ["_law_shelf", "_law_high", "_law_leaf"]) fun _ _ _ _ _ _ us hl => len_3 (P := fun us => bindArgs _ { pos := us } = pure (List.zip _ us)) (fun _ _ _ => rfl) us hl
  have F56 := fun_mk (st := s_law_go) l56 c56 k56
  have b56 := F56.binds (ps := ["_law_model", "_law_cell", "_law_fresh"]) fun _ _ _ _ _ _ us hl => len_3 (P := fun us => bindArgs _ { pos := us } = pure (List.zip _ us)) (fun _ _ _ => rfl) us hl
  have F57 := fun_mk (st := s_Body_cells_in_hand) l57 c57 k57
  have b57 := F57.binds (ps := ["self"]) fun _ _ _ _ _ _ us hl => len_1 (P := fun us => bindArgs _ { pos := us } = pure (List.zip _ us)) (fun _ => rfl) us hl
  have F58 := fun_mk (st := s_Grove_pocket) l58 c58 k58
  have b58 := F58.binds (ps := ["self"]) fun _ _ _ _ _ _ us hl => len_1 (P := fun us => bindArgs _ { pos := us } = pure (List.zip _ us)) (fun _ => rfl) us hl
  have F59 := fun_mk (st := s_law_hand) l59 c59 k59
  have b59 := F59.binds (ps := ["_law_model"]) fun _ _ _ _ _ _ us hl => len_1 (P := fun us => bindArgs _ { pos := us } = pure (List.zip _ us)) (fun _ => rfl) us hl
  have F60 := fun_mk (st := s_law_whole) l60 c60 k60
  have b60 := F60.binds (ps := ["_law_found"]) fun _ _ _ _ _ _ us hl => len_1 (P := fun us => bindArgs _ { pos := us } = pure (List.zip _ us)) (fun _ => rfl) us hl
  have F61 := fun_mk (st := s_law_pockets_right) l61 c61 k61
  have b61 := F61.binds (ps := ["_law_grove", "_law_models_here"]) fun _ _ _ _ _ _ us hl => len_2 (P := fun us => bindArgs _ { pos := us } = pure (List.zip _ us)) (fun _ _ => rfl) us hl
  have F62 := fun_mk (st := s_Keeper_seen) l62 c62 k62
  have b62 := F62.binds (ps := ["self"]) fun _ _ _ _ _ _ us hl => len_1 (P := fun us => bindArgs _ { pos := us } = pure (List.zip _ us)) (fun _ => rfl) us hl
  have F63 := fun_mk (st := s_Store_touches) l63 c63 k63
  have b63 := F63.binds (ps := ["self"]) fun _ _ _ _ _ _ us hl => len_1 (P := fun us => bindArgs _ { pos := us } = pure (List.zip _ us)) (fun _ => rfl) us hl
  have F64 := fun_mk (st := s_law) l64 c64 k64
  have b64 := F64.binds (ps := ["_law_script"]) fun _ _ _ _ _ _ us hl => len_1 (P := fun us => bindArgs _ { pos := us } = pure (List.zip _ us)) (fun _ => rfl) us hl
  refine ⟨PySem.W.fnOf "law" "law" (defArgs s_law) (defBody s_law) (defScope s_law) .none kV64 dc64 pm64 an64 cd64 ct64, fun s v => .of_eq rfl, fun base _ _ => ?_⟩
  have D_law_pool := df_law_pool (P := l.prog) (w := w) (base := base) B C F0 b0 (PySem.W.mg_of X G a0) 
  have D_law_take := df_law_take (P := l.prog) (w := w) (base := base) B C F1 b1 (PySem.W.mg_of X G a1) 
  have D_law_many := df_law_many (P := l.prog) (w := w) (base := base) B C F2 b2 (PySem.W.mg_of X G a2) D_law_take
  have D_law_models := df_law_models (P := l.prog) (w := w) (base := base) B C F3 b3 (PySem.W.mg_of X G a3) D_law_take
  have D_is_whole := df_is_whole (P := l.prog) (w := w) (base := base) B C F4 b4 (PySem.W.mg_of X G a4) 
  have D_is_within := df_is_within (P := l.prog) (w := w) (base := base) B C F5 b5 (PySem.W.mg_of X G a5) D_is_whole
  have D_look_at_many := df_look_at_many (P := l.prog) (w := w) (base := base) B C F6 b6 (PySem.W.mg_of X G a6) D_is_within
  have D_look_at_sizes := df_look_at_sizes (P := l.prog) (w := w) (base := base) B C F7 b7 (PySem.W.mg_of X G a7) D_look_at_many D_is_within
  have D_side_of := df_side_of (P := l.prog) (w := w) (base := base) B C F8 b8 (PySem.W.mg_of X G a8) 
  have D_spare_needs := df_spare_needs (P := l.prog) (w := w) (base := base) B C F9 b9 (PySem.W.mg_of X G a9) D_side_of
  have D_high_of := df_high_of (P := l.prog) (w := w) (base := base) B C F10 b10 (PySem.W.mg_of X G a10) 
  have D_last_of := df_last_of (P := l.prog) (w := w) (base := base) B C F11 b11 (PySem.W.mg_of X G a11) D_high_of
  have D_stair_of := df_stair_of (P := l.prog) (w := w) (base := base) B C F12 b12 (PySem.W.mg_of X G a12) D_last_of
  have D_slots_of := df_slots_of (P := l.prog) (w := w) (base := base) B C F13 b13 (PySem.W.mg_of X G a13) D_last_of
  have D_stairs_needs := df_stairs_needs (P := l.prog) (w := w) (base := base) B C F14 b14 (PySem.W.mg_of X G a14) D_last_of D_stair_of D_slots_of
  have D_grove_needs := df_grove_needs (P := l.prog) (w := w) (base := base) B C F15 b15 (PySem.W.mg_of X G a15) D_high_of
  have D_trees_of := df_trees_of (P := l.prog) (w := w) (base := base) B C F16 b16 (PySem.W.mg_of X G a16) 
  have D_kinds_of := df_kinds_of (P := l.prog) (w := w) (base := base) B C F17 b17 (PySem.W.mg_of X G a17) D_spare_needs D_stairs_needs D_grove_needs D_trees_of
  have D_leaves := df_leaves (P := l.prog) (w := w) (base := base) B C F18 b18 (PySem.W.mg_of X G a18) 
  have D_is_row := df_is_row (P := l.prog) (w := w) (base := base) B C F19 b19 (PySem.W.mg_of X G a19) D_is_within
  have D_is_draw := df_is_draw (P := l.prog) (w := w) (base := base) B C F20 b20 (PySem.W.mg_of X G a20) D_leaves D_is_within D_is_row
  have D_look_at_draws := df_look_at_draws (P := l.prog) (w := w) (base := base) B C F21 b21 (PySem.W.mg_of X G a21) D_is_draw
  have D_copied := df_copied (P := l.prog) (w := w) (base := base) B C F22 b22 (PySem.W.mg_of X G a22) 
  have G23 := fo_Keeper_init (P := l.prog) (w := w) (base := base) B C F23 
  have N_Keeper : CDef l.prog w K mg base 1 1 "Keeper" (S_Keeper_init K) := cd_mk (k := 1) (x := "Keeper") rfl oa_Keeper (PySem.W.mg_of X G oa_Keeper) G23 om_Keeper oi_Keeper a23 ok_Keeper b23
  have G24 := fo_Store_init (P := l.prog) (w := w) (base := base) B C F24 D_look_at_sizes D_kinds_of D_look_at_draws D_copied N_Keeper
  have G25 := fo_Shelf_init (P := l.prog) (w := w) (base := base) B C F25 
  have N_Shelf : CDef l.prog w K mg base 1 2 "Shelf" (S_Shelf_init K) := cd_mk (k := 2) (x := "Shelf") rfl oa_Shelf (PySem.W.mg_of X G oa_Shelf) G25 om_Shelf oi_Shelf a25 ok_Shelf b25
  have G26 := fo_Body_init (P := l.prog) (w := w) (base := base) B C F26 N_Shelf
  have D_packed := df_packed (P := l.prog) (w := w) (base := base) B C F27 b27 (PySem.W.mg_of X G a27) 
  have D_words_of := df_words_of (P := l.prog) (w := w) (base := base) B C F28 b28 (PySem.W.mg_of X G a28) D_packed
  have N_Body : CDef l.prog w K mg base 3 8 "Body" (S_Body_init K) := cd_mk (k := 8) (x := "Body") rfl oa_Body (PySem.W.mg_of X G oa_Body) G26 om_Body oi_Body a26 ok_Body b26
  have F_Store_init : FDef l.prog w K mg base 6 "Store" "__init__" (S_Store_init K) := fd_mk oa_Store (PySem.W.mg_of X G oa_Store) G24 oc_Store___init__ b24 F24.kp or_Store og_Store
  have G29 := fo_Grove_init (P := l.prog) (w := w) (base := base) B C F29 D_trees_of D_high_of D_words_of N_Body F_Store_init
  have D_law_word := df_law_word (P := l.prog) (w := w) (base := base) B C F30 b30 (PySem.W.mg_of X G a30) D_law_take
  have D_law_ask := df_law_ask (P := l.prog) (w := w) (base := base) B C F31 b31 (PySem.W.mg_of X G a31) D_law_take D_law_word
  have D_is_ask := df_is_ask (P := l.prog) (w := w) (base := base) B C F32 b32 (PySem.W.mg_of X G a32) D_is_within
  have D_need_ask := df_need_ask (P := l.prog) (w := w) (base := base) B C F33 b33 (PySem.W.mg_of X G a33) D_is_ask
  have G34 := fo_Store_left (P := l.prog) (w := w) (base := base) B C F34 
  have G35 := fo_Grove_fresh (P := l.prog) (w := w) (base := base) B C F35 
  have G36 := fo_Shelf_need_room (P := l.prog) (w := w) (base := base) B C F36 D_is_within
  have G37 := fo_Keeper_sees (P := l.prog) (w := w) (base := base) B C F37 
  have M_need_room : ∀ p ∈ tabM_need_room K, MDef l.prog w K mg base 3 p.1 "need_room" p.2 := List.forall_mem_cons.mpr ⟨md_mk (k := 2) oa_Shelf (G36.mono (by decide)) of_Shelf_need_room a36 F36.kp b36 ck_Shelf (by decide +kernel), fa_nil⟩
  have M_sees : ∀ p ∈ tabM_sees K, MDef l.prog w K mg base 1 p.1 "sees" p.2 := List.forall_mem_cons.mpr ⟨md_mk (k := 1) oa_Keeper (G37.mono (by decide)) of_Keeper_sees a37 F37.kp b37 ck_Keeper (by decide +kernel), fa_nil⟩
  have G38 := fo_Shelf_look (P := l.prog) (w := w) (base := base) B C F38 M_need_room M_sees
  have D_node_at := df_node_at (P := l.prog) (w := w) (base := base) B C F39 b39 (PySem.W.mg_of X G a39) 
  have D_room_of := df_room_of (P := l.prog) (w := w) (base := base) B C F40 b40 (PySem.W.mg_of X G a40) 
  have M_look : ∀ p ∈ tabM_look K, MDef l.prog w K mg base 4 p.1 "look" p.2 := List.forall_mem_cons.mpr ⟨md_mk (k := 2) oa_Shelf (G38.mono (by decide)) of_Shelf_look a38 F38.kp b38 ck_Shelf (by decide +kernel), fa_nil⟩
  have G41 := fo_Body_look_way (P := l.prog) (w := w) (base := base) B C F41 D_node_at D_room_of M_look
  have G42 := fo_Body_word_of (P := l.prog) (w := w) (base := base) B C F42 
  have G43 := fo_Body_keep (P := l.prog) (w := w) (base := base) B C F43 
  have D_leaf_in := df_leaf_in (P := l.prog) (w := w) (base := base) B C F44 b44 (PySem.W.mg_of X G a44) 
  have D_with_leaf := df_with_leaf (P := l.prog) (w := w) (base := base) B C F45 b45 (PySem.W.mg_of X G a45) D_leaf_in
  have G46 := fo_Body_fitting (P := l.prog) (w := w) (base := base) B C F46 D_node_at
  have G47 := fo_Shelf_lay (P := l.prog) (w := w) (base := base) B C F47 M_need_room M_sees
  have M_fitting : ∀ p ∈ tabM_fitting K, MDef l.prog w K mg base 2 p.1 "fitting" p.2 := List.forall_mem_cons.mpr ⟨md_mk (k := 8) oa_Body (G46.mono (by decide)) of_Body_fitting a46 F46.kp b46 ck_Body (by decide +kernel), fa_nil⟩
  have M_lay : ∀ p ∈ tabM_lay K, MDef l.prog w K mg base 4 p.1 "lay" p.2 := List.forall_mem_cons.mpr ⟨md_mk (k := 2) oa_Shelf (G47.mono (by decide)) of_Shelf_lay a47 F47.kp b47 ck_Shelf (by decide +kernel), fa_nil⟩
  have G48 := fo_Body_lay_way (P := l.prog) (w := w) (base := base) B C F48 D_node_at D_room_of M_fitting M_lay
  have M_look_way : ∀ p ∈ tabM_look_way K, MDef l.prog w K mg base 5 p.1 "look_way" p.2 := List.forall_mem_cons.mpr ⟨md_mk (k := 8) oa_Body (G41.mono (by decide)) of_Body_look_way a41 F41.kp b41 ck_Body (by decide +kernel), fa_nil⟩
  have M_word_of : ∀ p ∈ tabM_word_of K, MDef l.prog w K mg base 1 p.1 "word_of" p.2 := List.forall_mem_cons.mpr ⟨md_mk (k := 8) oa_Body (G42.mono (by decide)) of_Body_word_of a42 F42.kp b42 ck_Body (by decide +kernel), fa_nil⟩
  have M_keep : ∀ p ∈ tabM_keep K, MDef l.prog w K mg base 1 p.1 "keep" p.2 := List.forall_mem_cons.mpr ⟨md_mk (k := 8) oa_Body (G43.mono (by decide)) of_Body_keep a43 F43.kp b43 ck_Body (by decide +kernel), fa_nil⟩
  have M_fresh : ∀ p ∈ tabM_fresh K, MDef l.prog w K mg base 1 p.1 "fresh" p.2 := List.forall_mem_cons.mpr ⟨md_mk (k := 7) oa_Grove (G35.mono (by decide)) of_Grove_fresh a35 F35.kp b35 ck_Grove (by decide +kernel), fa_nil⟩
  have M_lay_way : ∀ p ∈ tabM_lay_way K, MDef l.prog w K mg base 5 p.1 "lay_way" p.2 := List.forall_mem_cons.mpr ⟨md_mk (k := 8) oa_Body (G48.mono (by decide)) of_Body_lay_way a48 F48.kp b48 ck_Body (by decide +kernel), fa_nil⟩
  have G49 := fo_Grove_passed (P := l.prog) (w := w) (base := base) B C F49 D_with_leaf D_leaf_in M_look_way M_word_of M_keep M_fresh M_lay_way
  have M_passed : ∀ p ∈ tabM_passed K, MDef l.prog w K mg base 6 p.1 "passed" p.2 := List.forall_mem_cons.mpr ⟨md_mk (k := 7) oa_Grove (G49.mono (by decide)) of_Grove_passed a49 F49.kp b49 ck_Grove (by decide +kernel), fa_nil⟩
  have G50 := fo_Grove_answered (P := l.prog) (w := w) (base := base) B C F50 M_fresh M_passed M_look_way M_word_of M_keep M_lay_way
  have D_word_asked := df_word_asked (P := l.prog) (w := w) (base := base) B C F51 b51 (PySem.W.mg_of X G a51) 
  have M_left : ∀ p ∈ tabM_left K, MDef l.prog w K mg base 1 p.1 "left" p.2 := List.forall_mem_cons.mpr ⟨md_mk (k := 7) oa_Grove (G34.mono (by decide)) of_Grove_left a34 F34.kp b34 ck_Grove (by decide +kernel), fa_nil⟩
  have M_answered : ∀ p ∈ tabM_answered K, MDef l.prog w K mg base 7 p.1 "answered" p.2 := List.forall_mem_cons.mpr ⟨md_mk (k := 7) oa_Grove (G50.mono (by decide)) of_Grove_answered a50 F50.kp b50 ck_Grove (by decide +kernel), fa_nil⟩
  have G52 := fo_Store_ask (P := l.prog) (w := w) (base := base) B C F52 D_need_ask D_word_asked M_left M_answered
  have M_ask : ∀ p ∈ tabM_ask K, MDef l.prog w K mg base 8 p.1 "ask" p.2 := List.forall_mem_cons.mpr ⟨md_mk (k := 7) oa_Grove (G52.mono (by decide)) of_Grove_ask a52 F52.kp b52 ck_Grove (by decide +kernel), fa_nil⟩
  have D_law_refused := df_law_refused (P := l.prog) (w := w) (base := base) B C F53 b53 (PySem.W.mg_of X G a53) D_law_take M_ask
  have D_law_nodes := df_law_nodes (P := l.prog) (w := w) (base := base) B C F54 b54 (PySem.W.mg_of X G a54) 
  have D_law_touches := df_law_touches (P := l.prog) (w := w) (base := base) B C F55 b55 (PySem.W.mg_of X G a55) D_law_nodes
  have D_law_go := df_law_go (P := l.prog) (w := w) (base := base) B C F56 b56 (PySem.W.mg_of X G a56) D_law_nodes
  have G57 := fo_Body_cells_in_hand (P := l.prog) (w := w) (base := base) B C F57 
  have M_cells_in_hand : ∀ p ∈ tabM_cells_in_hand K, MDef l.prog w K mg base 1 p.1 "cells_in_hand" p.2 := List.forall_mem_cons.mpr ⟨md_mk (k := 8) oa_Body (G57.mono (by decide)) of_Body_cells_in_hand a57 F57.kp b57 ck_Body (by decide +kernel), fa_nil⟩
  have G58 := fo_Grove_pocket (P := l.prog) (w := w) (base := base) B C F58 M_cells_in_hand
  have D_law_hand := df_law_hand (P := l.prog) (w := w) (base := base) B C F59 b59 (PySem.W.mg_of X G a59) 
  have D_law_whole := df_law_whole (P := l.prog) (w := w) (base := base) B C F60 b60 (PySem.W.mg_of X G a60) 
  have M_pocket : ∀ p ∈ tabM_pocket K, MDef l.prog w K mg base 2 p.1 "pocket" p.2 := List.forall_mem_cons.mpr ⟨md_mk (k := 7) oa_Grove (G58.mono (by decide)) of_Grove_pocket a58 F58.kp b58 ck_Grove (by decide +kernel), fa_nil⟩
  have D_law_pockets_right := df_law_pockets_right (P := l.prog) (w := w) (base := base) B C F61 b61 (PySem.W.mg_of X G a61) D_law_hand D_law_whole M_pocket
  have G62 := fo_Keeper_seen (P := l.prog) (w := w) (base := base) B C F62 
  have M_seen : ∀ p ∈ tabM_seen K, MDef l.prog w K mg base 1 p.1 "seen" p.2 := List.forall_mem_cons.mpr ⟨md_mk (k := 1) oa_Keeper (G62.mono (by decide)) of_Keeper_seen a62 F62.kp b62 ck_Keeper (by decide +kernel), fa_nil⟩
  have G63 := fo_Store_touches (P := l.prog) (w := w) (base := base) B C F63 M_seen
  have N_Grove : CDef l.prog w K mg base 7 7 "Grove" (S_Grove_init K) := cd_mk (k := 7) (x := "Grove") rfl oa_Grove (PySem.W.mg_of X G oa_Grove) G29 om_Grove oi_Grove a29 ok_Grove b29
  have M_touches : ∀ p ∈ tabM_touches K, MDef l.prog w K mg base 2 p.1 "touches" p.2 := List.forall_mem_cons.mpr ⟨md_mk (k := 7) oa_Grove (G63.mono (by decide)) of_Grove_touches a63 F63.kp b63 ck_Grove (by decide +kernel), fa_nil⟩
  exact fo_law (P := l.prog) (w := w) (base := base) B C F64 D_law_pool D_law_many D_law_take D_law_models D_law_ask D_law_refused D_law_touches D_law_go D_law_pockets_right N_Grove M_ask M_touches
end BT
def PySem.W.Fast.tw13817823729737535008 := 0
def PySem.W.Fast.tw4695355810699872194 := 0
def PySem.W.Fast.tw13761633241106242820 := 0
def PySem.W.Fast.tw1821199722346016165 := 0
def PySem.W.Fast.tw6165951083116233830 := 0
def PySem.W.Fast.tw3854980468884025991 := 0
def PySem.W.Fast.tw14541986333447542250 := 0
def PySem.W.Fast.tw15851207369110494059 := 0
def PySem.W.Fast.tw9922124616345678892 := 0
def PySem.W.Fast.tw12936702743122064845 := 0
def PySem.W.Fast.tw8240688218770024910 := 0
def PySem.W.Fast.tw13591019640446588910 := 0
def PySem.W.Fast.tw3701522905215655280 := 0
def PySem.W.Fast.tw7933927869823867249 := 0
def PySem.W.Fast.tw6917171443812621745 := 0
def PySem.W.Fast.tw16205136521967202454 := 0
def PySem.W.Fast.tw10805134884738314266 := 0
def PySem.W.Fast.tw4850863641530938650 := 0
def PySem.W.Fast.tw660644405260811546 := 0
def PySem.W.Fast.tw1618589360671079933 := 0
def PySem.W.Fast.tw3206425124596221407 := 0
open PySem PySem.W PyProof.Rows
set_option maxHeartbeats 0 in
theorem PySem.Challenge.cw_blindtouch_k43_whole_groves_by_a_model_holds : PySem.Challenge.rw_blindtouch_k43_whole_groves_by_a_model.Holds := by
  w_on; o_law; k_head; (case hw => w_witness2)
  k_fill
  refine L2.walk_of (l := PySem.Challenge.rw_blindtouch_k43_whole_groves_by_a_model) (n := 63) (k := 10) (x := "_law_script") (CX := fun w => L2.CX (PySem.Challenge.rw_blindtouch_k43_whole_groves_by_a_model).prog w) (sp := fun w => BT.lift (BT.S_law _)) rfl (by decide) rfl ⟨rfl, by decide, by decide⟩ (fun w h Y => PySem.W.kIn_of Y) ?F (fun _ H a ns hl _ hS => BT.law_start hl hS) (fun _ _ _ _ _ h => BT.cx_none h)
  case F =>
    intro w mg fa h KX G hmg
    refine' BT.all_mk KX G hmg ?a0 ?l0 ?c0 ?k0 ?a1 ?l1 ?c1 ?k1 ?a2 ?l2 ?c2 ?k2 ?a3 ?l3 ?c3 ?k3 ?a4 ?l4 ?c4 ?k4 ?a5 ?l5 ?c5 ?k5 ?a6 ?l6 ?c6 ?k6 ?a7 ?l7 ?c7 ?k7 ?a8 ?l8 ?c8 ?k8 ?a9 ?l9 ?c9 ?k9 ?a10 ?l10 ?c10 ?k10 ?a11 ?l11 ?c11 ?k11 ?a12 ?l12 ?c12 ?k12 ?a13 ?l13 ?c13 ?k13 ?a14 ?l14 ?c14 ?k14 ?a15 ?l15 ?c15 ?k15 ?a16 ?l16 ?c16 ?k16 ?a17 ?l17 ?c17 ?k17 ?a18 ?l18 ?c18 ?k18 ?a19 ?l19 ?c19 ?k19 ?a20 ?l20 ?c20 ?k20 ?a21 ?l21 ?c21 ?k21 ?a22 ?l22 ?c22 ?k22 ?a23 ?l23 ?c23 ?k23 ?a24 ?l24 ?c24 ?k24 ?a25 ?l25 ?c25 ?k25 ?a26 ?l26 ?c26 ?k26 ?a27 ?l27 ?c27 ?k27 ?a28 ?l28 ?c28 ?k28 ?a29 ?l29 ?c29 ?k29 ?a30 ?l30 ?c30 ?k30 ?a31 ?l31 ?c31 ?k31 ?a32 ?l32 ?c32 ?k32 ?a33 ?l33 ?c33 ?k33 ?a34 ?l34 ?c34 ?k34 ?a35 ?l35 ?c35 ?k35 ?a36 ?l36 ?c36 ?k36 ?a37 ?l37 ?c37 ?k37 ?a38 ?l38 ?c38 ?k38 ?a39 ?l39 ?c39 ?k39 ?a40 ?l40 ?c40 ?k40 ?a41 ?l41 ?c41 ?k41 ?a42 ?l42 ?c42 ?k42 ?a43 ?l43 ?c43 ?k43 ?a44 ?l44 ?c44 ?k44 ?a45 ?l45 ?c45 ?k45 ?a46 ?l46 ?c46 ?k46 ?a47 ?l47 ?c47 ?k47 ?a48 ?l48 ?c48 ?k48 ?a49 ?l49 ?c49 ?k49 ?a50 ?l50 ?c50 ?k50 ?a51 ?l51 ?c51 ?k51 ?a52 ?l52 ?c52 ?k52 ?a53 ?l53 ?c53 ?k53 ?a54 ?l54 ?c54 ?k54 ?a55 ?l55 ?c55 ?k55 ?a56 ?l56 ?c56 ?k56 ?a57 ?l57 ?c57 ?k57 ?a58 ?l58 ?c58 ?k58 ?a59 ?l59 ?c59 ?k59 ?a60 ?l60 ?c60 ?k60 ?a61 ?l61 ?c61 ?k61 ?a62 ?l62 ?c62 ?k62 ?a63 ?l63 ?c63 ?k63 ?a64 ?l64 ?c64 ?k64 ?z_all ?z_bool ?z_enumerate ?z_int ?z_isinstance ?z_len ?z_list ?z_max ?z_min ?z_range ?z_reversed ?z_sorted ?z_sum ?z_tuple ?xa_TouchError ?xk_TouchError ?xb_TouchError ?xt_TouchError ?x4_TouchError ?xa_NoRoom ?xk_NoRoom ?xx_NoRoom ?xb_NoRoom ?xt_NoRoom ?x4_NoRoom ?x1_NoRoom ?x2_NoRoom ?x5_NoRoom ?x8_NoRoom ?xa_NoAsk ?xk_NoAsk ?xx_NoAsk ?xb_NoAsk ?xt_NoAsk ?x4_NoAsk ?xs_NoAsk ?x1_NoAsk ?x2_NoAsk ?x5_NoAsk ?x8_NoAsk ?xa_NoSize ?xk_NoSize ?xx_NoSize ?xb_NoSize ?xt_NoSize ?x4_NoSize ?x1_NoSize ?x2_NoSize ?x5_NoSize ?x8_NoSize ?xa_Over ?xk_Over ?xx_Over ?xb_Over ?xt_Over ?x4_Over ?x1_Over ?x2_Over ?x5_Over ?x8_Over ?x6 ?x7 ?ni_NoAsk ?su_NoRoom_NoAsk ?su_NoAsk_NoAsk ?su_NoSize_NoAsk ?su_Over_NoAsk ?su_NoRoom_TouchError ?su_NoAsk_TouchError ?su_NoSize_TouchError ?su_Over_TouchError ?ka_MOST_CELLS ?ka_MOST_ASKS ?ka_TABLE ?ka_GREATEST ?ka_SIDES ?kl_SIDES ?kv_SIDES ?kz_SIDES ?oa_Keeper ?oa_Shelf ?oa_Body ?oa_Grove ?oa_Store ?o1_Keeper ?o2_Keeper ?o3_Keeper ?o4_Keeper ?on_Keeper_log ?o1_Shelf ?o2_Shelf ?o3_Shelf ?o4_Shelf ?on_Shelf_keeper ?on_Shelf_number ?on_Shelf_things ?o1_Body ?o2_Body ?o3_Body ?o4_Body ?on_Body_shelf ?on_Body_high ?on_Body_firsts ?on_Body_hand ?o1_Grove ?o2_Grove ?o3_Grove ?o4_Grove ?on_Grove_cells ?on_Grove_limit ?on_Grove_draws ?on_Grove_keeper ?on_Grove_made ?on_Grove_highs ?on_Grove_bodies ?on_Grove_start ?on_Grove_table ?om_Keeper ?ok_Keeper ?oi_Keeper ?om_Shelf ?ok_Shelf ?oi_Shelf ?om_Body ?ok_Body ?oi_Body ?om_Grove ?ok_Grove ?oi_Grove ?of_Grove_answered ?of_Grove_ask ?of_Body_cells_in_hand ?of_Body_fitting ?of_Grove_fresh ?of_Body_keep ?of_Shelf_lay ?of_Body_lay_way ?of_Grove_left ?of_Shelf_look ?of_Body_look_way ?of_Shelf_need_room ?of_Grove_passed ?of_Grove_pocket ?of_Keeper_seen ?of_Keeper_sees ?of_Grove_touches ?of_Body_word_of ?or_Store ?og_Store ?oc_Store___init__
    (case oa_Keeper => k_is); (case oa_Shelf => k_is); (case oa_Body => k_is); (case oa_Grove => k_is); (case oa_Store => k_is); (case oi_Keeper => k_is); (case oi_Shelf => k_is); (case oi_Body => k_is); (case oi_Grove => k_is); (case of_Grove_answered => k_is); (case of_Grove_ask => k_is); (case of_Body_cells_in_hand => k_is); (case of_Body_fitting => k_is); (case of_Grove_fresh => k_is); (case of_Body_keep => k_is); (case of_Shelf_lay => k_is); (case of_Body_lay_way => k_is); (case of_Grove_left => k_is); (case of_Shelf_look => k_is); (case of_Body_look_way => k_is); (case of_Shelf_need_room => k_is); (case of_Grove_passed => k_is); (case of_Grove_pocket => k_is); (case of_Keeper_seen => k_is); (case of_Keeper_sees => k_is); (case of_Grove_touches => k_is); (case of_Body_word_of => k_is); (case oc_Store___init__ => k_is); (case a0 => k_is); (case l0 => k_is); (case c0 => k_is); (case k0 => k_is); (case a1 => k_is); (case l1 => k_is); (case c1 => k_is); (case k1 => k_is); (case a2 => k_is); (case l2 => k_is); (case c2 => k_is); (case k2 => k_is); (case a3 => k_is); (case l3 => k_is); (case c3 => k_is); (case k3 => k_is); (case a4 => k_is); (case l4 => k_is); (case c4 => k_is); (case k4 => k_is); (case a5 => k_is); (case l5 => k_is); (case c5 => k_is); (case k5 => k_is); (case a6 => k_is); (case l6 => k_is); (case c6 => k_is); (case k6 => k_is); (case a7 => k_is); (case l7 => k_is); (case c7 => k_is); (case k7 => k_is); (case a8 => k_is); (case l8 => k_is); (case c8 => k_is); (case k8 => k_is); (case a9 => k_is); (case l9 => k_is); (case c9 => k_is); (case k9 => k_is); (case a10 => k_is); (case l10 => k_is); (case c10 => k_is); (case k10 => k_is); (case a11 => k_is); (case l11 => k_is); (case c11 => k_is); (case k11 => k_is); (case a12 => k_is); (case l12 => k_is); (case c12 => k_is); (case k12 => k_is); (case a13 => k_is); (case l13 => k_is); (case c13 => k_is); (case k13 => k_is); (case a14 => k_is); (case l14 => k_is); (case c14 => k_is); (case k14 => k_is); (case a15 => k_is); (case l15 => k_is); (case c15 => k_is); (case k15 => k_is); (case a16 => k_is); (case l16 => k_is); (case c16 => k_is); (case k16 => k_is); (case a17 => k_is); (case l17 => k_is); (case c17 => k_is); (case k17 => k_is); (case a18 => k_is); (case l18 => k_is); (case c18 => k_is); (case k18 => k_is); (case a19 => k_is); (case l19 => k_is); (case c19 => k_is); (case k19 => k_is); (case a20 => k_is); (case l20 => k_is); (case c20 => k_is); (case k20 => k_is); (case a21 => k_is); (case l21 => k_is); (case c21 => k_is); (case k21 => k_is); (case a22 => k_is); (case l22 => k_is); (case c22 => k_is); (case k22 => k_is); (case a23 => k_is); (case l23 => k_is); (case c23 => k_is); (case k23 => k_is); (case a24 => k_is); (case l24 => k_is); (case c24 => k_is); (case k24 => k_is); (case a25 => k_is); (case l25 => k_is); (case c25 => k_is); (case k25 => k_is); (case a26 => k_is); (case l26 => k_is); (case c26 => k_is); (case k26 => k_is); (case a27 => k_is); (case l27 => k_is); (case c27 => k_is); (case k27 => k_is); (case a28 => k_is); (case l28 => k_is); (case c28 => k_is); (case k28 => k_is); (case a29 => k_is); (case l29 => k_is); (case c29 => k_is); (case k29 => k_is); (case a30 => k_is); (case l30 => k_is); (case c30 => k_is); (case k30 => k_is); (case a31 => k_is); (case l31 => k_is); (case c31 => k_is); (case k31 => k_is); (case a32 => k_is); (case l32 => k_is); (case c32 => k_is); (case k32 => k_is); (case a33 => k_is); (case l33 => k_is); (case c33 => k_is); (case k33 => k_is); (case a34 => k_is); (case l34 => k_is); (case c34 => k_is); (case k34 => k_is); (case a35 => k_is); (case l35 => k_is); (case c35 => k_is); (case k35 => k_is); (case a36 => k_is); (case l36 => k_is); (case c36 => k_is); (case k36 => k_is); (case a37 => k_is); (case l37 => k_is); (case c37 => k_is); (case k37 => k_is); (case a38 => k_is); (case l38 => k_is); (case c38 => k_is); (case k38 => k_is); (case a39 => k_is); (case l39 => k_is); (case c39 => k_is); (case k39 => k_is); (case a40 => k_is); (case l40 => k_is); (case c40 => k_is); (case k40 => k_is); (case a41 => k_is); (case l41 => k_is); (case c41 => k_is); (case k41 => k_is); (case a42 => k_is); (case l42 => k_is); (case c42 => k_is); (case k42 => k_is); (case a43 => k_is); (case l43 => k_is); (case c43 => k_is); (case k43 => k_is); (case a44 => k_is); (case l44 => k_is); (case c44 => k_is); (case k44 => k_is); (case a45 => k_is); (case l45 => k_is); (case c45 => k_is); (case k45 => k_is); (case a46 => k_is); (case l46 => k_is); (case c46 => k_is); (case k46 => k_is); (case a47 => k_is); (case l47 => k_is); (case c47 => k_is); (case k47 => k_is); (case a48 => k_is); (case l48 => k_is); (case c48 => k_is); (case k48 => k_is); (case a49 => k_is); (case l49 => k_is); (case c49 => k_is); (case k49 => k_is); (case a50 => k_is); (case l50 => k_is); (case c50 => k_is); (case k50 => k_is); (case a51 => k_is); (case l51 => k_is); (case c51 => k_is); (case k51 => k_is); (case a52 => k_is); (case l52 => k_is); (case c52 => k_is); (case k52 => k_is); (case a53 => k_is); (case l53 => k_is); (case c53 => k_is); (case k53 => k_is); (case a54 => k_is); (case l54 => k_is); (case c54 => k_is); (case k54 => k_is); (case a55 => k_is); (case l55 => k_is); (case c55 => k_is); (case k55 => k_is); (case a56 => k_is); (case l56 => k_is); (case c56 => k_is); (case k56 => k_is); (case a57 => k_is); (case l57 => k_is); (case c57 => k_is); (case k57 => k_is); (case a58 => k_is); (case l58 => k_is); (case c58 => k_is); (case k58 => k_is); (case a59 => k_is); (case l59 => k_is); (case c59 => k_is); (case k59 => k_is); (case a60 => k_is); (case l60 => k_is); (case c60 => k_is); (case k60 => k_is); (case a61 => k_is); (case l61 => k_is); (case c61 => k_is); (case k61 => k_is); (case a62 => k_is); (case l62 => k_is); (case c62 => k_is); (case k62 => k_is); (case a63 => k_is); (case l63 => k_is); (case c63 => k_is); (case k63 => k_is); (case a64 => k_is); (case l64 => k_is); (case c64 => k_is); (case k64 => k_is); (case z_all => k_is); (case z_bool => k_is); (case z_enumerate => k_is); (case z_int => k_is); (case z_isinstance => k_is); (case z_len => k_is); (case z_list => k_is); (case z_max => k_is); (case z_min => k_is); (case z_range => k_is); (case z_reversed => k_is); (case z_sorted => k_is); (case z_sum => k_is); (case z_tuple => k_is); (case xa_TouchError => k_is); (case xk_TouchError => k_is); (case xb_TouchError => k_is); (case xt_TouchError => k_is); (case x4_TouchError => k_is); (case xa_NoRoom => k_is); (case xk_NoRoom => k_is); (case xb_NoRoom => k_is); (case xt_NoRoom => k_is); (case x4_NoRoom => k_is); (case x1_NoRoom => k_is); (case x2_NoRoom => k_is); (case x5_NoRoom => k_is); (case x8_NoRoom => k_is); (case xa_NoAsk => k_is); (case xk_NoAsk => k_is); (case xb_NoAsk => k_is); (case xt_NoAsk => k_is); (case x4_NoAsk => k_is); (case xs_NoAsk => k_is); (case x1_NoAsk => k_is); (case x2_NoAsk => k_is); (case x5_NoAsk => k_is); (case x8_NoAsk => k_is); (case xa_NoSize => k_is); (case xk_NoSize => k_is); (case xb_NoSize => k_is); (case xt_NoSize => k_is); (case x4_NoSize => k_is); (case x1_NoSize => k_is); (case x2_NoSize => k_is); (case x5_NoSize => k_is); (case x8_NoSize => k_is); (case xa_Over => k_is); (case xk_Over => k_is); (case xb_Over => k_is); (case xt_Over => k_is); (case x4_Over => k_is); (case x1_Over => k_is); (case x2_Over => k_is); (case x5_Over => k_is); (case x8_Over => k_is); (case x6 => k_is); (case x7 => k_is); (case ni_NoAsk => k_is); (case su_NoRoom_NoAsk => k_is); (case su_NoAsk_NoAsk => k_is); (case su_NoSize_NoAsk => k_is); (case su_Over_NoAsk => k_is); (case su_NoRoom_TouchError => k_is); (case su_NoAsk_TouchError => k_is); (case su_NoSize_TouchError => k_is); (case su_Over_TouchError => k_is); (case ka_MOST_CELLS => k_is); (case ka_MOST_ASKS => k_is); (case ka_TABLE => k_is); (case ka_GREATEST => k_is); (case ka_SIDES => k_is); (case kl_SIDES => k_is); (case o1_Keeper => k_is); (case o2_Keeper => k_is); (case o3_Keeper => k_is); (case o4_Keeper => k_is); (case on_Keeper_log => k_is); (case o1_Shelf => k_is); (case o2_Shelf => k_is); (case o3_Shelf => k_is); (case o4_Shelf => k_is); (case on_Shelf_keeper => k_is); (case on_Shelf_number => k_is); (case on_Shelf_things => k_is); (case o1_Body => k_is); (case o2_Body => k_is); (case o3_Body => k_is); (case o4_Body => k_is); (case on_Body_shelf => k_is); (case on_Body_high => k_is); (case on_Body_firsts => k_is); (case on_Body_hand => k_is); (case o1_Grove => k_is); (case o2_Grove => k_is); (case o3_Grove => k_is); (case o4_Grove => k_is); (case on_Grove_cells => k_is); (case on_Grove_limit => k_is); (case on_Grove_draws => k_is); (case on_Grove_keeper => k_is); (case on_Grove_made => k_is); (case on_Grove_highs => k_is); (case on_Grove_bodies => k_is); (case on_Grove_start => k_is); (case on_Grove_table => k_is); (case om_Keeper => k_is); (case ok_Keeper => k_is); (case om_Shelf => k_is); (case ok_Shelf => k_is); (case om_Body => k_is); (case ok_Body => k_is); (case om_Grove => k_is); (case ok_Grove => k_is); (case or_Store => k_is); (case og_Store => k_is)
    (case xx_NoRoom => k_exc)
    (case xx_NoAsk => k_exc)
    (case xx_NoSize => k_exc)
    (case xx_Over => k_exc)
    (case kv_SIDES => rfl)
    (case kz_SIDES => decide)
